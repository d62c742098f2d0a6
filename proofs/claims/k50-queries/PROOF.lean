import PyProof.Rows.All
import Wide.All
import OpenK.AllK
import Wide.FinOn
import HandS.ForMost
import HandS.WordsExc
import HandS.Lambda
import HandS.ExcCtx
import HandS.HotCalls
import HandS.ExcIs
import HandS.Flow
import HandS.Wide
import HandS.HeadHook1
import HandS.Defaults
import KE.GoesRaise
import HandS.IsInst
import HandS.StrMore
import HandS.SortInts
import HandS.TupAny
import HandS.TupMul
import HandS.Deep
import HandS.HeadHook2
import HandS.HeadHook3
import HandS.HeadHook4
import HandS.HeadWalk
import HandS.HeadEnd
import HandS.Head0
import HandS.Head1
import HandS.Head2
import PyProof.EnumMake
import PyProof.Draws
import HandS.Small
import HandS.TryOnly
import HandS.RaiseMore
import HandS.ReplaceLit
import HandS.Codes
import PyProof.StrLawsFrom
import PySem.Challenge.RW_lettershelf_k50_queries_written_and_read
set_option Elab.async false
set_option linter.all false
set_option maxRecDepth 100000
set_option maxHeartbeats 4000000
/-! Mir, part A: data, what represents it, the ghost part of the heap, results, judgements. -/
namespace Mir
open PySem PySem.Spec PyProof.Rows L2

abbrev St := L2.St
/-- Python data; scr: the script; obj: an object of the store, by its number; exc: an exception that is held -/
inductive D where
  | non
  | bl (b : Bool)
  | int (i : Int)
  | str (x : Str)
  | tup (xs : List D)
  | lst (xs : List D)
  | dct (kvs : List (Key × D))
  | scr (ns : List Int)
  | obj (n : Nat)
  | exc (a : Addr)
/-- an object of the store -/
inductive Ob where
  | lst (xs : List D)
  | dct (kvs : List (Key × D))
  | ins (c : Str) (fs : List (Str × D))
  /-- a dict while it is walked -/
  | lck (kvs : List (Key × D))
abbrev Sto := List Ob

/-- the ghost: what is frozen for good; where the store's objects stand -/
structure Gh where
  G : Hp
  r : Nat → Option Addr

mutual
inductive Rep (K : PySem.W.Frag) (g : Gh) : V → D → Prop
  | non : Rep K g .non .non
  | bl (b : Bool) : Rep K g (.bl b) (.bl b)
  | int (i : Int) : Rep K g (.int i) (.int i)
  | str (x : Str) : Rep K g (.str x) (.str x)
  | tup {a : Addr} {xs : List V} {ds : List D} : SqT K g.G a xs → Reps K g xs ds → Rep K g (.ref a) (.tup ds)
  | lst {a : Addr} {xs : List V} {ds : List D} : g.G a = some (.lst xs) → Reps K g xs ds → Rep K g (.ref a) (.lst ds)
  | dct {a : Addr} {ks : List Key} {xs : List V} {ds : List D} : g.G a = some (.dK (ks.zip xs)) → ks.length = xs.length → Reps K g xs ds → Rep K g (.ref a) (.dct (ks.zip ds))
  | scr {a : Addr} {ns : List Int} : SqL K g.G a (ns.map V.int) → Rep K g (.ref a) (.scr ns)
  | obj {a : Addr} {n : Nat} : g.r n = some a → Rep K g (.ref a) (.obj n)
  | exc {a : Addr} : Rep K g (.ref a) (.exc a)
inductive Reps (K : PySem.W.Frag) (g : Gh) : List V → List D → Prop
  | nil : Reps K g [] []
  | cons {v : V} {vs : List V} {d : D} {ds : List D} : Rep K g v d → Reps K g vs ds → Reps K g (v :: vs) (d :: ds)
end

/-- the ghost grows -/
structure Le (g g' : Gh) : Prop where
  G : ∀ a o, g.G a = some o → g'.G a = some o
  r : ∀ n a, g.r n = some a → g'.r n = some a
theorem Le.refl (g : Gh) : Le g g := ⟨fun _ _ h => h, fun _ _ h => h⟩
theorem Le.trans {g g1 g2 : Gh} (a : Le g g1) (b : Le g1 g2) : Le g g2 := ⟨fun x o h => b.G x o (a.G x o h), fun n x h => b.r n x (a.r n x h)⟩

theorem rd_mono {H H' : Hp} {a : Addr} {u : HO} (e : ∀ a o, H a = some o → H' a = some o) (h : Rd H a u) : Rd H' a u := by
  rcases h with h | ⟨o, h⟩
  · exact .inl (e _ _ h)
  · exact .inr ⟨o, e _ _ h⟩
theorem sqT_mono {K : PySem.W.Frag} {H H' : Hp} {a : Addr} {xs : List V} (e : ∀ a o, H a = some o → H' a = some o) (h : SqT K H a xs) : SqT K H' a xs := by
  rcases h with h | h
  · exact .inl (rd_mono e h)
  · exact .inr h
theorem sqL_mono {K : PySem.W.Frag} {H H' : Hp} {a : Addr} {xs : List V} (e : ∀ a o, H a = some o → H' a = some o) (h : SqL K H a xs) : SqL K H' a xs := by
  rcases h with h | h
  · exact .inl (rd_mono e h)
  · exact .inr h

section
variable {K : PySem.W.Frag} {g g' : Gh}
mutual
theorem Rep.mono (e : Le g g') : ∀ {v : V} {d : D}, Rep K g v d → Rep K g' v d
  | _, _, .non => .non
  | _, _, .bl b => .bl b
  | _, _, .int i => .int i
  | _, _, .str x => .str x
  | _, _, .tup h r => .tup (sqT_mono e.G h) (Reps.mono e r)
  | _, _, .lst h r => .lst (e.G _ _ h) (Reps.mono e r)
  | _, _, .dct h l r => .dct (e.G _ _ h) l (Reps.mono e r)
  | _, _, .scr h => .scr (sqL_mono e.G h)
  | _, _, .obj h => .obj (e.r _ _ h)
  | _, _, .exc => .exc
theorem Reps.mono (e : Le g g') : ∀ {vs : List V} {ds : List D}, Reps K g vs ds → Reps K g' vs ds
  | _, _, .nil => .nil
  | _, _, .cons h r => .cons (Rep.mono e h) (Reps.mono e r)
end
theorem Reps.length : ∀ {vs : List V} {ds : List D}, Reps K g vs ds → vs.length = ds.length
  | _, _, .nil => rfl
  | _, _, .cons _ r => congrArg (· + 1) (Reps.length r)
theorem Reps.get : ∀ {vs : List V} {ds : List D} {i : Nat} {d : D}, Reps K g vs ds → ds[i]? = some d → ∃ v, vs[i]? = some v ∧ Rep K g v d
  | _, _, _, _, .nil, e => by simp at e
  | _, _, 0, _, .cons h _, e => by simp at e; subst e; exact ⟨_, rfl, h⟩
  | _, _, i + 1, d, .cons _ r, e => by
    obtain ⟨v, h1, h2⟩ := Reps.get (i := i) (d := d) r (by simpa using e)
    exact ⟨v, by simpa using h1, h2⟩
theorem Reps.get' : ∀ {vs : List V} {ds : List D} {i : Nat} {v : V}, Reps K g vs ds → vs[i]? = some v → ∃ d, ds[i]? = some d ∧ Rep K g v d
  | _, _, _, _, .nil, e => by simp at e
  | _, _, 0, _, .cons h _, e => by simp at e; subst e; exact ⟨_, rfl, h⟩
  | _, _, i + 1, d, .cons _ r, e => by
    obtain ⟨v, h1, h2⟩ := Reps.get' (i := i) (v := d) r (by simpa using e)
    exact ⟨v, by simpa using h1, h2⟩
theorem Reps.append : ∀ {vs ws : List V} {ds es : List D}, Reps K g vs ds → Reps K g ws es → Reps K g (vs ++ ws) (ds ++ es)
  | _, _, _, _, .nil, s => s
  | _, _, _, _, .cons h r, s => .cons h (Reps.append r s)
theorem Reps.set {v : V} {d : D} (h : Rep K g v d) : ∀ {vs : List V} {ds : List D} (i : Nat), Reps K g vs ds → Reps K g (vs.set i v) (ds.set i d)
  | _, _, _, .nil => .nil
  | _, _, 0, .cons _ r => .cons h r
  | _, _, i + 1, .cons q r => .cons q (Reps.set h i r)
theorem Reps.take : ∀ {vs : List V} {ds : List D} (n : Nat), Reps K g vs ds → Reps K g (vs.take n) (ds.take n)
  | _, _, 0, _ => .nil
  | _, _, _ + 1, .nil => .nil
  | _, _, n + 1, .cons h r => .cons h (Reps.take n r)
theorem Reps.drop : ∀ {vs : List V} {ds : List D} (n : Nat), Reps K g vs ds → Reps K g (vs.drop n) (ds.drop n)
  | _, _, 0, r => r
  | _, _, _ + 1, .nil => .nil
  | _, _, n + 1, .cons _ r => Reps.drop n r
end

/-- what a list or dict of one's own stands for: it stands in H, neither frozen nor in the store -/
inductive Own (K : PySem.W.Frag) (g : Gh) (H : Hp) : V → D → Prop
  | lst {a : Addr} {xs : List V} {ds : List D} : g.G a = none → (∀ n, g.r n ≠ some a) → H a = some (.lst xs) → Reps K g xs ds → Own K g H (.ref a) (.lst ds)
  | dct {a : Addr} {ks : List Key} {xs : List V} {ds : List D} : g.G a = none → (∀ n, g.r n ≠ some a) → H a = some (.dK (ks.zip xs)) → ks.length = xs.length → Reps K g xs ds → Own K g H (.ref a) (.dct (ks.zip ds))

/-- pairs -/
inductive KR {κ : Type} (K : PySem.W.Frag) (g : Gh) : List (κ × V) → List (κ × D) → Prop
  | nil : KR K g [] []
  | cons {k : κ} {v : V} {d : D} {r : List (κ × V)} {r' : List (κ × D)} : Rep K g v d → KR K g r r' → KR K g ((k, v) :: r) ((k, d) :: r')
theorem KR.mono {κ : Type} {K : PySem.W.Frag} {g g' : Gh} (e : Le g g') : ∀ {r : List (κ × V)} {r' : List (κ × D)}, KR K g r r' → KR K g' r r'
  | _, _, .nil => .nil
  | _, _, .cons h q => .cons (h.mono e) (KR.mono e q)
/-- an object of the store stands at a -/
inductive ObOk (K : PySem.W.Frag) (g : Gh) (H : Hp) (a : Addr) : Ob → Prop
  | lst {xs : List V} {ds : List D} : H a = some (.lst xs) → Reps K g xs ds → ObOk K g H a (.lst ds)
  | dct {kvs : List (Key × V)} {kds : List (Key × D)} : H a = some (.dK kvs) → KR K g kvs kds → ObOk K g H a (.dct kds)
  | ins {c : Str} {dx : Addr} {fs : List (Str × V)} {fds : List (Str × D)} : H a = some (.ins (He.ga K c) dx fs) → KR K g fs fds → ObOk K g H a (.ins c fds)
  | lck {od : Obj} {kvs : List (Key × V)} {kds : List (Key × D)} : H a = some (.frz od (.dK kvs)) → g.G a = some (.frz od (.dK kvs)) → KR K g kvs kds → ObOk K g H a (.lck kds)

/-- a state of ours: T the code tables -/
structure WF (K : PySem.W.Frag) (T : List (Addr × Str)) (g : Gh) (H : Hp) (s : Sto) : Prop where
  sub : ∀ a o, g.G a = some o → H a = some o
  inj : ∀ n m a, g.r n = some a → g.r m = some a → n = m
  out : ∀ n a, g.r n = some a → ∀ o, g.G a = some o → ∃ od kvs, o = .frz od (.dK kvs)
  sto : ∀ n o, s[n]? = some o → ∃ a, g.r n = some a ∧ ObOk K g H a o
  nxt : ∀ n a, g.r n = some a → n < s.length
  tab : LamX.Tabs T H
  notab : ∀ a ps, g.G a ≠ some (.tbl ps)

/-- the step from a state to a later one: the store's objects and the tables may change, all else that stands stays -/
structure Ext (g : Gh) (H : Hp) (g' : Gh) (H' : Hp) : Prop where
  le : Le g g'
  keep : ∀ a o, H a = some o → (∀ n, g.r n ≠ some a) → (∀ ps, o ≠ .tbl ps) → H' a = some o
  newG : ∀ a, H a ≠ none → g'.G a = g.G a
  newR : ∀ n a, g'.r n = some a → g.r n = some a ∨ H a = none
  dom : ∀ a, H a ≠ none → H' a ≠ none
theorem Ext.refl (g : Gh) (H : Hp) : Ext g H g H := ⟨Le.refl g, fun _ _ h _ _ => h, fun _ _ => rfl, fun _ _ h => .inl h, fun _ h => h⟩
theorem Ext.trans {g g1 g2 : Gh} {H H1 H2 : Hp} (a : Ext g H g1 H1) (b : Ext g1 H1 g2 H2) : Ext g H g2 H2 where
  le := a.le.trans b.le
  keep := fun x o h n t => b.keep x o (a.keep x o h n t) (fun m q => by
    rcases a.newR m x q with z | z
    · exact n m z
    · rw [h] at z; cases z) t
  newG := fun x h => (b.newG x (a.dom x h)).trans (a.newG x h)
  newR := fun n x h => by
    rcases b.newR n x h with z | z
    · exact a.newR n x z
    · refine .inr ?_
      cases q : H x with
      | none => rfl
      | some o => exact absurd z (a.dom x (by rw [q]; simp))
  dom := fun x h => b.dom x (a.dom x h)
theorem Ext.fresh {g g' : Gh} {H H' : Hp} (e : Ext g H g' H') {p : Addr} (h : H' p = none) : H p = none := by
  cases q : H p with
  | none => rfl
  | some o => exact absurd h (e.dom p (by rw [q]; simp))

section
variable {K : PySem.W.Frag} {T : List (Addr × Str)} {g g' : Gh} {H H' : Hp} {s : Sto} {v : V} {d : D}
theorem Own.ext (e : Ext g H g' H') (h : Own K g H v d) : Own K g' H' v d := by
  cases h with
  | @lst a xs ds h1 h2 h3 h4 =>
    have ne : H a ≠ none := by rw [h3]; simp
    refine .lst ((e.newG a ne).trans h1) (fun n q => ?_) (e.keep a _ h3 h2 (fun ps => by simp)) (h4.mono e.le)
    rcases e.newR n a q with z | z
    · exact h2 n z
    · exact ne z
  | @dct a ks xs ds h1 h2 h3 l h4 =>
    have ne : H a ≠ none := by rw [h3]; simp
    refine .dct ((e.newG a ne).trans h1) (fun n q => ?_) (e.keep a _ h3 h2 (fun ps => by simp)) l (h4.mono e.le)
    rcases e.newR n a q with z | z
    · exact h2 n z
    · exact ne z

theorem ObOk.move {a : Addr} (e : Le g g') (k : H' a = H a) {o : Ob} (h : ObOk K g H a o) : ObOk K g' H' a o := by
  cases h with
  | lst h r => exact .lst (k.trans h) (r.mono e)
  | dct h r => exact .dct (k.trans h) (r.mono e)
  | ins h r => exact .ins (k.trans h) (r.mono e)
  | lck h hg r => exact .lck (k.trans h) (e.G _ _ hg) (r.mono e)
/-- what may stand for an object of the store -/
def Stb (u : HO) : Prop := (∃ xs, u = .lst xs) ∨ (∃ kvs, u = .dK kvs) ∨ (∃ c dx fs, u = .ins c dx fs) ∨ ∃ o kvs, u = .frz o (.dK kvs)
theorem Stb.ntbl {u : HO} (h : Stb u) (ps : Array Value) : u ≠ .tbl ps := by
  rcases h with ⟨_, rfl⟩ | ⟨_, rfl⟩ | ⟨_, _, _, rfl⟩ | ⟨_, _, rfl⟩ <;> simp
theorem Stb.ncode {u : HO} (h : Stb u) (c : Addr) (q : Str) : u ≠ LamX.CodeO c q := by
  unfold LamX.CodeO
  rcases h with ⟨_, rfl⟩ | ⟨_, rfl⟩ | ⟨_, _, _, rfl⟩ | ⟨_, _, rfl⟩ <;> simp
theorem ObOk.stb {a : Addr} {o : Ob} (h : ObOk K g H a o) : ∃ u, H a = some u ∧ Stb u := by
  cases h with
  | lst h r => exact ⟨_, h, .inl ⟨_, rfl⟩⟩
  | dct h r => exact ⟨_, h, .inr (.inl ⟨_, rfl⟩)⟩
  | ins h r => exact ⟨_, h, .inr (.inr (.inl ⟨_, _, _, rfl⟩))⟩
  | lck h _ r => exact ⟨_, h, .inr (.inr (.inr ⟨_, _, rfl⟩))⟩
theorem ObOk.there {a : Addr} {o : Ob} (h : ObOk K g H a o) : ∃ u, H a = some u ∧ (∀ ps, u ≠ .tbl ps) := by
  obtain ⟨u, h1, h2⟩ := h.stb
  exact ⟨u, h1, h2.ntbl⟩
/-- p frozen -/
def Gh.frz (g : Gh) (p : Addr) (o : HO) : Gh := { g with G := upd g.G p o }
theorem Gh.frz_le {p : Addr} {o : HO} (h : g.G p = none ∨ g.G p = some o) : Le g (g.frz p o) := ⟨fun a u e => by
  show upd g.G p o a = some u
  by_cases q : a = p
  · subst q
    rcases h with z | z
    · rw [z] at e; cases e
    · rw [z] at e; cases e; exact upd_same
  · rw [upd_ne q]; exact e, fun _ _ e => e⟩
theorem Gh.frz_at {p : Addr} {o : HO} : (g.frz p o).G p = some o := upd_same
theorem WF.rne (w : WF K T g H s) {n : Nat} {p : Addr} (h : H p = none) : g.r n ≠ some p := fun q => by
  have hn := w.nxt n p q
  obtain ⟨a, h1, h2⟩ := w.sto n s[n] (List.getElem?_eq_getElem hn)
  rw [q] at h1; cases h1
  obtain ⟨u, hu, _⟩ := h2.there
  rw [h] at hu; cases hu
theorem WF.gne (w : WF K T g H s) {p : Addr} (h : H p = none) : g.G p = none := by
  cases q : g.G p with
  | none => rfl
  | some o => rw [w.sub p o q] at h; cases h
theorem upd_keep {p : Addr} {o : HO} (h : H p = none) : ∀ b u, H b = some u → upd H p o b = some u := fun b u e => by
  rw [upd_ne (ne_of_none e h)]; exact e
/-- a new object, one's own -/
theorem Ext.new {p : Addr} {o : HO} (h : H p = none) : Ext g H g (upd H p o) := ⟨Le.refl g, fun a u e _ _ => upd_keep h a u e, fun _ _ => rfl, fun _ _ e => .inl e, fun a ha => by
  cases q : H a with
  | none => exact absurd q ha
  | some u => rw [upd_keep h a u q]; simp⟩
theorem WF.new (w : WF K T g H s) {p : Addr} {o : HO} (h : H p = none) : WF K T g (upd H p o) s where
  sub := fun a u e => upd_keep h a u (w.sub a u e)
  inj := w.inj
  out := w.out
  sto := fun n ob e => by
    obtain ⟨a, h1, h2⟩ := w.sto n ob e
    exact ⟨a, h1, h2.move (Le.refl g) (upd_ne fun q => by subst q; exact w.rne h h1)⟩
  nxt := w.nxt
  tab := w.tab.ext (upd_keep h)
  notab := w.notab
/-- what stands is frozen -/
theorem WF.freeze (w : WF K T g H s) {p : Addr} {o : HO} (h : H p = some o) (hr : ∀ n, g.r n ≠ some p) (ht : ∀ ps, o ≠ .tbl ps) : WF K T (g.frz p o) H s where
  sub := fun a u e => by
    have e : upd g.G p o a = some u := e
    by_cases q : a = p
    · subst q; rw [upd_same] at e; cases e; exact h
    · rw [upd_ne q] at e; exact w.sub a u e
  inj := w.inj
  out := fun n a e u hu => by
    have hu : upd g.G p o a = some u := hu
    rw [upd_ne (fun q => by subst q; exact hr n e)] at hu; exact w.out n a e u hu
  sto := fun n ob e => by
    obtain ⟨a, h1, h2⟩ := w.sto n ob e
    refine ⟨a, h1, h2.move (Gh.frz_le ?_) rfl⟩
    cases q : g.G p with
    | none => exact .inl rfl
    | some u => have := w.sub p u q; rw [h] at this; cases this; exact .inr rfl
  nxt := w.nxt
  tab := w.tab
  notab := fun a ps e => by
    have e : upd g.G p o a = some (.tbl ps) := e
    by_cases q : a = p
    · subst q; rw [upd_same] at e; cases e; exact ht ps rfl
    · rw [upd_ne q] at e; exact w.notab a ps e
theorem Ext.freeze (e : Ext g H g' H') {p : Addr} {o : HO} (h : H p = none) (hg : g'.G p = none ∨ g'.G p = some o) : Ext g H (g'.frz p o) H' where
  le := e.le.trans (Gh.frz_le hg)
  keep := e.keep
  newG := fun a ha => by
    show upd g'.G p o a = g.G a
    rw [upd_ne (fun q => by subst q; exact ha h)]; exact e.newG a ha
  newR := e.newR
  dom := e.dom
theorem WF.newF (w : WF K T g H s) {p : Addr} {o : HO} (h : H p = none) (ht : ∀ ps, o ≠ .tbl ps) : WF K T (g.frz p o) (upd H p o) s :=
  (w.new h).freeze upd_same (fun n => w.rne h) ht
theorem WF.extF (w : WF K T g H s) {p : Addr} {o : HO} (h : H p = none) : Ext g H (g.frz p o) (upd H p o) := (Ext.new h).freeze h (.inl (w.gne h))
/-- one's own is changed -/
theorem WF.mut (w : WF K T g H s) {p : Addr} {o o' : HO} (h : H p = some o) (hl : (∃ xs, o = .lst xs) ∨ (∃ kvs, o = .dK kvs)) (hg : g.G p = none) (hr : ∀ n, g.r n ≠ some p) : WF K T g (upd H p o') s where
  sub := fun a u e => by
    rw [upd_ne (fun q => by subst q; rw [hg] at e; cases e)]; exact w.sub a u e
  inj := w.inj
  out := w.out
  sto := fun n ob e => by
    obtain ⟨a, h1, h2⟩ := w.sto n ob e
    exact ⟨a, h1, h2.move (Le.refl g) (upd_ne fun q => by subst q; exact hr n h1)⟩
  nxt := w.nxt
  tab := fun q hq => by
    obtain ⟨ps, h1, h2, h3⟩ := w.tab q hq
    have n1 : q.1 ≠ p := fun z => by
      rw [z, h] at h1
      rcases hl with ⟨xs, rfl⟩ | ⟨kvs, rfl⟩ <;> cases h1
    refine ⟨ps, by rw [upd_ne n1]; exact h1, h2, fun pos cv hc => ?_⟩
    obtain ⟨c, e1, e2⟩ := h3 pos cv hc
    refine ⟨c, e1, ?_⟩
    rw [upd_ne fun z => ?_]
    · exact e2
    · rw [z, h] at e2
      rcases hl with ⟨xs, rfl⟩ | ⟨kvs, rfl⟩ <;> (unfold LamX.CodeO at e2; cases e2)
  notab := w.notab
/-- against the entry, too -/
theorem Ext.mut (e : Ext g H g' H') {p : Addr} {o' : HO} (h : H p = none) : Ext g H g' (upd H' p o') where
  le := e.le
  keep := fun a o ha n t => by
    rw [upd_ne (ne_of_none ha h)]; exact e.keep a o ha n t
  newG := e.newG
  newR := e.newR
  dom := fun a ha => by
    by_cases q : a = p
    · subst q; rw [upd_same]; simp
    · rw [upd_ne q]; exact e.dom a ha
end

/-! ### results -/
inductive R (α : Type) where
  | ok (a : α) (s : Sto)
  | exc (c : Str) (s : Sto)
  | no
abbrev M (α : Type) := Sto → R α
@[inline] def R.bind {α β : Type} (r : R α) (f : α → M β) : R β := match r with
  | .ok a s => f a s
  | .exc c s => .exc c s
  | .no => .no
def M.ret {α : Type} (a : α) : M α := fun s => .ok a s
def M.opt {α : Type} : Option α → M α
  | some a => fun s => .ok a s
  | none => fun _ => .no
abbrev Ev := List (Option D)
abbrev ED := Ev → M D
abbrev TD := Ev → M Bool
abbrev AD := Ev → M (List D)
inductive Fl where
  | nx (τ : Ev)
  | rt (d : D)
  | bk (τ : Ev)
  | ct (τ : Ev)
abbrev SD := Ev → M Fl

/-! ### judgements -/
structure Ctx where
  X : Cx
  T : List (Addr × Str)
  W : XK
  O : Nat → Bool
/-- kinds of values: o: a list or dict is new and one's own; z: frozen; b: to be read -/
inductive Kd where
  | o | z | b
def isCt : D → Bool
  | .lst _ => true
  | .dct _ => true
  | _ => false
def RK (k : Kd) (K : PySem.W.Frag) (g : Gh) (H0 H : Hp) (v : V) (d : D) : Prop := match k with
  | .z => Rep K g v d
  | .b => Rep K g v d ∨ Own K g H v d
  | .o => (isCt d = false ∧ Rep K g v d) ∨ (Own K g H v d ∧ ∃ p, v = .ref p ∧ H0 p = none)
/-- the slots -/
structure Sl (K : PySem.W.Frag) (g : Gh) (H : Hp) (O : Nat → Bool) (σ : St) (τ : Ev) : Prop where
  len : σ.length = τ.length
  at_ : ∀ i d, τ[i]? = some (some d) → ∃ v, σ[i]? = some (some v) ∧ (if O i = true then Own K g H v d else Rep K g v d)
  ne : ∀ i j p, O i = true → O j = true → i ≠ j → σ[i]? = some (some (.ref p)) → σ[j]? = some (some (.ref p)) → τ[i]? = some none ∨ τ[j]? = some none
theorem Sl.ext {K : PySem.W.Frag} {g g' : Gh} {H H' : Hp} {O : Nat → Bool} {σ : St} {τ : Ev} (e : Ext g H g' H') (h : Sl K g H O σ τ) : Sl K g' H' O σ τ :=
  ⟨h.len, fun i d hd => by
    obtain ⟨v, h1, h2⟩ := h.at_ i d hd
    refine ⟨v, h1, ?_⟩
    by_cases q : O i = true
    · rw [if_pos q] at h2 ⊢; exact h2.ext e
    · rw [if_neg q] at h2 ⊢; exact h2.mono e.le, h.ne⟩
structure Ok (c : Ctx) (g : Gh) (H : Hp) (s : Sto) (σ : St) (τ : Ev) : Prop where
  wf : WF c.X.K c.T g H s
  sl : Sl c.X.K g H c.O σ τ
abbrev clsV (K : PySem.W.Frag) (c : Str) : Value := .ref (He.ga K c)
/-- what is wanted behind a run -/
def Pg (c : Ctx) (g : Gh) (H : Hp) {β : Type} (C : β → Sto → Gh → Hp → Prop) : R β → Prop
  | .ok b s' => ∀ g' H', Ext g H g' H' → WF c.X.K c.T g' H' s' → C b s' g' H'
  | .exc cl s' => ∀ g' H', Ext g H g' H' → WF c.X.K c.T g' H' s' → c.W (clsV c.X.K cl) none H'
  | .no => False
theorem Pg.seq {c : Ctx} {g : Gh} {H : Hp} {α β : Type} {C : β → Sto → Gh → Hp → Prop} {C' : α → Sto → Gh → Hp → Prop} {r : R α} {f : α → M β} (h : Pg c g H C (r.bind f))
    (k : ∀ a s1 g1 H1, r = .ok a s1 → Ext g H g1 H1 → WF c.X.K c.T g1 H1 s1 → Pg c g1 H1 C (f a s1) → C' a s1 g1 H1) : Pg c g H C' r := by
  cases r with
  | ok a s1 =>
    intro g1 H1 e1 w1
    refine k a s1 g1 H1 rfl e1 w1 ?_
    have h : Pg c g H C (f a s1) := h
    cases q : f a s1 with
    | ok b s2 => rw [q] at h; exact fun g2 H2 e2 w2 => h g2 H2 (e1.trans e2) w2
    | exc cl s2 => rw [q] at h; exact fun g2 H2 e2 w2 => h g2 H2 (e1.trans e2) w2
    | no => rw [q] at h; exact h
  | exc cl s1 => exact h
  | no => exact h
theorem Pg.opt {c : Ctx} {g : Gh} {H : Hp} {β : Type} {C : β → Sto → Gh → Hp → Prop} {o : Option β} {s : Sto} (h : Pg c g H C (M.opt o s)) : ∃ b, o = some b ∧ ∀ g' H', Ext g H g' H' → WF c.X.K c.T g' H' s → C b s g' H' := by
  cases o with
  | none => exact h.elim
  | some b => exact ⟨b, rfl, h⟩
theorem Pg.imp {c : Ctx} {g : Gh} {H : Hp} {β : Type} {C C' : β → Sto → Gh → Hp → Prop} {r : R β} (h : Pg c g H C r) (k : ∀ a s1 g1 H1, Ext g H g1 H1 → WF c.X.K c.T g1 H1 s1 → C a s1 g1 H1 → C' a s1 g1 H1) : Pg c g H C' r := by
  cases r with
  | ok a s1 => exact fun g1 H1 e1 w1 => k a s1 g1 H1 e1 w1 (h g1 H1 e1 w1)
  | exc cl s1 => exact h
  | no => exact h
theorem Pg.mono {c : Ctx} {g g1 : Gh} {H H1 : Hp} {β : Type} {C : β → Sto → Gh → Hp → Prop} {r : R β} (e : Ext g H g1 H1) (h : Pg c g H C r) : Pg c g1 H1 C r := by
  cases r with
  | ok a s1 => exact fun g2 H2 e2 w2 => h g2 H2 (e.trans e2) w2
  | exc cl s1 => exact fun g2 H2 e2 w2 => h g2 H2 (e.trans e2) w2
  | no => exact h
/-- here and now -/
theorem Pg.now {c : Ctx} {g : Gh} {H : Hp} {β : Type} {C : β → Sto → Gh → Hp → Prop} {b : β} {s : Sto} (h : Pg c g H C (.ok b s)) (w : WF c.X.K c.T g H s) : C b s g H := h g H (Ext.refl g H) w
def DE (k : Kd) (c : Ctx) (e : Expr) (f : ED) : Prop := ∃ t : TE, PE c.X e t ∧ ∀ g H s σ τ Q, Ok c g H s σ τ → Pg c g H (fun d _ g' H' => ∀ v, RK k c.X.K g' H H' v d → Q v H') (f τ s) → t σ H Q
def DT (c : Ctx) (e : Expr) (f : TD) : Prop := ∃ t : TT, PT c.X e t ∧ ∀ g H s σ τ Q, Ok c g H s σ τ → Pg c g H (fun b _ _ H' => Q b H') (f τ s) → t σ H Q
/-- the ands and ors -/
def DW (c : Ctx) (e : Expr) (f : TD) : Prop := ∃ t : TT, PW c.X e t ∧ ∀ g H s σ τ Q, Ok c g H s σ τ → Pg c g H (fun b _ _ H' => Q b H') (f τ s) → t σ H Q
inductive RKs (k : Kd) (K : PySem.W.Frag) (g : Gh) (H0 H : Hp) : List V → List D → Prop
  | nil : RKs k K g H0 H [] []
  | cons {v : V} {vs : List V} {d : D} {ds : List D} : RK k K g H0 H v d → RKs k K g H0 H vs ds → RKs k K g H0 H (v :: vs) (d :: ds)
def DA (k : Kd) (c : Ctx) (es : List Expr) (f : AD) : Prop := ∃ t : TA, PA c.X es t ∧ ∀ g H s σ τ Q, Ok c g H s σ τ → Pg c g H (fun ds _ g' H' => ∀ vs, RKs k c.X.K g' H H' vs ds → Q vs H') (f τ s) → t σ H Q
theorem RK.ext {k : Kd} {K : PySem.W.Frag} {g g' : Gh} {H0 H1 H H' : Hp} {v : V} {d : D} (e : Ext g H g' H') (h0 : ∀ p, H0 p = none → H1 p = none) (h : RK k K g H0 H v d) : RK k K g' H1 H' v d := by
  cases k with
  | z => exact Rep.mono e.le h
  | b =>
    rcases h with h | h
    · exact .inl (h.mono e.le)
    · exact .inr (h.ext e)
  | o =>
    rcases h with ⟨h1, h⟩ | ⟨h, p, h1, h2⟩
    · exact .inl ⟨h1, h.mono e.le⟩
    · exact .inr ⟨h.ext e, p, h1, h0 p h2⟩
theorem RKs.ext {k : Kd} {K : PySem.W.Frag} {g g' : Gh} {H0 H1 H H' : Hp} (e : Ext g H g' H') (h0 : ∀ p, H0 p = none → H1 p = none) : ∀ {vs : List V} {ds : List D}, RKs k K g H0 H vs ds → RKs k K g' H1 H' vs ds
  | _, _, .nil => .nil
  | _, _, .cons h r => .cons (h.ext e h0) (RKs.ext e h0 r)
theorem Ok.ext {c : Ctx} {g g' : Gh} {H H' : Hp} {s s' : Sto} {σ : St} {τ : Ev} (o : Ok c g H s σ τ) (e : Ext g H g' H') (w : WF c.X.K c.T g' H' s') : Ok c g' H' s' σ τ := ⟨w, o.sl.ext e⟩
end Mir

set_option Elab.async false
set_option linter.all false
set_option maxRecDepth 100000
set_option maxHeartbeats 4000000
/-! Mir, part B: expressions. -/
namespace Mir
open PySem PySem.Spec PyProof.Rows L2
/-! ### what readings evaluate to -/
def Evs (k : Kd) (c : Ctx) (t : TE) (f : ED) : Prop := ∀ g H s σ τ Q, Ok c g H s σ τ → Pg c g H (fun d _ g' H' => ∀ v, RK k c.X.K g' H H' v d → Q v H') (f τ s) → t σ H Q
def Evt (c : Ctx) (t : TT) (f : TD) : Prop := ∀ g H s σ τ Q, Ok c g H s σ τ → Pg c g H (fun b _ _ H' => Q b H') (f τ s) → t σ H Q
def Eva (k : Kd) (c : Ctx) (t : TA) (f : AD) : Prop := ∀ g H s σ τ Q, Ok c g H s σ τ → Pg c g H (fun ds _ g' H' => ∀ vs, RKs k c.X.K g' H H' vs ds → Q vs H') (f τ s) → t σ H Q
section
variable {c : Ctx}
theorem de_mk {k : Kd} {e : Expr} {t : TE} {f : ED} (p : PE c.X e t) (q : Evs k c t f) : DE k c e f := ⟨t, p, q⟩
theorem dt_mk {e : Expr} {t : TT} {f : TD} (p : PT c.X e t) (q : Evt c t f) : DT c e f := ⟨t, p, q⟩
/-! ### kinds -/
theorem RK.ob {K : PySem.W.Frag} {g : Gh} {H0 H : Hp} {v : V} {d : D} (h : RK .o K g H0 H v d) : RK .b K g H0 H v d := by
  rcases h with ⟨_, h⟩ | ⟨h, _⟩
  · exact .inl h
  · exact .inr h
theorem RK.of {K : PySem.W.Frag} {g : Gh} {H0 H : Hp} {v : V} {d : D} (h : Rep K g v d) (hc : isCt d = false := by rfl) : RK .o K g H0 H v d := .inl ⟨hc, h⟩
/-- what is new and one's own is frozen -/
theorem RK.oz {K : PySem.W.Frag} {T : List (Addr × Str)} {g g' : Gh} {H H' : Hp} {s : Sto} {v : V} {d : D} (e : Ext g H g' H') (w : WF K T g' H' s) (h : RK .o K g' H H' v d) : ∃ g2, Ext g H g2 H' ∧ WF K T g2 H' s ∧ Le g' g2 ∧ Rep K g2 v d := by
  rcases h with ⟨_, h⟩ | ⟨h, p, hp, hn⟩
  · exact ⟨g', e, w, Le.refl _, h⟩
  · cases h with
    | lst h1 h2 h3 h4 =>
      cases hp
      exact ⟨_, e.freeze hn (.inl h1), w.freeze h3 h2 (fun ps => by simp), Gh.frz_le (.inl h1), .lst Gh.frz_at (h4.mono (Gh.frz_le (.inl h1)))⟩
    | dct h1 h2 h3 l h4 =>
      cases hp
      exact ⟨_, e.freeze hn (.inl h1), w.freeze h3 h2 (fun ps => by simp), Gh.frz_le (.inl h1), .dct Gh.frz_at l (h4.mono (Gh.frz_le (.inl h1)))⟩
theorem evs_oz {t : TE} {f : ED} (q : Evs .o c t f) : Evs .z c t f := fun g H s σ τ Q o h => q g H s σ τ Q o (by
  cases r : f τ s with
  | ok d s' =>
    rw [r] at h
    intro g' H' e' w' v hv
    obtain ⟨g2, e2, w2, _, r2⟩ := hv.oz e' w'
    exact h g2 H' e2 w2 v r2
  | exc cl s' => rw [r] at h; exact h
  | no => rw [r] at h; exact h)
theorem de_oz {e : Expr} {f : ED} (h : DE .o c e f) : DE .z c e f := by
  obtain ⟨t, p, q⟩ := h
  exact ⟨t, p, evs_oz q⟩
theorem de_ob {e : Expr} {f : ED} (h : DE .o c e f) : DE .b c e f := by
  obtain ⟨t, p, q⟩ := h
  exact ⟨t, p, fun g H s σ τ Q o h => q g H s σ τ Q o (h.imp fun d s1 g1 H1 e1 w1 k v hv => k v hv.ob)⟩
theorem de_zb {e : Expr} {f : ED} (h : DE .z c e f) : DE .b c e f := by
  obtain ⟨t, p, q⟩ := h
  exact ⟨t, p, fun g H s σ τ Q o h => q g H s σ τ Q o (h.imp fun d s1 g1 H1 e1 w1 k v hv => k v (.inl hv))⟩
theorem RK.extB {K : PySem.W.Frag} {g g' : Gh} {H0 H1 H H' : Hp} {v : V} {d : D} (e : Ext g H g' H') (h : RK .b K g H0 H v d) : RK .b K g' H1 H' v d := by
  rcases h with h | h
  · exact .inl (h.mono e.le)
  · exact .inr (h.ext e)
theorem RKs.extB {K : PySem.W.Frag} {g g' : Gh} {H0 H1 H H' : Hp} (e : Ext g H g' H') : ∀ {vs : List V} {ds : List D}, RKs .b K g H0 H vs ds → RKs .b K g' H1 H' vs ds
  | _, _, .nil => .nil
  | _, _, .cons h r => .cons (h.extB e) (RKs.extB e r)
theorem RKs.reps {K : PySem.W.Frag} {g : Gh} {H0 H : Hp} : ∀ {vs : List V} {ds : List D}, RKs .z K g H0 H vs ds → Reps K g vs ds
  | _, _, .nil => .nil
  | _, _, .cons h r => .cons h (RKs.reps r)
/-! ### what a value that is read is -/
section
variable {K : PySem.W.Frag} {T : List (Addr × Str)} {g : Gh} {H0 H : Hp} {s : Sto} {v : V}
theorem RK.rep {k : Kd} {d : D} (h : RK k K g H0 H v d) (hc : isCt d = false := by rfl) : Rep K g v d := by
  cases k with
  | z => exact h
  | b =>
    rcases h with h | h
    · exact h
    · cases h <;> cases hc
  | o =>
    rcases h with ⟨_, h⟩ | ⟨h, _⟩
    · exact h
    · cases h <;> cases hc
theorem RK.bl {k : Kd} {b : Bool} (h : RK k K g H0 H v (.bl b)) : v = .bl b := by
  have h := h.rep
  cases h; rfl
theorem RK.int {k : Kd} {i : Int} (h : RK k K g H0 H v (.int i)) : v = .int i := by
  have h := h.rep
  cases h; rfl
theorem RK.str {k : Kd} {x : Str} (h : RK k K g H0 H v (.str x)) : v = .str x := by
  have h := h.rep
  cases h; rfl
theorem RK.non {k : Kd} (h : RK k K g H0 H v .non) : v = .non := by
  have h := h.rep
  cases h; rfl
theorem RK.tup (w : WF K T g H s) {k : Kd} {ds : List D} (h : RK k K g H0 H v (.tup ds)) : ∃ a xs, v = .ref a ∧ SqT K H a xs ∧ Reps K g xs ds := by
  have h := h.rep
  cases h with
  | tup h' r => exact ⟨_, _, rfl, sqT_mono w.sub h', r⟩
theorem RK.scr (w : WF K T g H s) {k : Kd} {ns : List Int} (h : RK k K g H0 H v (.scr ns)) : ∃ a, v = .ref a ∧ SqL K H a (ns.map V.int) := by
  have h := h.rep
  cases h with
  | scr h' => exact ⟨_, rfl, sqL_mono w.sub h'⟩
theorem RK.lst (w : WF K T g H s) {ds : List D} (h : RK .b K g H0 H v (.lst ds)) : ∃ a xs, v = .ref a ∧ H a = some (.lst xs) ∧ Reps K g xs ds := by
  rcases h with h | h
  · cases h with
    | lst h r => exact ⟨_, _, rfl, w.sub _ _ h, r⟩
  · cases h with
    | lst h1 h2 h3 h4 => exact ⟨_, _, rfl, h3, h4⟩
theorem RK.dct (w : WF K T g H s) {kds : List (Key × D)} (h : RK .b K g H0 H v (.dct kds)) : ∃ (a : Addr) (ks : List Key) (xs : List V) (ds : List D), v = .ref a ∧ kds = ks.zip ds ∧ H a = some (.dK (ks.zip xs)) ∧ ks.length = xs.length ∧ Reps K g xs ds := by
  rcases h with h | h
  · cases h with
    | dct h l r => exact ⟨_, _, _, _, rfl, rfl, w.sub _ _ h, l, r⟩
  · cases h with
    | dct h1 h2 h3 l h4 => exact ⟨_, _, _, _, rfl, rfl, h3, l, h4⟩
end
/-! ### names, constants -/
def eVar (i : Nat) : ED := fun τ => match τ[i]? with
  | some (some d) => M.ret d
  | _ => fun _ => .no
def eC (d : D) : ED := fun _ => M.ret d
theorem evs_c {t : TE} {v : V} {d : D} (ht : ∀ σ H Q, Q v H → t σ H Q) (hr : ∀ g, Rep c.X.K g v d) (hc : isCt d = false := by rfl) : Evs .o c t (eC d) :=
  fun g H s σ τ Q o h => ht _ _ _ (Pg.now h o.wf v (.of (hr g) hc))
theorem de_int {i j pos} : DE .o c (.Constant (.int i) j pos) (eC (.int i)) := de_mk pe_int (evs_c (fun _ _ _ q => q) fun _ => .int i)
theorem de_bl {i j pos} : DE .o c (.Constant (.bool i) j pos) (eC (.bl i)) := de_mk pe_bl (evs_c (fun _ _ _ q => q) fun _ => .bl i)
theorem de_non {j pos} : DE .o c (.Constant .none j pos) (eC .non) := de_mk pe_non (evs_c (fun _ _ _ q => q) fun _ => .non)
theorem de_str {x j pos} : DE .o c (.Constant (.str x) j pos) (eC (.str x)) := de_mk pe_str (evs_c (fun _ _ _ q => q) fun _ => .str x)
theorem de_gint {x : Str} {i : Int} {pos : Pos} (hm : ∃ t, c.X.mg x = some (.int i t)) (hg : Gl c.X x := by rfl) (hd : (x == ("__debug__" : Str)) = false := by decide) : DE .o c (.Name x pos) (eC (.int i)) := by
  obtain ⟨t, hm⟩ := hm
  exact de_mk (pe_glob (v := .int i) hg hm ⟨t, rfl⟩ hd) (evs_c (fun _ _ _ q => q) fun _ => .int i)
theorem de_gstr {x : Str} {i : Str} {pos : Pos} (hm : ∃ t, c.X.mg x = some (.str i t)) (hg : Gl c.X x := by rfl) (hd : (x == ("__debug__" : Str)) = false := by decide) : DE .o c (.Name x pos) (eC (.str i)) := by
  obtain ⟨t, hm⟩ := hm
  exact de_mk (pe_glob (v := .str i) hg hm ⟨t, rfl⟩ hd) (evs_c (fun _ _ _ q => q) fun _ => .str i)
theorem evs_var {k : Kd} {i : Nat} (h : ∀ g H s σ τ d v, Ok c g H s σ τ → τ[i]? = some (some d) → σ[i]? = some (some v) → (if c.O i = true then Own c.X.K g H v d else Rep c.X.K g v d) → RK k c.X.K g H H v d) : Evs k c (tVar i) (eVar i) := fun g H s σ τ Q o hh => by
  unfold eVar at hh
  cases q : τ[i]? with
  | none => rw [q] at hh; exact hh.elim
  | some od =>
    cases od with
    | none => rw [q] at hh; exact hh.elim
    | some d =>
      rw [q] at hh
      obtain ⟨v, h1, h2⟩ := o.sl.at_ i d q
      exact ⟨v, h1, Pg.now hh o.wf v (h g H s σ τ d v o q h1 h2)⟩
/-- a slot that is not one's own: frozen -/
theorem de_var (i : Nat) {x : Str} {pos : Pos} (hO : c.O i = false := by rfl) (hN : c.X.N[i]? = some x := by rfl) (hv : Vis c.X.env.scope x := by first | exact Or.inl rfl | exact Or.inr (Or.inl rfl) | exact Or.inr (Or.inr rfl)) (hd : (x == ("__debug__" : Str)) = false := by decide)
    (hcd : (x == ("__classdict__" : Str)) = false := by decide) : DE .z c (.Name x pos) (eVar i) :=
  de_mk (pe_var hN hv hd hcd) (evs_var fun g H s σ τ d v o _ _ h => by rw [hO, if_neg Bool.false_ne_true] at h; exact h)
/-- .. one's own: to be read -/
theorem de_own (i : Nat) {x : Str} {pos : Pos} (hO : c.O i = true := by rfl) (hN : c.X.N[i]? = some x := by rfl) (hv : Vis c.X.env.scope x := by first | exact Or.inl rfl | exact Or.inr (Or.inl rfl) | exact Or.inr (Or.inr rfl)) (hd : (x == ("__debug__" : Str)) = false := by decide)
    (hcd : (x == ("__classdict__" : Str)) = false := by decide) : DE .b c (.Name x pos) (eVar i) :=
  de_mk (pe_var hN hv hd hcd) (evs_var fun g H s σ τ d v o _ _ h => by rw [hO, if_pos rfl] at h; exact .inr h)
/-! ### operations -/
def e2 (op : D → D → Option D) (a b : ED) : ED := fun τ s => (a τ s).bind fun x s => (b τ s).bind fun y => M.opt (op x y)
def e1 (op : D → Option D) (a : ED) : ED := fun τ s => (a τ s).bind fun x => M.opt (op x)
def eN (op : List D → Option D) (a : AD) : ED := fun τ s => (a τ s).bind fun xs => M.opt (op xs)
/-- what is wanted of an operation's value -/
abbrev Wt (c : Ctx) (g : Gh) (H : Hp) (s : Sto) (d : D) (Q : VK) : Prop := ∀ v g' H', Ext g H g' H' → WF c.X.K c.T g' H' s → RK .o c.X.K g' H H' v d → Q v H'
theorem Wt.here {g : Gh} {H : Hp} {s : Sto} {d : D} {Q : VK} (h : Wt c g H s d Q) (w : WF c.X.K c.T g H s) {v : V} (r : Rep c.X.K g v d) (hc : isCt d = false := by rfl) : Q v H := h v g H (Ext.refl g H) w (.of r hc)
/-- a new list -/
theorem Wt.lst {g : Gh} {H : Hp} {s : Sto} {ds : List D} {Q : VK} (h : Wt c g H s (.lst ds) Q) (w : WF c.X.K c.T g H s) {xs : List V} (r : Reps c.X.K g xs ds) {p : Addr} (hp : H p = none) : Q (.ref p) (upd H p (.lst xs)) :=
  h (.ref p) g _ (Ext.new hp) (w.new hp) (.inr ⟨.lst (w.gne hp) (fun n => w.rne hp) upd_same r, p, rfl, hp⟩)
/-- a new tuple -/
theorem Wt.tup {g : Gh} {H : Hp} {s : Sto} {ds : List D} {Q : VK} (h : Wt c g H s (.tup ds) Q) (w : WF c.X.K c.T g H s) {xs : List V} (r : Reps c.X.K g xs ds) {p : Addr} (hp : H p = none) : Q (.ref p) (upd H p (.tup xs)) :=
  h (.ref p) _ _ (w.extF hp) (w.newF hp fun ps => by simp) (.of (.tup (SqT.of Gh.frz_at) (r.mono (Gh.frz_le (.inl (w.gne hp))))))
def OpD (c : Ctx) (fn : Value → Value → Sem Value) (op : D → D → Option D) : Prop := ∃ r, OpR c.X fn r ∧ ∀ g H s x y dx dy d Q, WF c.X.K c.T g H s → RK .b c.X.K g H H x dx → RK .b c.X.K g H H y dy → op dx dy = some d → Wt c g H s d Q → r x y H Q
def UnD (c : Ctx) (fn : Value → Sem Value) (op : D → Option D) : Prop := ∃ r, UnR c.X fn r ∧ ∀ g H s x dx d Q, WF c.X.K c.T g H s → RK .b c.X.K g H H x dx → op dx = some d → Wt c g H s d Q → r x H Q
def CallD (c : Ctx) (f : Value) (op : List D → Option D) : Prop := ∃ r, CallR c.X f r ∧ ∀ g H s xs ds d Q, WF c.X.K c.T g H s → RKs .b c.X.K g H H xs ds → op ds = some d → Wt c g H s d Q → r xs H Q
def MtD (c : Ctx) (id : String) (op : D → List D → Option D) : Prop := ∃ r, MtR c.X id r ∧ ∀ g H s x xs dx ds d Q, WF c.X.K c.T g H s → RK .b c.X.K g H H x dx → RKs .b c.X.K g H H xs ds → op dx ds = some d → Wt c g H s d Q → r x xs H Q
def orO {α β : Type} (f g : α → β → Option D) : α → β → Option D := fun x y => match f x y with
  | some d => some d
  | none => g x y
def or1 {α : Type} (f g : α → Option D) : α → Option D := fun x => match f x with
  | some d => some d
  | none => g x
theorem OpD.or {fn : Value → Value → Sem Value} {f f' : D → D → Option D} (h : OpD c fn f) (h' : OpD c fn f') : OpD c fn (orO f f') := by
  obtain ⟨r, p, q⟩ := h
  obtain ⟨r', p', q'⟩ := h'
  refine ⟨_, p.or p', fun g H s x y dx dy d Q w rx ry e k => ?_⟩
  unfold orO at e
  cases z : f dx dy with
  | some d' => rw [z] at e; cases e; exact .inl (q g H s x y dx dy _ Q w rx ry z k)
  | none => rw [z] at e; exact .inr (q' g H s x y dx dy d Q w rx ry e k)
theorem CallD.or {fn : Value} {f f' : List D → Option D} (h : CallD c fn f) (h' : CallD c fn f') : CallD c fn (or1 f f') := by
  obtain ⟨r, p, q⟩ := h
  obtain ⟨r', p', q'⟩ := h'
  refine ⟨_, p.or p', fun g H s xs ds d Q w rx e k => ?_⟩
  unfold or1 at e
  cases z : f ds with
  | some d' => rw [z] at e; cases e; exact .inl (q g H s xs ds _ Q w rx z k)
  | none => rw [z] at e; exact .inr (q' g H s xs ds d Q w rx e k)
theorem evs_op2 {op : D → D → Option D} {fa fb : ED} {ta tb : TE} {r : R2} (qr : ∀ g H s x y dx dy d Q, WF c.X.K c.T g H s → RK .b c.X.K g H H x dx → RK .b c.X.K g H H y dy → op dx dy = some d → Wt c g H s d Q → r x y H Q)
    (qa : Evs .b c ta fa) (qb : Evs .b c tb fb) : Evs .o c (tOp r ta tb) (e2 op fa fb) := fun g H s σ τ Q o h =>
  qa g H s σ τ _ o (Pg.seq h fun x s1 g1 H1 _ e1 w1 h1 v rx => qb g1 H1 s1 σ τ _ (o.ext e1 w1) (Pg.seq h1 fun y s2 g2 H2 _ e2 w2 h2 u ry => by
    obtain ⟨d, ed, k⟩ := h2.opt
    exact qr g2 H2 s2 v u x y d Q w2 (rx.extB e2) ry ed fun v' g' H' e' w' r' => k g' H' e' w' v' (r'.ext (Ext.refl _ _) fun p q => (e1.trans e2).fresh q)))
theorem de_un {a : Expr} {op : UnaryOp} {f : D → Option D} {fa : ED} {pos : Pos} (ho : UnD c (unaryOp op) f) (ha : DE .b c a fa) : DE .o c (.UnaryOp op a pos) (e1 f fa) := by
  obtain ⟨r, pr, qr⟩ := ho
  obtain ⟨ta, pa, qa⟩ := ha
  refine ⟨tUn r ta, pe_un pr pa, fun g H s σ τ Q o h => qa g H s σ τ _ o (Pg.seq h fun x s1 g1 H1 _ e1 w1 h1 v rx => ?_)⟩
  obtain ⟨d, ed, k⟩ := h1.opt
  exact qr g1 H1 s1 v x d Q w1 rx ed fun v' g' H' e' w' r' => k g' H' e' w' v' (r'.ext (Ext.refl _ _) fun p q => e1.fresh q)
theorem de_bin {a b : Expr} {op : Operator} {f : D → D → Option D} {fa fb : ED} {pos : Pos} (ho : OpD c (binaryOp op) f) (ha : DE .b c a fa) (hb : DE .b c b fb) : DE .o c (.BinOp a op b pos) (e2 f fa fb) := by
  obtain ⟨r, pr, qr⟩ := ho
  obtain ⟨ta, pa, qa⟩ := ha
  obtain ⟨tb, pb, qb⟩ := hb
  exact de_mk (pe_op pr pa pb) (evs_op2 qr qa qb)
theorem de_cmp {a b : Expr} {op : CmpOp} {f : D → D → Option D} {fa fb : ED} {pos : Pos} (ho : OpD c (compareOp op) f) (ha : DE .b c a fa) (hb : DE .b c b fb) (hm : behindInMarks op b = false := by first | exact nomark _ | rfl) : DE .o c (.Compare a [op] [b] pos) (e2 f fa fb) := by
  obtain ⟨r, pr, qr⟩ := ho
  obtain ⟨ta, pa, qa⟩ := ha
  obtain ⟨tb, pb, qb⟩ := hb
  exact de_mk (pe_cmpR pr pa pb hm) (evs_op2 qr qa qb)
/-! ### tests -/
def toB : D → M Bool
  | .bl b => M.ret b
  | _ => fun _ => .no
def tB1 (f : ED) : TD := fun τ s => (f τ s).bind toB
theorem evt_test {k : Kd} {f : ED} {t : TE} (q : Evs k c t f) : Evt c (tTest t) (tB1 f) := fun g H s σ τ Q o h => q g H s σ τ _ o (Pg.seq h fun x s1 g1 H1 _ e1 w1 h1 v rx => by
  cases x with
  | bl b => exact ⟨b, rx.bl, Pg.now h1 w1⟩
  | _ => exact h1.elim)
/-- any expression whose test is its value's truth, a bool -/
theorem dt_val {k : Kd} {e : Expr} {f : ED} (h : DE k c e f) (he : ∀ whole, isTrue e c.X.env whole = (do let v ← whole; standAt e.pos; holding [v] (truthy v)) := by intro _; rfl) : DT c e (tB1 f) := by
  obtain ⟨t, p, q⟩ := h
  exact dt_mk (pt_val p he) (evt_test q)
theorem dt_cmp {a b : Expr} {op : CmpOp} {f : D → D → Option D} {fa fb : ED} {pos : Pos} (ho : OpD c (compareOp op) f) (ha : DE .b c a fa) (hb : DE .b c b fb) (hm : behindInMarks op b = false := by first | exact nomark _ | rfl) : DT c (.Compare a [op] [b] pos) (tB1 (e2 f fa fb)) := by
  obtain ⟨r, pr, qr⟩ := ho
  obtain ⟨ta, pa, qa⟩ := ha
  obtain ⟨tb, pb, qb⟩ := hb
  exact dt_mk (pt_cmpR pr pa pb hm) (evt_test (evs_op2 qr qa qb))
/-- a op b op' c -/
def eCh (op op' : D → D → Option D) (a b d : ED) : ED := fun τ s => (a τ s).bind fun x s => (b τ s).bind fun y s => (M.opt (op x y) s).bind fun z => match z with
  | .bl true => fun s => (d τ s).bind fun u => M.opt (op' y u)
  | .bl false => M.ret (.bl false)
  | _ => fun _ => .no
theorem evs_chain {op op' : D → D → Option D} {fa fb fd : ED} {ta tb td : TE} {r r' : R2} (qr : ∀ g H s x y dx dy d Q, WF c.X.K c.T g H s → RK .b c.X.K g H H x dx → RK .b c.X.K g H H y dy → op dx dy = some d → Wt c g H s d Q → r x y H Q)
    (qr' : ∀ g H s x y dx dy d Q, WF c.X.K c.T g H s → RK .b c.X.K g H H x dx → RK .b c.X.K g H H y dy → op' dx dy = some d → Wt c g H s d Q → r' x y H Q)
    (qa : Evs .b c ta fa) (qb : Evs .b c tb fb) (qd : Evs .b c td fd) : Evs .o c (tChain r r' ta tb td) (eCh op op' fa fb fd) := fun g H s σ τ Q o h =>
  qa g H s σ τ _ o (Pg.seq h fun x s1 g1 H1 _ e1 w1 h1 v rx => qb g1 H1 s1 σ τ _ (o.ext e1 w1) (Pg.seq h1 fun y s2 g2 H2 _ e2 w2 h2 u ry => by
    cases ez : op x y with
    | none => rw [ez] at h2; exact h2.elim
    | some z =>
      rw [ez] at h2
      refine qr g2 H2 s2 v u x y z _ w2 (rx.extB e2) ry ez fun v' g' H' e' w' r' => ?_
      cases z with
      | bl k =>
        refine ⟨k, r'.bl, ?_⟩
        cases k with
        | true =>
          rw [if_pos rfl]
          have h2 : Pg c g2 H2 _ ((fd τ s2).bind fun u => M.opt (op' y u)) := h2
          refine qd g' H' s2 σ τ _ ((o.ext (e1.trans e2) w2).ext e' w') (Pg.seq (h2.mono e') fun m s3 g3 H3 _ e3 w3 h3 n rn => ?_)
          obtain ⟨d, ed, kk⟩ := h3.opt
          exact qr' g3 H3 s3 u n y m d Q w3 (ry.extB (e'.trans e3)) rn ed fun v' g' H' e'' w' r' => kk g' H' e'' w' v' (r'.ext (Ext.refl _ _) fun p q => (((e1.trans e2).trans e').trans e3).fresh q)
        | false =>
          rw [if_neg Bool.false_ne_true]
          exact h2 g' H' e' w' (.bl false) (.of (.bl false))
      | _ => exact h2.elim))
theorem de_chain {a b d : Expr} {op op' : CmpOp} {f f' : D → D → Option D} {fa fb fd : ED} {pos : Pos} (ho : OpD c (compareOp op) f) (ho' : OpD c (compareOp op') f') (ha : DE .b c a fa) (hb : DE .b c b fb) (hd : DE .b c d fd) (hm : lastMarks [op, op'] [b, d] = false := by rfl) : DE .o c (.Compare a [op, op'] [b, d] pos) (eCh f f' fa fb fd) := by
  obtain ⟨r, pr, qr⟩ := ho
  obtain ⟨r', pr', qr'⟩ := ho'
  obtain ⟨ta, pa, qa⟩ := ha
  obtain ⟨tb, pb, qb⟩ := hb
  obtain ⟨td, pd, qd⟩ := hd
  exact de_mk (pe_chain pr pr' pa pb pd hm) (evs_chain qr qr' qa qb qd)
theorem dt_chain {a b d : Expr} {op op' : CmpOp} {f f' : D → D → Option D} {fa fb fd : ED} {pos : Pos} (ho : OpD c (compareOp op) f) (ho' : OpD c (compareOp op') f') (ha : DE .b c a fa) (hb : DE .b c b fb) (hd : DE .b c d fd) (hm : lastMarks [op, op'] [b, d] = false := by rfl) : DT c (.Compare a [op, op'] [b, d] pos) (tB1 (eCh f f' fa fb fd)) := by
  obtain ⟨r, pr, qr⟩ := ho
  obtain ⟨r', pr', qr'⟩ := ho'
  obtain ⟨ta, pa, qa⟩ := ha
  obtain ⟨tb, pb, qb⟩ := hb
  obtain ⟨td, pd, qd⟩ := hd
  exact dt_mk (pt_chain pr pr' pa pb pd hm) (evt_test (evs_chain qr qr' qa qb qd))
/-! ### and, or, not -/
def tAndD (a b : TD) : TD := fun τ s => (a τ s).bind fun x => match x with
  | true => b τ
  | false => M.ret false
def tOrD (a b : TD) : TD := fun τ s => (a τ s).bind fun x => match x with
  | true => M.ret true
  | false => b τ
def tNotD (a : TD) : TD := fun τ s => (a τ s).bind fun x => M.ret (!x)
theorem evt_and {fa fb : TD} {ta tb : TT} (qa : Evt c ta fa) (qb : Evt c tb fb) : Evt c (tAnd ta tb) (tAndD fa fb) := fun g H s σ τ Q o h =>
  qa g H s σ τ _ o (Pg.seq h fun x s1 g1 H1 _ e1 w1 h1 => by
    cases x with
    | true => show tb σ H1 Q; exact qb g1 H1 s1 σ τ Q (o.ext e1 w1) h1
    | false => exact Pg.now h1 w1)
theorem evt_or {fa fb : TD} {ta tb : TT} (qa : Evt c ta fa) (qb : Evt c tb fb) : Evt c (tOr ta tb) (tOrD fa fb) := fun g H s σ τ Q o h =>
  qa g H s σ τ _ o (Pg.seq h fun x s1 g1 H1 _ e1 w1 h1 => by
    cases x with
    | true => exact Pg.now h1 w1
    | false => show tb σ H1 Q; exact qb g1 H1 s1 σ τ Q (o.ext e1 w1) h1)
theorem dw_and1 {a : Expr} {fa : TD} {pos : Pos} (h : DT c a fa) : DW c (.BoolOp .And [a] pos) fa := by
  obtain ⟨t, p, q⟩ := h
  exact ⟨t, pw_and1 p, q⟩
theorem dw_or1 {a : Expr} {fa : TD} {pos : Pos} (h : DT c a fa) : DW c (.BoolOp .Or [a] pos) fa := by
  obtain ⟨t, p, q⟩ := h
  exact ⟨t, pw_or1 p, q⟩
theorem dw_and {a b : Expr} {rest : List Expr} {fa fb : TD} {pos : Pos} (ha : DT c a fa) (hb : DW c (.BoolOp .And (b :: rest) pos) fb) : DW c (.BoolOp .And (a :: b :: rest) pos) (tAndD fa fb) := by
  obtain ⟨t, p, q⟩ := ha
  obtain ⟨u, p', q'⟩ := hb
  exact ⟨_, pw_and p p', evt_and q q'⟩
theorem dw_or {a b : Expr} {rest : List Expr} {fa fb : TD} {pos : Pos} (ha : DT c a fa) (hb : DW c (.BoolOp .Or (b :: rest) pos) fb) : DW c (.BoolOp .Or (a :: b :: rest) pos) (tOrD fa fb) := by
  obtain ⟨t, p, q⟩ := ha
  obtain ⟨u, p', q'⟩ := hb
  exact ⟨_, pw_or p p', evt_or q q'⟩
theorem DW.dt {e : Expr} {f : TD} (h : DW c e f) : DT c e f := by
  obtain ⟨t, p, q⟩ := h
  exact ⟨t, p.pt, q⟩
theorem dt_not {a : Expr} {fa : TD} {pos : Pos} (h : DT c a fa) : DT c (.UnaryOp .Not a pos) (tNotD fa) := by
  obtain ⟨t, p, q⟩ := h
  exact dt_mk (pt_not p) fun g H s σ τ Q o h => q g H s σ τ _ o (Pg.seq h fun x s1 g1 H1 _ e1 w1 h1 => Pg.now h1 w1)
/-- .. as values -/
def eAndD (a b : ED) : ED := fun τ s => (a τ s).bind fun x => match x with
  | .bl true => b τ
  | .bl false => M.ret (.bl false)
  | _ => fun _ => .no
def eOrD (a b : ED) : ED := fun τ s => (a τ s).bind fun x => match x with
  | .bl true => M.ret (.bl true)
  | .bl false => b τ
  | _ => fun _ => .no
def notD : D → Option D
  | .bl b => some (.bl (!b))
  | _ => none
theorem de_one {op} {a : Expr} {f : ED} {pos : Pos} {k : Kd} (h : DE k c a f) : DE k c (.BoolOp op [a] pos) f := by
  obtain ⟨t, p, q⟩ := h
  exact ⟨t, pe_one p, q⟩
theorem Pg.back {k : Kd} {g g1 : Gh} {H H1 : Hp} {Q : VK} {r : R D} (e : Ext g H g1 H1) (h : Pg c g1 H1 (fun d _ g' H' => ∀ v, RK k c.X.K g' H H' v d → Q v H') r) : Pg c g1 H1 (fun d _ g' H' => ∀ v, RK k c.X.K g' H1 H' v d → Q v H') r :=
  h.imp fun d s2 g2 H2 e2 w2 kk v rv => kk v (rv.ext (Ext.refl _ _) fun p q => e.fresh q)
theorem RK.anyB {k : Kd} {K : PySem.W.Frag} {g : Gh} {H0 H : Hp} (b : Bool) : RK k K g H0 H (.bl b) (.bl b) := by
  cases k with
  | z => exact Rep.bl b
  | b => exact Or.inl (Rep.bl b)
  | o => exact RK.of (Rep.bl b)
theorem de_and {k k' : Kd} {a b : Expr} {rest : List Expr} {fa fb : ED} {pos : Pos} (ha : DE k c a fa) (hb : DE k' c (.BoolOp .And (b :: rest) pos) fb) : DE k' c (.BoolOp .And (a :: b :: rest) pos) (eAndD fa fb) := by
  obtain ⟨t, p, q⟩ := ha
  obtain ⟨u, p', q'⟩ := hb
  refine de_mk (pe_and p p') fun g H s σ τ Q o h => q g H s σ τ _ o (Pg.seq h fun x s1 g1 H1 _ e1 w1 h1 v rx => ?_)
  cases x with
  | bl b =>
    refine ⟨b, rx.bl, ?_⟩
    cases b with
    | true => rw [if_pos rfl]; exact q' g1 H1 s1 σ τ Q (o.ext e1 w1) (h1.back e1)
    | false => rw [if_neg Bool.false_ne_true]; exact Pg.now h1 w1 _ (.anyB false)
  | _ => exact h1.elim
theorem de_or {k k' : Kd} {a b : Expr} {rest : List Expr} {fa fb : ED} {pos : Pos} (ha : DE k c a fa) (hb : DE k' c (.BoolOp .Or (b :: rest) pos) fb) : DE k' c (.BoolOp .Or (a :: b :: rest) pos) (eOrD fa fb) := by
  obtain ⟨t, p, q⟩ := ha
  obtain ⟨u, p', q'⟩ := hb
  refine de_mk (pe_or p p') fun g H s σ τ Q o h => q g H s σ τ _ o (Pg.seq h fun x s1 g1 H1 _ e1 w1 h1 v rx => ?_)
  cases x with
  | bl b =>
    refine ⟨b, rx.bl, ?_⟩
    cases b with
    | true => rw [if_pos rfl]; exact Pg.now h1 w1 _ (.anyB true)
    | false => rw [if_neg Bool.false_ne_true]; exact q' g1 H1 s1 σ τ Q (o.ext e1 w1) (h1.back e1)
  | _ => exact h1.elim
theorem de_not {k : Kd} {a : Expr} {fa : ED} {pos : Pos} (ha : DE k c a fa) : DE .o c (.UnaryOp .Not a pos) (e1 notD fa) := by
  obtain ⟨t, p, q⟩ := ha
  refine de_mk (pe_not p) fun g H s σ τ Q o h => q g H s σ τ _ o (Pg.seq h fun x s1 g1 H1 _ e1 w1 h1 v rx => ?_)
  cases x with
  | bl b => exact ⟨b, rx.bl, Pg.now h1 w1 _ (.of (.bl (!b)))⟩
  | _ => exact h1.elim
/-- a if t else b -/
def eIf (t : TD) (a b : ED) : ED := fun τ s => (t τ s).bind fun x => match x with
  | true => a τ
  | false => b τ
theorem de_if {k : Kd} {cd a b : Expr} {ft : TD} {fa fb : ED} {pos : Pos} (ht : DT c cd ft) (ha : DE k c a fa) (hb : DE k c b fb) : DE k c (.IfExp cd a b pos) (eIf ft fa fb) := by
  obtain ⟨t, p, q⟩ := ht
  obtain ⟨ta, pa, qa⟩ := ha
  obtain ⟨tb, pb, qb⟩ := hb
  refine de_mk (pe_ifExp p pa pb) fun g H s σ τ Q o h => q g H s σ τ _ o (Pg.seq h fun x s1 g1 H1 _ e1 w1 h1 => ?_)
  cases x with
  | true => rw [if_pos rfl]; exact qa g1 H1 s1 σ τ Q (o.ext e1 w1) (h1.back e1)
  | false => rw [if_neg Bool.false_ne_true]; exact qb g1 H1 s1 σ τ Q (o.ext e1 w1) (h1.back e1)
/-! ### lists of expressions -/
def aNil : AD := fun _ => M.ret []
def aCons (a : ED) (b : AD) : AD := fun τ s => (a τ s).bind fun x s => (b τ s).bind fun xs => M.ret (x :: xs)
theorem da_nil {k : Kd} : DA k c [] aNil := ⟨tNil, pa_nil, fun g H s σ τ Q o h => Pg.now h o.wf [] .nil⟩
theorem da_cons {k : Kd} {e : Expr} {es : List Expr} {f : ED} {fs : AD} (h : DE k c e f) (hr : DA k c es fs) (hs : starEach (e :: es) c.X.env = (false, eval e c.X.env) :: starEach es c.X.env := by rfl) : DA k c (e :: es) (aCons f fs) := by
  obtain ⟨t, p, q⟩ := h
  obtain ⟨tr, pr, qr⟩ := hr
  refine ⟨tCons t tr, pa_cons p pr hs, fun g H s σ τ Q o h => q g H s σ τ _ o (Pg.seq h fun x s1 g1 H1 _ e1 w1 h1 v rx => qr g1 H1 s1 σ τ _ (o.ext e1 w1) (Pg.seq h1 fun ys s2 g2 H2 _ e2 w2 h2 us ru => ?_))⟩
  refine Pg.now h2 w2 _ (.cons (rx.ext e2 fun p q => q) ?_)
  cases k with
  | b => exact ru.extB (Ext.refl _ _)
  | z => exact ru.ext (Ext.refl _ _) fun p q => e1.fresh q
  | o => exact ru.ext (Ext.refl _ _) fun p q => e1.fresh q
def small (n : Nat) : Bool := decide (n ≤ 16777216)
theorem small_line {n : Nat} (h : small n = true) : n ≤ sizeLine := by
  rw [sizeLine_eq]
  exact of_decide_eq_true h
def mkT (xs : List D) : Option D := if small xs.length then some (.tup xs) else none
def mkL (xs : List D) : Option D := if small xs.length then some (.lst xs) else none
theorem de_tup {es : List Expr} {fs : AD} {x1} {pos : Pos} (h : DA .z c es fs) : DE .o c (.Tuple es x1 pos) (eN mkT fs) := by
  obtain ⟨t, p, q⟩ := h
  refine de_mk (pe_tup p) fun g H s σ τ Q o h => q g H s σ τ _ o (Pg.seq h fun xs s1 g1 H1 _ e1 w1 h1 vs rs => ?_)
  obtain ⟨d, ed, k⟩ := h1.opt
  unfold mkT at ed
  split at ed
  · rename_i hz
    cases ed
    refine ⟨small_line (by rw [rs.reps.length]; exact hz), fun p hp => ?_⟩
    exact Wt.tup (c := c) (s := s1) (fun v g' H' e' w' r' => k g' H' e' w' v (r'.ext (Ext.refl _ _) fun p q => e1.fresh q)) w1 rs.reps hp
  · cases ed
theorem de_lst {es : List Expr} {fs : AD} {pos : Pos} (h : DA .z c es fs) : DE .o c (.List es pos) (eN mkL fs) := by
  obtain ⟨t, p, q⟩ := h
  refine de_mk (pe_lst p) fun g H s σ τ Q o h => q g H s σ τ _ o (Pg.seq h fun xs s1 g1 H1 _ e1 w1 h1 vs rs => ?_)
  obtain ⟨d, ed, k⟩ := h1.opt
  unfold mkL at ed
  split at ed
  · rename_i hz
    cases ed
    refine ⟨small_line (by rw [rs.reps.length]; exact hz), fun p hp => ?_⟩
    exact Wt.lst (c := c) (s := s1) (fun v g' H' e' w' r' => k g' H' e' w' v (r'.ext (Ext.refl _ _) fun p q => e1.fresh q)) w1 rs.reps hp
  · cases ed
/-! ### calls of what is built in -/
theorem de_callB {e : Expr} {es : List Expr} {x : Str} {id : String} {op : List D → Option D} {fs : AD} {p pos : Pos} (ho : CallD c (.builtin id) op) (ha : DA .b c (e :: es) fs) (hm : c.X.mg x = none) (hv : bootBuiltins x = some (.builtin id)) (hg : Gl c.X x := by rfl) (hn : x ≠ "__name__" := by decide) (hdb : (x == ("__debug__" : Str)) = false := by decide)
    (he : starEach (e :: es) c.X.env = (false, eval e c.X.env) :: starEach es c.X.env := by rfl) (hpl : (backTo pos (starEach es c.X.env)).any (·.1) = false := by rfl) : DE .o c (.Call (.Name x p) (e :: es) [] pos) (eN op fs) := by
  obtain ⟨r, pr, qr⟩ := ho
  obtain ⟨t, pt, qt⟩ := ha
  refine de_mk (pe_callB pr hg hm hv pt hn hdb he hpl) fun g H s σ τ Q o h => qt g H s σ τ _ o (Pg.seq h fun xs s1 g1 H1 _ e1 w1 h1 vs rs => ?_)
  obtain ⟨d, ed, k⟩ := h1.opt
  exact qr g1 H1 s1 vs xs d Q w1 (rs.extB (Ext.refl _ _)) ed fun v' g' H' e' w' r' => k g' H' e' w' v' (r'.ext (Ext.refl _ _) fun p q => e1.fresh q)
theorem de_callT {e : Expr} {es : List Expr} {x : Str} {id : String} {op : List D → Option D} {fs : AD} {p pos : Pos} (ho : CallD c (.type id) op) (ha : DA .b c (e :: es) fs) (hm : c.X.mg x = none) (hv : bootBuiltins x = some (.type id)) (hg : Gl c.X x := by rfl) (hn : x ≠ "__name__" := by decide) (hdb : (x == ("__debug__" : Str)) = false := by decide)
    (he : starEach (e :: es) c.X.env = (false, eval e c.X.env) :: starEach es c.X.env := by rfl) (hpl : (backTo pos (starEach es c.X.env)).any (·.1) = false := by rfl) : DE .o c (.Call (.Name x p) (e :: es) [] pos) (eN op fs) := by
  obtain ⟨r, pr, qr⟩ := ho
  obtain ⟨t, pt, qt⟩ := ha
  refine de_mk (pe_callTy pr hg hm hv pt hn hdb he hpl) fun g H s σ τ Q o h => qt g H s σ τ _ o (Pg.seq h fun xs s1 g1 H1 _ e1 w1 h1 vs rs => ?_)
  obtain ⟨d, ed, k⟩ := h1.opt
  exact qr g1 H1 s1 vs xs d Q w1 (rs.extB (Ext.refl _ _)) ed fun v' g' H' e' w' r' => k g' H' e' w' v' (r'.ext (Ext.refl _ _) fun p q => e1.fresh q)
/-- methods of texts and lists -/
def isTy : String → D → Bool
  | "str", .str _ => true
  | "list", .lst _ => true
  | _, _ => false
def eMt (T : String) (op : D → List D → Option D) (a : ED) (b : AD) : ED := fun τ s => (a τ s).bind fun x s => if isTy T x then (b τ s).bind fun xs => M.opt (op x xs) else .no
theorem isTy_ok {T : String} {g : Gh} {H : Hp} {s : Sto} {x : V} {d : D} (w : WF c.X.K c.T g H s) (r : RK .b c.X.K g H H x d) (h : isTy T d = true) : tyV c.X.K T x H := by
  unfold isTy at h
  split at h
  · have e := r.str; subst e; exact rfl
  · obtain ⟨a, xs, e, h1, _⟩ := r.lst w
    subst e
    exact .inl ⟨rfl, xs, SqL.of h1⟩
  · cases h
theorem de_mt {o e : Expr} {es : List Expr} {name : Str} {T id : String} {op : D → List D → Option D} {fa : ED} {fs : AD} {apos cpos : Pos} (pa : PlainAttrs T) (slot : Slot T name id) (hty : typeOf (.builtin id) = pure (.type "method_descriptor")) (hm : MtD c id op) (ho : DE .b c o fa) (ha : DA .b c (e :: es) fs)
    (hbase : attributeBase o name c.X.env (eval o c.X.env) = eval o c.X.env := by rfl)
    (hfew : ((backTo cpos (starEach (e :: es) c.X.env)).all (fun x => !x.1) && (backToKw cpos (keywordEach [] c.X.env)).all (fun x => x.1.isSome)
      && decide ((e :: es).length + ([] : List Keyword).length + (if ([] : List Keyword).isEmpty then 0 else 1) < 30)) = true := by rfl)
    (hline : (apos.endLine == cpos.line) = true := by rfl) (hs : starEach (e :: es) c.X.env = (false, eval e c.X.env) :: starEach es c.X.env := by rfl) (hplain : (backTo cpos (starEach es c.X.env)).any (·.1) = false := by rfl) :
    DE .o c (.Call (.Attribute o name apos) (e :: es) [] cpos) (eMt T op fa fs) := by
  obtain ⟨r, pr, qr⟩ := hm
  obtain ⟨t, pt, qt⟩ := ho
  obtain ⟨ts, ps, qs⟩ := ha
  refine de_mk (pe_bm pa slot hty pr pt ps hbase hfew hline hs hplain) fun g H s σ τ Q o h => qt g H s σ τ _ o (Pg.seq h fun x s1 g1 H1 _ e1 w1 h1 v rx => ?_)
  by_cases hT : isTy T x = true
  · rw [if_pos hT] at h1
    refine ⟨isTy_ok w1 (rx.extB (Ext.refl _ _)) hT, qs g1 H1 s1 σ τ _ (o.ext e1 w1) (Pg.seq h1 fun ys s2 g2 H2 _ e2 w2 h2 us ru => ?_)⟩
    obtain ⟨d, ed, k⟩ := h2.opt
    exact qr g2 H2 s2 v us x ys d Q w2 (rx.extB e2) (ru.extB (Ext.refl _ _)) ed fun v' g' H' e' w' r' => k g' H' e' w' v' (r'.ext (Ext.refl _ _) fun p q => (e1.trans e2).fresh q)
  · rw [if_neg hT] at h1
    exact h1.elim
end
end Mir

set_option Elab.async false
set_option linter.all false
set_option maxRecDepth 100000
set_option maxHeartbeats 4000000
/-! Mir, part C: calls of own defs, statements, defs. -/
namespace Mir
open PySem PySem.Spec PyProof.Rows L2
/-! ### a def's promise -/
abbrev FD := List D → M D
def spOf (K : PySem.W.Frag) (T : List (Addr × Str)) (F : FD) : Sp := fun vs H Q E => ∃ g s ds, WF K T g H s ∧ Reps K g vs ds ∧ match F ds s with
  | .ok d s' => ∀ v g' H', Ext g H g' H' → WF K T g' H' s' → Rep K g' v d → Q v H'
  | .exc cl s' => ∀ g' H', Ext g H g' H' → WF K T g' H' s' → E (clsV K cl) none H'
  | .no => False
structure Has (P : Program) (w : World) (K : PySem.W.Frag) (mg : Str → Option Value) (base : Heap) (T : List (Addr × Str)) (x : Str) (k : Nat) (F : FD) : Prop where
  ex : ∃ f fd ps, mg x = some (.ref f) ∧ PySem.W.keepIn K (.ref f) = true ∧ Binds K fd ps [] ∧ FnOk P w K mg base (L2N.CX P w) k f fd ps (spOf K T F)
abbrev HasX (c : Ctx) (x : Str) (k : Nat) (F : FD) : Prop := Has c.X.prog c.X.w c.X.K c.X.mg c.X.base c.T x k F
section
variable {c : Ctx}
def eCall (F : FD) (a : AD) : ED := fun τ s => (a τ s).bind F
theorem Pg.sp {g : Gh} {H : Hp} {s : Sto} {F : FD} {ds : List D} {vs : List V} {C : D → Sto → Gh → Hp → Prop} {Q : VK} (w : WF c.X.K c.T g H s) (r : Reps c.X.K g vs ds) (h : Pg c g H C (F ds s)) (k : ∀ d s' v g' H', Ext g H g' H' → WF c.X.K c.T g' H' s' → Rep c.X.K g' v d → C d s' g' H' → Q v H') : spOf c.X.K c.T F vs H Q c.W := by
  refine ⟨g, s, ds, w, r, ?_⟩
  cases q : F ds s with
  | ok d s' => rw [q] at h; exact fun v g' H' e' w' r' => k d s' v g' H' e' w' r' (h g' H' e' w')
  | exc cl s' => rw [q] at h; exact fun g' H' e' w' => h g' H' e' w'
  | no => rw [q] at h; exact h
theorem de_call {e : Expr} {es : List Expr} {x : Str} {j k : Nat} {F : FD} {fs : AD} {p pos : Pos} (h : HasX c x j F) (hr : Room k c.X.A) (hx : Passes (L2N.CX c.X.prog c.X.w) c.X c.W) (ha : DA .z c (e :: es) fs) (hjk : j ≤ k := by decide) (hg : Gl c.X x := by rfl) (hdb : (x == ("__debug__" : Str)) = false := by decide)
    (he : starEach (e :: es) c.X.env = (false, eval e c.X.env) :: starEach es c.X.env := by rfl) (hpl : (backTo pos (starEach es c.X.env)).any (·.1) = false := by rfl) : DE .z c (.Call (.Name x p) (e :: es) [] pos) (eCall F fs) := by
  obtain ⟨f, fd, ps, hm, hk, hb, hf⟩ := h.ex
  obtain ⟨t, pt, qt⟩ := ha
  refine de_mk (pe_call hf (hr.mono hjk) hg hm hk hb .nil hx pt hdb he hpl) fun g H s σ τ Q o h => qt g H s σ τ _ o (Pg.seq h fun xs s1 g1 H1 _ e1 w1 h1 vs rs => ?_)
  show spOf c.X.K c.T F (vs ++ []) H1 Q c.W
  rw [List.append_nil]
  exact h1.sp w1 rs.reps fun d s' v g' H' e' w' r' k => k v r'
theorem de_call0 {x : Str} {j k : Nat} {F : FD} {p pos : Pos} (h : HasX c x j F) (hr : Room k c.X.A) (hx : Passes (L2N.CX c.X.prog c.X.w) c.X c.W) (hjk : j ≤ k := by decide) (hg : Gl c.X x := by rfl) (hdb : (x == ("__debug__" : Str)) = false := by decide) : DE .z c (.Call (.Name x p) [] [] pos) (eCall F aNil) := by
  obtain ⟨f, fd, ps, hm, hk, hb, hf⟩ := h.ex
  refine de_mk (pe_call0 hf (hr.mono hjk) hg hm hk hb .nil hx hdb) fun g H s σ τ Q o h => ?_
  show spOf c.X.K c.T F ([] ++ []) H Q c.W
  exact Pg.sp (F := F) (ds := []) (C := fun d _ g' H' => ∀ v, Rep c.X.K g' v d → Q v H') o.wf .nil h fun d s' v g' H' e' w' r' k => k v r'
end
/-! ### statements -/
/-- a state within a def that was entered at (g0, H0) -/
structure SOk (c : Ctx) (g0 : Gh) (H0 : Hp) (g : Gh) (H : Hp) (s : Sto) (σ : St) (τ : Ev) : Prop where
  ok : Ok c g H s σ τ
  ext : Ext g0 H0 g H
  fr : ∀ i p d, c.O i = true → τ[i]? = some (some d) → σ[i]? = some (some (.ref p)) → H0 p = none
def Ps (c : Ctx) (g0 : Gh) (H0 : Hp) (g : Gh) (Dn : Ends) : R Fl → Prop
  | .ok (.nx τ') s' => ∀ g' H' σ', Le g g' → SOk c g0 H0 g' H' s' σ' τ' → Dn.nx σ' H'
  | .ok (.bk τ') s' => ∀ g' H' σ', Le g g' → SOk c g0 H0 g' H' s' σ' τ' → Dn.bk σ' H'
  | .ok (.ct τ') s' => ∀ g' H' σ', Le g g' → SOk c g0 H0 g' H' s' σ' τ' → Dn.ct σ' H'
  | .ok (.rt d) s' => ∀ g' H' v, Ext g0 H0 g' H' → WF c.X.K c.T g' H' s' → Rep c.X.K g' v d → Dn.rt v H'
  | .exc cl s' => ∀ g' H', Ext g0 H0 g' H' → WF c.X.K c.T g' H' s' → c.W (clsV c.X.K cl) none H'
  | .no => False
def DS (c : Ctx) (st : Stmt) (f : SD) : Prop := ∃ t : TS, PS c.X st t ∧ ∀ g0 H0 g H s σ τ Dn, SOk c g0 H0 g H s σ τ → Ps c g0 H0 g Dn (f τ s) → t Dn σ H
def DSs (c : Ctx) (sts : List Stmt) (f : SD) : Prop := ∃ t : TS, PSs c.X sts t ∧ ∀ g0 H0 g H s σ τ Dn, SOk c g0 H0 g H s σ τ → Ps c g0 H0 g Dn (f τ s) → t Dn σ H
section
variable {c : Ctx} {g0 g g' : Gh} {H0 H H' : Hp} {s : Sto} {σ : St} {τ : Ev} {Dn : Ends}
theorem Ps.mono {r : R Fl} (e : Le g g') (h : Ps c g0 H0 g Dn r) : Ps c g0 H0 g' Dn r := by
  cases r with
  | ok fl s' =>
    cases fl with
    | nx τ' => exact fun g2 H2 σ2 l o => h g2 H2 σ2 (e.trans l) o
    | bk τ' => exact fun g2 H2 σ2 l o => h g2 H2 σ2 (e.trans l) o
    | ct τ' => exact fun g2 H2 σ2 l o => h g2 H2 σ2 (e.trans l) o
    | rt d => exact h
  | exc cl s' => exact h
  | no => exact h
theorem SOk.ext' {s' : Sto} (o : SOk c g0 H0 g H s σ τ) (e : Ext g H g' H') (w : WF c.X.K c.T g' H' s') : SOk c g0 H0 g' H' s' σ τ := ⟨o.ok.ext e w, o.ext.trans e, o.fr⟩
/-- from an expression's end to a statement's -/
theorem Ps.seq {α : Type} {C' : α → Sto → Gh → Hp → Prop} {r : R α} {f : α → M Fl} (o : SOk c g0 H0 g H s σ τ) (h : Ps c g0 H0 g Dn (r.bind f))
    (k : ∀ a s1 g1 H1, r = .ok a s1 → Ext g H g1 H1 → WF c.X.K c.T g1 H1 s1 → SOk c g0 H0 g1 H1 s1 σ τ → Ps c g0 H0 g1 Dn (f a s1) → C' a s1 g1 H1) : Pg c g H C' r := by
  cases r with
  | ok a s1 => exact fun g1 H1 e1 w1 => k a s1 g1 H1 rfl e1 w1 (o.ext' e1 w1) (Ps.mono e1.le h)
  | exc cl s1 => exact fun g1 H1 e1 w1 => h g1 H1 (o.ext.trans e1) w1
  | no => exact h
/-- a slot is set to what is frozen -/
theorem SOk.set {v : V} {d : D} (o : SOk c g0 H0 g H s σ τ) (i : Nat) (hO : c.O i = false) (r : Rep c.X.K g v d) : SOk c g0 H0 g H s (σ.set i (some v)) (τ.set i (some d)) := by
  refine ⟨⟨o.ok.wf, ⟨by rw [List.length_set, List.length_set]; exact o.ok.sl.len, fun j d' hd => ?_, fun j k p hj hk hjk e1 e2 => ?_⟩⟩, o.ext, fun j p d' hj e1 e2 => ?_⟩
  · by_cases q : i = j
    · subst q
      have hlt : i < τ.length := by
        have := (List.getElem?_eq_some_iff.mp hd).1
        rwa [List.length_set] at this
      rw [List.getElem?_set_self hlt] at hd
      cases hd
      refine ⟨v, List.getElem?_set_self (by rw [o.ok.sl.len]; exact hlt), ?_⟩
      rw [hO, if_neg Bool.false_ne_true]
      exact r
    · rw [List.getElem?_set_ne q] at hd
      obtain ⟨u, h1, h2⟩ := o.ok.sl.at_ j d' hd
      exact ⟨u, by rw [List.getElem?_set_ne q]; exact h1, h2⟩
  · have n1 : i ≠ j := fun z => by subst z; rw [hO] at hj; cases hj
    have n2 : i ≠ k := fun z => by subst z; rw [hO] at hk; cases hk
    rw [List.getElem?_set_ne n1] at e1
    rw [List.getElem?_set_ne n2] at e2
    rw [List.getElem?_set_ne n1, List.getElem?_set_ne n2]
    exact o.ok.sl.ne j k p hj hk hjk e1 e2
  · have n1 : i ≠ j := fun z => by subst z; rw [hO] at hj; cases hj
    rw [List.getElem?_set_ne n1] at e1 e2
    exact o.fr j p d' hj e1 e2
/-- .. to what is new and one's own: H1 the heap ahead of its making -/
theorem SOk.setO {v : V} {d : D} {g1 : Gh} {H1 : Hp} (o1 : SOk c g0 H0 g1 H1 s σ τ) {s' : Sto} (e : Ext g1 H1 g H) (w : WF c.X.K c.T g H s') (i : Nat) (hO : c.O i = true) (r : Own c.X.K g H v d) {p : Addr} (hv : v = .ref p) (hp : H1 p = none) : SOk c g0 H0 g H s' (σ.set i (some v)) (τ.set i (some d)) := by
  have o := o1.ext' e w
  have away : ∀ j d', j ≠ i → c.O j = true → τ[j]? = some (some d') → σ[j]? ≠ some (some (.ref p)) := fun j d' hj hOj e1 e2 => by
    obtain ⟨u, h1, h2⟩ := o1.ok.sl.at_ j d' e1
    rw [hOj, if_pos rfl] at h2
    rw [e2] at h1
    cases h1
    cases h2 with
    | lst a1 a2 a3 a4 => rw [hp] at a3; cases a3
    | dct a1 a2 a3 l a4 => rw [hp] at a3; cases a3
  refine ⟨⟨o.ok.wf, ⟨by rw [List.length_set, List.length_set]; exact o.ok.sl.len, fun j d' hd => ?_, fun j k q hj hk hjk e1 e2 => ?_⟩⟩, o.ext, fun j q d' hj e1 e2 => ?_⟩
  · by_cases q : i = j
    · subst q
      have hlt : i < τ.length := by
        have := (List.getElem?_eq_some_iff.mp hd).1
        rwa [List.length_set] at this
      rw [List.getElem?_set_self hlt] at hd
      cases hd
      refine ⟨v, List.getElem?_set_self (by rw [o.ok.sl.len]; exact hlt), ?_⟩
      rw [hO, if_pos rfl]
      exact r
    · rw [List.getElem?_set_ne q] at hd
      obtain ⟨u, h1, h2⟩ := o.ok.sl.at_ j d' hd
      exact ⟨u, by rw [List.getElem?_set_ne q]; exact h1, h2⟩
  · have hlen : ∀ m, (σ.set i (some v))[m]? = some (some (.ref q)) → m < τ.length := fun m z => by
      have := (List.getElem?_eq_some_iff.mp z).1
      rw [List.length_set, o.ok.sl.len] at this
      exact this
    by_cases n1 : i = j
    · subst n1
      have n2 : i ≠ k := hjk
      have li := hlen i e1
      rw [List.getElem?_set_self (by rw [o.ok.sl.len]; exact li)] at e1
      have e1 := Option.some.inj (Option.some.inj e1)
      rw [hv] at e1
      cases e1
      rw [List.getElem?_set_ne n2] at e2
      refine .inr ?_
      rw [List.getElem?_set_ne n2]
      have lk : k < τ.length := hlen k (by rw [List.getElem?_set_ne n2]; exact e2)
      cases z : τ[k]? with
      | none => rw [List.getElem?_eq_getElem lk] at z; cases z
      | some od =>
        cases od with
        | none => rfl
        | some d' => exact absurd e2 (away k d' (Ne.symm n2) hk z)
    · by_cases n2 : i = k
      · subst n2
        have li := hlen i e2
        rw [List.getElem?_set_self (by rw [o.ok.sl.len]; exact li)] at e2
        have e2 := Option.some.inj (Option.some.inj e2)
        rw [hv] at e2
        cases e2
        rw [List.getElem?_set_ne n1] at e1
        refine .inl ?_
        rw [List.getElem?_set_ne n1]
        have lk : j < τ.length := hlen j (by rw [List.getElem?_set_ne n1]; exact e1)
        cases z : τ[j]? with
        | none => rw [List.getElem?_eq_getElem lk] at z; cases z
        | some od =>
          cases od with
          | none => rfl
          | some d' => exact absurd e1 (away j d' (Ne.symm n1) hj z)
      · rw [List.getElem?_set_ne n1] at e1
        rw [List.getElem?_set_ne n2] at e2
        rw [List.getElem?_set_ne n1, List.getElem?_set_ne n2]
        exact o.ok.sl.ne j k q hj hk hjk e1 e2
  · by_cases n1 : i = j
    · subst n1
      have li : i < σ.length := by
        have := (List.getElem?_eq_some_iff.mp e2).1
        rwa [List.length_set] at this
      rw [List.getElem?_set_self li] at e2
      have e2 := Option.some.inj (Option.some.inj e2)
      rw [hv] at e2
      cases e2
      exact o1.ext.fresh hp
    · rw [List.getElem?_set_ne n1] at e1 e2
      exact o.fr j q d' hj e1 e2
/-- one's own list (dict) in slot i is changed -/
theorem SOk.mut {p : Addr} {u u' : HO} {d d' : D} (o : SOk c g0 H0 g H s σ τ) (i : Nat) (hO : c.O i = true) (hd : τ[i]? = some (some d)) (hs : σ[i]? = some (some (.ref p))) (hu : H p = some u) (hl : (∃ xs, u = .lst xs) ∨ (∃ kvs, u = .dK kvs))
    (hr : Own c.X.K g (upd H p u') (.ref p) d') : SOk c g0 H0 g (upd H p u') s σ (τ.set i (some d')) := by
  have hg : g.G p = none ∧ ∀ n, g.r n ≠ some p := by
    cases hr with
    | lst a1 a2 a3 a4 => exact ⟨a1, a2⟩
    | dct a1 a2 a3 l a4 => exact ⟨a1, a2⟩
  have hp0 : H0 p = none := o.fr i p d hO hd hs
  refine ⟨⟨o.ok.wf.mut hu hl hg.1 hg.2, ⟨by rw [List.length_set]; exact o.ok.sl.len, fun j e hd' => ?_, fun j k q hj hk hjk e1 e2 => ?_⟩⟩, o.ext.mut hp0, fun j q e hj e1 e2 => ?_⟩
  · by_cases q : i = j
    · subst q
      have hlt : i < τ.length := (List.getElem?_eq_some_iff.mp hd).1
      rw [List.getElem?_set_self hlt] at hd'
      cases hd'
      refine ⟨_, hs, ?_⟩
      rw [hO, if_pos rfl]
      exact hr
    · rw [List.getElem?_set_ne q] at hd'
      obtain ⟨v, h1, h2⟩ := o.ok.sl.at_ j e hd'
      refine ⟨v, h1, ?_⟩
      by_cases hOj : c.O j = true
      · rw [if_pos hOj] at h2 ⊢
        have ne : v ≠ .ref p := fun z => by
          subst z
          rcases o.ok.sl.ne i j p hO hOj q hs h1 with z | z
          · rw [hd] at z; cases z
          · rw [hd'] at z; cases z
        cases h2 with
        | @lst a xs ds a1 a2 a3 a4 => exact .lst a1 a2 (by rw [upd_ne (fun z => ne (by rw [z]))]; exact a3) a4
        | @dct a ks xs ds a1 a2 a3 l a4 => exact .dct a1 a2 (by rw [upd_ne (fun z => ne (by rw [z]))]; exact a3) l a4
      · rw [if_neg hOj] at h2 ⊢
        exact h2
  · have lf : ∀ m, τ[m]? = some none → (τ.set i (some d'))[m]? = some none := fun m z => by
      have ne : i ≠ m := fun w => by subst w; rw [hd] at z; cases z
      rw [List.getElem?_set_ne ne]; exact z
    rcases o.ok.sl.ne j k q hj hk hjk e1 e2 with z | z
    · exact .inl (lf j z)
    · exact .inr (lf k z)
  · by_cases n : i = j
    · subst n
      exact o.fr i q d hO hd e2
    · rw [List.getElem?_set_ne n] at e1
      exact o.fr j q e hj e1 e2
/-! ### blocks -/
def sNext : SD := fun τ => M.ret (.nx τ)
def sSeq (a b : SD) : SD := fun τ s => (a τ s).bind fun fl => match fl with
  | .nx τ' => b τ'
  | o => M.ret o
theorem dss_nil : DSs c [] sNext := ⟨tNext, pss_nil, fun g0 H0 g H s σ τ Dn o h => h g H σ (Le.refl g) o⟩
theorem dss_one {st : Stmt} {f : SD} (h : DS c st f) : DSs c [st] f := by
  obtain ⟨t, p, q⟩ := h
  exact ⟨t, pss_one p, q⟩
theorem dss_cons {st : Stmt} {sts : List Stmt} {a b : SD} (ha : DS c st a) (hb : DSs c sts b) : DSs c (st :: sts) (sSeq a b) := by
  obtain ⟨t, p, q⟩ := ha
  obtain ⟨u, p', q'⟩ := hb
  refine ⟨tSeq t u, pss_cons p p', fun g0 H0 g H s σ τ Dn o h => q g0 H0 g H s σ τ _ o ?_⟩
  unfold sSeq at h
  cases r : a τ s with
  | ok fl s1 =>
    rw [r] at h
    cases fl with
    | nx τ1 => exact fun g1 H1 σ1 l o1 => q' g0 H0 g1 H1 s1 σ1 τ1 Dn o1 (Ps.mono l h)
    | bk τ1 => exact h
    | ct τ1 => exact h
    | rt d => exact h
  | exc cl s1 => rw [r] at h; exact h
  | no => rw [r] at h; exact h
theorem ds_pass {pos : Pos} : DS c (.Pass pos) sNext := ⟨tNext, ps_pass, fun g0 H0 g H s σ τ Dn o h => h g H σ (Le.refl g) o⟩
def sBreak : SD := fun τ => M.ret (.bk τ)
def sCont : SD := fun τ => M.ret (.ct τ)
theorem ds_break {pos : Pos} : DS c (.Break pos) sBreak := ⟨tBreak, ps_break, fun g0 H0 g H s σ τ Dn o h => h g H σ (Le.refl g) o⟩
theorem ds_continue {pos : Pos} : DS c (.Continue pos) sCont := ⟨tCont, ps_continue, fun g0 H0 g H s σ τ Dn o h => h g H σ (Le.refl g) o⟩
def sExpr (f : ED) : SD := fun τ s => (f τ s).bind fun _ => M.ret (.nx τ)
theorem ds_expr {k : Kd} {e : Expr} {f : ED} {pos : Pos} (he : DE k c e f) (hs : swapsWith e none pos.line c.X.env = pure false := by rfl) : DS c (.Expr e pos) (sExpr f) := by
  obtain ⟨t, p, q⟩ := he
  exact ⟨tDrop t, ps_expr p hs, fun g0 H0 g H s σ τ Dn o h => q g H s σ τ _ o.ok (Ps.seq o h fun x s1 g1 H1 _ e1 w1 o1 h1 v rx => h1 g1 H1 σ (Le.refl _) o1)⟩
def sSet (i : Nat) (f : ED) : SD := fun τ s => (f τ s).bind fun d => M.ret (.nx (τ.set i (some d)))
theorem evs_set {i : Nat} {f : ED} {t : TE} (hO : c.O i = false) (q : Evs .z c t f) : ∀ g0 H0 g H s σ τ Dn, SOk c g0 H0 g H s σ τ → Ps c g0 H0 g Dn (sSet i f τ s) → tAsg t (gName i) Dn σ H := fun g0 H0 g H s σ τ Dn o h =>
  q g H s σ τ _ o.ok (Ps.seq o h fun x s1 g1 H1 _ e1 w1 o1 h1 v rx => h1 g1 H1 _ (Le.refl _) (o1.set i hO rx))
theorem ds_set {i : Nat} {x : Str} {e : Expr} {f : ED} {pos pos' : Pos} (hN : c.X.N.Nodup) (he : DE .z c e f) (hO : c.O i = false := by rfl) (hi : c.X.N[i]? = some x := by rfl) (hx : Loc c.X.env.scope x := by first | exact Or.inl rfl | exact Or.inr rfl)
    (hs : swapsWith e (some (.Name x pos')) pos.line c.X.env = pure false := by rfl) (hf : c.X.fn x = true ∨ c.X.env.scope.names.lookup x = some .local := by first | exact .inl rfl | exact .inr rfl) : DS c (.Assign [.Name x pos'] e pos) (sSet i f) := by
  obtain ⟨t, p, q⟩ := he
  exact ⟨_, ps_set hN hi hx p hs hf, evs_set hO q⟩
def sSetO (i : Nat) (f : ED) : SD := fun τ s => (f τ s).bind fun d => if isCt d then M.ret (.nx (τ.set i (some d))) else fun _ => .no
theorem evs_setO {i : Nat} {f : ED} {t : TE} (hO : c.O i = true) (q : Evs .o c t f) : ∀ g0 H0 g H s σ τ Dn, SOk c g0 H0 g H s σ τ → Ps c g0 H0 g Dn (sSetO i f τ s) → tAsg t (gName i) Dn σ H := fun g0 H0 g H s σ τ Dn o h =>
  q g H s σ τ _ o.ok (Ps.seq o h fun x s1 g1 H1 _ e1 w1 o1 h1 v rx => by
    by_cases hc : isCt x = true
    · rw [if_pos hc] at h1
      rcases rx with ⟨z, _⟩ | ⟨r, pp, hv, hp⟩
      · rw [hc] at z; cases z
      · exact h1 g1 H1 _ (Le.refl _) (o.setO e1 w1 i hO r hv hp)
    · rw [if_neg hc] at h1
      exact h1.elim)
theorem ds_setO {i : Nat} {x : Str} {e : Expr} {f : ED} {pos pos' : Pos} (hN : c.X.N.Nodup) (he : DE .o c e f) (hO : c.O i = true := by rfl) (hi : c.X.N[i]? = some x := by rfl) (hx : Loc c.X.env.scope x := by first | exact Or.inl rfl | exact Or.inr rfl)
    (hs : swapsWith e (some (.Name x pos')) pos.line c.X.env = pure false := by rfl) (hf : c.X.fn x = true ∨ c.X.env.scope.names.lookup x = some .local := by first | exact .inl rfl | exact .inr rfl) : DS c (.Assign [.Name x pos'] e pos) (sSetO i f) := by
  obtain ⟨t, p, q⟩ := he
  exact ⟨_, ps_set hN hi hx p hs hf, evs_setO hO q⟩
def sIf (t : TD) (a b : SD) : SD := fun τ s => (t τ s).bind fun x => match x with
  | true => a τ
  | false => b τ
theorem ds_if {e : Expr} {a b : List Stmt} {ft : TD} {fa fb : SD} {pos : Pos} (ht : DT c e ft) (ha : DSs c a fa) (hb : DSs c b fb) : DS c (.If e a b pos) (sIf ft fa fb) := by
  obtain ⟨t, p, q⟩ := ht
  obtain ⟨ta, pa, qa⟩ := ha
  obtain ⟨tb, pb, qb⟩ := hb
  refine ⟨tIfS t ta tb, ps_if p pa pb, fun g0 H0 g H s σ τ Dn o h => q g H s σ τ _ o.ok (Ps.seq o h fun x s1 g1 H1 _ e1 w1 o1 h1 => ?_)⟩
  cases x with
  | true => rw [if_pos rfl]; exact qa g0 H0 g1 H1 s1 σ τ Dn o1 h1
  | false => rw [if_neg Bool.false_ne_true]; exact qb g0 H0 g1 H1 s1 σ τ Dn o1 h1
end
end Mir

set_option Elab.async false
set_option linter.all false
set_option maxRecDepth 100000
set_option maxHeartbeats 4000000
/-! Mir, part D: return, raise, loops, stores, defs. -/
namespace Mir
open PySem PySem.Spec PyProof.Rows L2
abbrev Ctx.own (c : Ctx) (O : Nat → Bool) : Ctx := { c with O := O }
section
variable {c : Ctx} {g0 g g' : Gh} {H0 H H' : Hp} {s : Sto} {σ : St} {τ : Ev} {Dn : Ends}
/-! ### one's own things are frozen -/
/-- slot i -/
theorem SOk.freeze1 (o : SOk c g0 H0 g H s σ τ) (i : Nat) : ∃ g', Le g g' ∧ SOk (c.own fun j => if j = i then false else c.O j) g0 H0 g' H s σ τ := by
  have weak : (∀ d v, c.O i = true → τ[i]? = some (some d) → σ[i]? = some (some v) → Rep c.X.K g v d) → SOk (c.own fun j => if j = i then false else c.O j) g0 H0 g H s σ τ := fun hh => by
    refine ⟨⟨o.ok.wf, ⟨o.ok.sl.len, fun j d hd => ?_, fun j k p hj hk hjk e1 e2 => ?_⟩⟩, o.ext, fun j p d hj e1 e2 => ?_⟩
    · obtain ⟨v, h1, h2⟩ := o.ok.sl.at_ j d hd
      refine ⟨v, h1, ?_⟩
      show if (if j = i then false else c.O j) = true then _ else _
      by_cases q : j = i
      · subst q
        rw [if_pos rfl, if_neg Bool.false_ne_true]
        by_cases hO : c.O j = true
        · exact hh d v hO hd h1
        · rw [if_neg hO] at h2; exact h2
      · rw [if_neg q]; exact h2
    · have hj : (if j = i then false else c.O j) = true := hj
      have hk : (if k = i then false else c.O k) = true := hk
      have nj : j ≠ i := fun q => by rw [if_pos q] at hj; cases hj
      have nk : k ≠ i := fun q => by rw [if_pos q] at hk; cases hk
      rw [if_neg nj] at hj
      rw [if_neg nk] at hk
      exact o.ok.sl.ne j k p hj hk hjk e1 e2
    · have hj : (if j = i then false else c.O j) = true := hj
      have nj : j ≠ i := fun q => by rw [if_pos q] at hj; cases hj
      rw [if_neg nj] at hj
      exact o.fr j p d hj e1 e2
  cases q : τ[i]? with
  | none => exact ⟨g, Le.refl g, weak fun d v _ z => by rw [q] at z; cases z⟩
  | some od =>
    cases od with
    | none => exact ⟨g, Le.refl g, weak fun d v _ z => by rw [q] at z; cases z⟩
    | some d =>
      by_cases hO : c.O i = true
      · obtain ⟨v, h1, h2⟩ := o.ok.sl.at_ i d q
        rw [hO, if_pos rfl] at h2
        -- the address, its object
        obtain ⟨p, u, rfl, hg, hr, hu, ht⟩ : ∃ p u, v = .ref p ∧ g.G p = none ∧ (∀ n, g.r n ≠ some p) ∧ H p = some u ∧ ∀ ps, u ≠ .tbl ps := by
          cases h2 with
          | lst a1 a2 a3 a4 => exact ⟨_, _, rfl, a1, a2, a3, fun ps => by simp⟩
          | dct a1 a2 a3 l a4 => exact ⟨_, _, rfl, a1, a2, a3, fun ps => by simp⟩
        have le : Le g (g.frz p u) := Gh.frz_le (.inl hg)
        have rep : Rep c.X.K (g.frz p u) (.ref p) d := by
          cases h2 with
          | lst a1 a2 a3 a4 => rw [hu] at a3; cases a3; exact .lst Gh.frz_at (a4.mono le)
          | dct a1 a2 a3 l a4 => rw [hu] at a3; cases a3; exact .dct Gh.frz_at l (a4.mono le)
        have hp0 : H0 p = none := o.fr i p d hO q h1
        refine ⟨_, le, ⟨o.ok.wf.freeze hu hr ht, ⟨o.ok.sl.len, fun j d' hd => ?_, fun j k p hj hk hjk e1 e2 => ?_⟩⟩, o.ext.freeze hp0 (.inl hg), fun j p d hj e1 e2 => ?_⟩
        · obtain ⟨v, k1, k2⟩ := o.ok.sl.at_ j d' hd
          refine ⟨v, k1, ?_⟩
          show if (if j = i then false else c.O j) = true then _ else _
          by_cases z : j = i
          · subst z
            rw [if_pos rfl, if_neg Bool.false_ne_true]
            rw [q] at hd; cases hd
            rw [h1] at k1; cases k1
            exact rep
          · rw [if_neg z]
            by_cases hOj : c.O j = true
            · rw [if_pos hOj] at k2 ⊢
              have ne : v ≠ .ref p := fun w => by
                subst w
                rcases o.ok.sl.ne i j p hO hOj (Ne.symm z) h1 k1 with w | w
                · rw [q] at w; cases w
                · rw [hd] at w; cases w
              cases k2 with
              | @lst a xs ds a1 a2 a3 a4 => exact .lst (by show upd g.G p u a = none; rw [upd_ne (fun w => ne (by rw [w]))]; exact a1) a2 a3 (a4.mono le)
              | @dct a ks xs ds a1 a2 a3 l a4 => exact .dct (by show upd g.G p u a = none; rw [upd_ne (fun w => ne (by rw [w]))]; exact a1) a2 a3 l (a4.mono le)
            · rw [if_neg hOj] at k2 ⊢
              exact k2.mono le
        · have hj : (if j = i then false else c.O j) = true := hj
          have hk : (if k = i then false else c.O k) = true := hk
          have nj : j ≠ i := fun q => by rw [if_pos q] at hj; cases hj
          have nk : k ≠ i := fun q => by rw [if_pos q] at hk; cases hk
          rw [if_neg nj] at hj
          rw [if_neg nk] at hk
          exact o.ok.sl.ne j k p hj hk hjk e1 e2
        · have hj : (if j = i then false else c.O j) = true := hj
          have nj : j ≠ i := fun q => by rw [if_pos q] at hj; cases hj
          rw [if_neg nj] at hj
          exact o.fr j p d hj e1 e2
      · obtain ⟨v, h1, h2⟩ := o.ok.sl.at_ i d q
        exact ⟨g, Le.refl g, weak fun d v z => absurd z hO⟩
/-- the first n slots -/
theorem SOk.freezeN (o : SOk c g0 H0 g H s σ τ) : ∀ n, ∃ g', Le g g' ∧ SOk (c.own fun j => if j < n then false else c.O j) g0 H0 g' H s σ τ
  | 0 => ⟨g, Le.refl g, by
    have e : (c.own fun j => if j < 0 then false else c.O j) = c := by
      show ({ c with O := _ } : Ctx) = c
      have : (fun j => if j < 0 then false else c.O j) = c.O := funext fun j => by rw [if_neg (Nat.not_lt_zero j)]
      rw [this]
    rw [e]; exact o⟩
  | n + 1 => by
    obtain ⟨g1, l1, o1⟩ := SOk.freezeN o n
    obtain ⟨g2, l2, o2⟩ := o1.freeze1 n
    refine ⟨g2, l1.trans l2, ?_⟩
    have e : (fun j => if j = n then false else (if j < n then false else c.O j)) = fun j => if j < n + 1 then false else c.O j := funext fun j => by
      by_cases h1 : j = n
      · subst h1
        rw [if_pos rfl, if_pos (Nat.lt_succ_self _)]
      · by_cases h2 : j < n
        · rw [if_neg h1, if_pos h2, if_pos (Nat.lt_succ_of_lt h2)]
        · rw [if_neg h1, if_neg h2, if_neg (by omega)]
    have e2 : ((c.own fun j => if j < n then false else c.O j).own fun j => if j = n then false else (c.own fun j => if j < n then false else c.O j).O j) = c.own fun j => if j < n + 1 then false else c.O j := by
      show ({ c with O := _ } : Ctx) = { c with O := _ }
      rw [← e]
    rw [e2] at o2
    exact o2
def noO : Nat → Bool := fun _ => false
theorem SOk.freeze (o : SOk c g0 H0 g H s σ τ) : ∃ g', Le g g' ∧ SOk (c.own noO) g0 H0 g' H s σ τ := by
  obtain ⟨g1, l1, o1⟩ := o.freezeN τ.length
  refine ⟨g1, l1, ⟨o1.ok.wf, ⟨o1.ok.sl.len, fun j d hd => ?_, fun j k p hj => nomatch hj⟩⟩, o1.ext, fun j p d hj => nomatch hj⟩
  obtain ⟨v, h1, h2⟩ := o1.ok.sl.at_ j d hd
  refine ⟨v, h1, ?_⟩
  have hlt : j < τ.length := (List.getElem?_eq_some_iff.mp hd).1
  have h2 : if (if j < τ.length then false else c.O j) = true then Own c.X.K g1 H v d else Rep c.X.K g1 v d := h2
  rw [if_pos hlt, if_neg Bool.false_ne_true] at h2
  show if false = true then _ else _
  rw [if_neg Bool.false_ne_true]
  exact h2
/-- slot i is frozen from here on -/
theorem dss_freeze (i : Nat) {sts : List Stmt} {f : SD} (h : DSs (c.own fun j => if j = i then false else c.O j) sts f) (hb : ∀ τ s τ' s', f τ s ≠ .ok (.bk τ') s' ∧ f τ s ≠ .ok (.ct τ') s' ∧ f τ s ≠ .ok (.nx τ') s') : DSs c sts f := by
  obtain ⟨t, p, q⟩ := h
  refine ⟨t, p, fun g0 H0 g H s σ τ Dn o h => ?_⟩
  obtain ⟨g1, l1, o1⟩ := o.freeze1 i
  refine q g0 H0 g1 H s σ τ Dn o1 ?_
  cases r : f τ s with
  | ok fl s1 =>
    rw [r] at h
    cases fl with
    | nx τ1 => exact absurd r (hb τ s τ1 s1).2.2
    | bk τ1 => exact absurd r (hb τ s τ1 s1).1
    | ct τ1 => exact absurd r (hb τ s τ1 s1).2.1
    | rt d => exact h
  | exc cl s1 => rw [r] at h; exact h
  | no => rw [r] at h; exact h
def sRet (f : ED) : SD := fun τ s => (f τ s).bind fun d => M.ret (.rt d)
theorem ds_ret {e : Expr} {f : ED} {pos : Pos} (he : DE .z (c.own noO) e f) : DS c (.Return (some e) pos) (sRet f) := by
  obtain ⟨t, p, q⟩ := he
  refine ⟨tRet t, ps_ret p, fun g0 H0 g H s σ τ Dn o h => ?_⟩
  obtain ⟨g1, l1, o1⟩ := o.freeze
  refine q g1 H s σ τ _ o1.ok ?_
  unfold sRet at h
  cases r : f τ s with
  | ok d s1 => rw [r] at h; exact fun g2 H2 e2 w2 v rv => h g2 H2 v (o1.ext.trans e2) w2 rv
  | exc cl s1 => rw [r] at h; exact fun g2 H2 e2 w2 => h g2 H2 (o1.ext.trans e2) w2
  | no => rw [r] at h; exact h
def sRetN : SD := fun _ => M.ret (.rt .non)
theorem ds_retN {pos : Pos} : DS c (.Return none pos) sRetN := ⟨tRetN, ps_retN, fun g0 H0 g H s σ τ Dn o h => h g H .non o.ext o.ok.wf .non⟩
/-! ### raise -/
structure ExcF (K : PySem.W.Frag) (mg : Str → Option Value) (x : Str) : Prop where
  g : mg x = some (.ref (He.ga K x))
  e : PySem.W.excIn K (He.ga K x) He.veBase "ValueError.__new__" = true
  k : PySem.W.keepIn K (.ref (He.ga K x)) = true
  b : PySem.W.subIn K (.ref (He.ga K x)) (.type "BaseException") = some true
  t : PySem.W.typeIn K (.ref (He.ga K x)) = some (.type "type")
def sRaise (x : Str) : SD := fun _ s => .exc x s
theorem ds_raise {x m : Str} {j : Nat} {p p2 p3 pos : Pos} (F : ExcF c.X.K c.X.mg x) (tk : L2N.Takes c.X fun cls d _ H => c.W cls d H) (hc : c.X.calm = true := by rfl) (hg : Gl c.X x := by rfl) (hdb : (x == ("__debug__" : Str)) = false := by decide) :
    DS c (.Raise (some (.Call (.Name x p) [.Constant (.str m) j p2] [] p3)) none pos) (sRaise x) :=
  ⟨_, L2N.ps_raise hc tk (L2N.pmk_own PySem.F.excBase_ValueError F.e F.g F.k (raises_own F.b F.t) hg hdb), fun g0 H0 g H s σ τ Dn o h => h g H o.ext o.ok.wf⟩
/-! ### while -/
def loopW (t : TD) (b : SD) : Nat → SD
  | 0 => fun _ _ => .no
  | n + 1 => fun τ s => (t τ s).bind fun x => match x with
    | true => fun s => (b τ s).bind fun fl => match fl with
      | .nx τ' => loopW t b n τ'
      | .ct τ' => loopW t b n τ'
      | .bk τ' => M.ret (.nx τ')
      | .rt d => M.ret (.rt d)
    | false => M.ret (.nx τ)
def fuel : Nat := 1000000
def sWhile (t : TD) (b : SD) : SD := loopW t b fuel
theorem ds_while {e : Expr} {body : List Stmt} {ft : TD} {fb : SD} {pos : Pos} (hp : PassesOwn (model c.X.prog c.X.w) c.X.A c.X.env c.X.xe) (ht : DT c e ft) (hb : DSs c body fb) : DS c (.While e body [] pos) (sWhile ft fb) := by
  obtain ⟨t, p, q⟩ := ht
  obtain ⟨u, p', q'⟩ := hb
  refine ⟨tWhile t u, ps_while hp p p', fun g0 H0 g H s σ τ Dn o h => ⟨fun m σ H => ∃ g s τ, SOk c g0 H0 g H s σ τ ∧ Ps c g0 H0 g Dn (loopW ft fb m τ s), ⟨fuel, g, s, τ, o, h⟩, ?_⟩⟩
  rintro m σ1 H1 ⟨g1, s1, τ1, o1, h1⟩
  cases m with
  | zero => exact h1.elim
  | succ n =>
    unfold loopW at h1
    refine q g1 H1 s1 σ1 τ1 _ o1.ok (Ps.seq o1 h1 fun x s2 g2 H2 _ e2 w2 o2 h2 => ?_)
    cases x with
    | false => rw [if_neg Bool.false_ne_true]; exact h2 g2 H2 σ1 (Le.refl _) o2
    | true =>
      rw [if_pos rfl]
      refine ⟨fun σ' H' => ∃ g s τ, SOk c g0 H0 g H' s σ' τ ∧ Ps c g0 H0 g Dn (loopW ft fb n τ s), fun σ' H' hh => ⟨n, Nat.lt_succ_self n, hh⟩, q' g0 H0 g2 H2 s2 σ1 τ1 _ o2 ?_⟩
      have h2 : Ps c g0 H0 g2 Dn ((fb τ1 s2).bind fun fl => match fl with
        | .nx τ' => loopW ft fb n τ'
        | .ct τ' => loopW ft fb n τ'
        | .bk τ' => M.ret (.nx τ')
        | .rt d => M.ret (.rt d)) := h2
      cases r : fb τ1 s2 with
      | ok fl s3 =>
        rw [r] at h2
        cases fl with
        | nx τ3 => exact fun g3 H3 σ3 l3 o3 => ⟨g3, s3, τ3, o3, Ps.mono l3 h2⟩
        | ct τ3 => exact fun g3 H3 σ3 l3 o3 => ⟨g3, s3, τ3, o3, Ps.mono l3 h2⟩
        | bk τ3 => exact h2
        | rt d => exact h2
      | exc cl s3 => rw [r] at h2; exact h2
      | no => rw [r] at h2; exact h2
/-! ### targets -/
/-- frozen values are written into the slots ws -/
inductive Wr (K : PySem.W.Frag) (g : Gh) (ws : List Nat) : St → Ev → St → Ev → Prop
  | nil {σ : St} {τ : Ev} : Wr K g ws σ τ σ τ
  | set {σ σ' : St} {τ τ' : Ev} {i : Nat} {v : V} {d : D} : i ∈ ws → Rep K g v d → Wr K g ws (σ.set i (some v)) (τ.set i (some d)) σ' τ' → Wr K g ws σ τ σ' τ'
theorem Wr.trans {K : PySem.W.Frag} {ws : List Nat} {σ σ1 σ2 : St} {τ τ1 τ2 : Ev} (a : Wr K g ws σ τ σ1 τ1) (b : Wr K g ws σ1 τ1 σ2 τ2) : Wr K g ws σ τ σ2 τ2 := by
  induction a with
  | nil => exact b
  | set hi r _ ih => exact .set hi r (ih b)
theorem Wr.imp {K : PySem.W.Frag} {ws ws' : List Nat} {σ σ1 : St} {τ τ1 : Ev} (hw : ∀ i ∈ ws, i ∈ ws') (a : Wr K g ws σ τ σ1 τ1) : Wr K g ws' σ τ σ1 τ1 := by
  induction a with
  | nil => exact .nil
  | set hi r _ ih => exact .set (hw _ hi) r ih
theorem SOk.wr {ws : List Nat} {σ' : St} {τ' : Ev} (o : SOk c g0 H0 g H s σ τ) (hO : ∀ i ∈ ws, c.O i = false) (a : Wr c.X.K g ws σ τ σ' τ') : SOk c g0 H0 g H s σ' τ' := by
  induction a with
  | nil => exact o
  | set hi r _ ih => exact ih (o.set _ (hO _ hi) r)
def DG (c : Ctx) (tg : Expr) (ws : List Nat) (f : D → Ev → Option Ev) : Prop := ∃ t : TG, PG c.X tg t ∧ ∀ g H s σ τ v d τ' Q, WF c.X.K c.T g H s → Rep c.X.K g v d → f d τ = some τ' → (∀ σ', Wr c.X.K g ws σ τ σ' τ' → Q σ' H) → t v σ H Q
def DGs (c : Ctx) (tgs : List Expr) (ws : List Nat) (f : List D → Ev → Option Ev) : Prop := ∃ t : TGs, PGs c.X tgs t ∧ ∀ g H s σ τ vs ds τ' Q, WF c.X.K c.T g H s → Reps c.X.K g vs ds → f ds τ = some τ' → (∀ σ', Wr c.X.K g ws σ τ σ' τ' → Q σ' H) → t vs σ H Q
def gNm (i : Nat) : D → Ev → Option Ev := fun d τ => some (τ.set i (some d))
def gsNil : List D → Ev → Option Ev
  | [], τ => some τ
  | _, _ => none
def gsCons (f : D → Ev → Option Ev) (r : List D → Ev → Option Ev) : List D → Ev → Option Ev
  | d :: ds, τ => (f d τ).bind (r ds)
  | [], _ => none
def gTp (n : Nat) (f : List D → Ev → Option Ev) : D → Ev → Option Ev
  | .tup ds, τ => if ds.length = n then f ds τ else none
  | _, _ => none
theorem dg_name {i : Nat} {x : Str} {pos : Pos} (hN : c.X.N.Nodup) (hi : c.X.N[i]? = some x := by rfl) (hx : Loc c.X.env.scope x := by first | exact Or.inl rfl | exact Or.inr rfl) (hf : c.X.fn x = true ∨ c.X.env.scope.names.lookup x = some .local := by first | exact .inl rfl | exact .inr rfl) :
    DG c (.Name x pos) [i] (gNm i) := ⟨gName i, pg_name hN hi hx hf, fun g H s σ τ v d τ' Q w r e k => by
  cases e
  exact k _ (.set (List.mem_singleton.mpr rfl) r .nil)⟩
theorem dgs_nil : DGs c [] [] gsNil := ⟨gNil, pgs_nil, fun g H s σ τ vs ds τ' Q w r e k => by
  cases r with
  | nil => cases e; exact ⟨rfl, k _ .nil⟩
  | cons _ _ => cases e⟩
theorem dgs_cons {e : Expr} {es : List Expr} {ws ws' : List Nat} {f : D → Ev → Option Ev} {r : List D → Ev → Option Ev} (h : DG c e ws f) (hr : DGs c es ws' r) (hs : (assignEach (e :: es) c.X.env).map (·.2) = assign e c.X.env :: (assignEach es c.X.env).map (·.2) := by rfl) : DGs c (e :: es) (ws ++ ws') (gsCons f r) := by
  obtain ⟨t, p, q⟩ := h
  obtain ⟨u, p', q'⟩ := hr
  refine ⟨gCons t u, pgs_cons p p' hs, fun g H s σ τ vs ds τ' Q w rr e k => ?_⟩
  cases rr with
  | nil => cases e
  | @cons v vs d ds rv rs =>
    have e : (f d τ).bind (r ds) = some τ' := e
    cases z : f d τ with
    | none => rw [z] at e; cases e
    | some τ1 =>
      rw [z] at e
      exact ⟨v, vs, rfl, q g H s σ τ v d τ1 _ w rv z fun σ1 a => q' g H s σ1 τ1 vs ds τ' Q w rs e fun σ2 b => k σ2 ((a.imp fun i hi => List.mem_append_left _ hi).trans (b.imp fun i hi => List.mem_append_right _ hi))⟩
theorem dg_tup {es : List Expr} {k : Nat} {n : Nat} {ws : List Nat} {f : List D → Ev → Option Ev} {pos : Pos} (h : DGs c es ws f) (hc : c.X.calm = true := by rfl) (hn : (assignEach es c.X.env).length = n := by rfl) (hst : (assignEach es c.X.env).findIdx? (·.1) = none := by rfl) : DG c (.Tuple es k pos) ws (gTp n f) := by
  obtain ⟨t, p, q⟩ := h
  refine ⟨gTup c.X.K n t, pg_tup hc p hn hst, fun g H s σ τ v d τ' Q w r e kk => ?_⟩
  cases r with
  | tup h1 h2 =>
    have e : (if _ = n then _ else _) = some τ' := e
    split at e
    · rename_i hl
      exact ⟨_, _, rfl, sqT_mono w.sub h1, h2.length.trans hl, q g H s σ τ _ _ τ' Q w h2 e kk⟩
    · cases e
  | _ => cases e
/-! ### what is walked -/
structure Gives (c : Ctx) (g1 : Gh) (J : It) (ds : List D) : Prop where
  go : ∀ i d, ds[i]? = some d → ∀ g2 H2 s2, Le g1 g2 → WF c.X.K c.T g2 H2 s2 → J.go i H2 ∧ ∀ x H3, J.yld i H2 x H3 → ∃ g3, Ext g2 H2 g3 H3 ∧ WF c.X.K c.T g3 H3 s2 ∧ Rep c.X.K g3 x d
  stop : ∀ g2 H2 s2, Le g1 g2 → WF c.X.K c.T g2 H2 s2 → J.stop ds.length H2
def DI (c : Ctx) (tg iter : Expr) (f : AD) : Prop := ∃ wi : TI, PI c.X tg iter wi ∧ ∀ g H s σ τ R, Ok c g H s σ τ → Pg c g H (fun ds _ g' H' => ∀ J, Gives c g' J ds → R J H') (f τ s) → wi σ H R
/-- .. while nothing but a run's steps happens -/
structure GivesX (c : Ctx) (g1 : Gh) (H1 : Hp) (J : It) (ds : List D) : Prop where
  go : ∀ i d, ds[i]? = some d → ∀ g2 H2 s2, Ext g1 H1 g2 H2 → WF c.X.K c.T g2 H2 s2 → J.go i H2 ∧ ∀ x H3, J.yld i H2 x H3 → ∃ g3, Ext g2 H2 g3 H3 ∧ WF c.X.K c.T g3 H3 s2 ∧ Rep c.X.K g3 x d
  stop : ∀ g2 H2 s2, Ext g1 H1 g2 H2 → WF c.X.K c.T g2 H2 s2 → J.stop ds.length H2
def DIx (c : Ctx) (tg iter : Expr) (f : AD) : Prop := ∃ wi : TI, PI c.X tg iter wi ∧ ∀ g H s σ τ R, Ok c g H s σ τ → Pg c g H (fun ds _ g' H' => ∀ J, GivesX c g' H' J ds → R J H') (f τ s) → wi σ H R
theorem DI.x {tg iter : Expr} {f : AD} (h : DI c tg iter f) : DIx c tg iter f := by
  obtain ⟨wi, p, q⟩ := h
  exact ⟨wi, p, fun g H s σ τ R o h => q g H s σ τ R o (h.imp fun ds s1 g1 H1 e1 w1 k J hJ => k J ⟨fun i d hd g2 H2 s2 e2 w2 => hJ.go i d hd g2 H2 s2 e2.le w2, fun g2 H2 s2 e2 w2 => hJ.stop g2 H2 s2 e2.le w2⟩)⟩
def toL : D → M (List D)
  | .lst ds => M.ret ds
  | _ => fun _ => .no
def toT : D → M (List D)
  | .tup ds => M.ret ds
  | _ => fun _ => .no
def iLst (f : ED) : AD := fun τ s => (f τ s).bind toL
def iTpl (f : ED) : AD := fun τ s => (f τ s).bind toT
theorem di_list {tg e : Expr} {f : ED} (h : DE .z c e f) : DI c tg e (iLst f) := by
  obtain ⟨t, p, q⟩ := h
  refine ⟨iList c.X.K t, pi_list p, fun g H s σ τ R o h => q g H s σ τ _ o (Pg.seq h fun d s1 g1 H1 _ e1 w1 h1 v rv => ?_)⟩
  cases d with
  | lst ds =>
    have rv : Rep c.X.K g1 v (.lst ds) := rv
    cases rv with
    | @lst a xs _ hg rs =>
      refine ⟨a, rfl, ⟨xs, SqL.of (w1.sub _ _ hg)⟩, Pg.now h1 w1 _ ⟨fun i d hd g2 H2 s2 l2 w2 => ?_, fun g2 H2 s2 l2 w2 => ?_⟩⟩
      · have hq : SqL c.X.K H2 a xs := SqL.of (w2.sub _ _ (l2.G _ _ hg))
        obtain ⟨x, hx, rx⟩ := rs.get hd
        exact ⟨⟨xs, x, hq, hx⟩, fun y H3 hy => ⟨g2, by rw [hy.1]; exact Ext.refl _ _, by rw [hy.1]; exact w2, by
          have z := hy.2 xs hq
          rw [hx] at z; cases z
          exact rx.mono l2⟩⟩
      · exact ⟨xs, SqL.of (w2.sub _ _ (l2.G _ _ hg)), Nat.le_of_eq rs.length⟩
  | _ => exact h1.elim
/-- one's own list, walked by a comprehension -/
theorem di_listB {tg e : Expr} {f : ED} (h : DE .b c e f) : DIx c tg e (iLst f) := by
  obtain ⟨t, p, q⟩ := h
  refine ⟨iList c.X.K t, pi_list p, fun g H s σ τ R o h => q g H s σ τ _ o (Pg.seq h fun d s1 g1 H1 _ e1 w1 h1 v rv => ?_)⟩
  cases d with
  | lst ds =>
    obtain ⟨a, xs, hv, ha, rs, st⟩ : ∃ a xs, v = .ref a ∧ H1 a = some (.lst xs) ∧ Reps c.X.K g1 xs ds ∧ ∀ g2 H2 s2, Ext g1 H1 g2 H2 → WF c.X.K c.T g2 H2 s2 → H2 a = some (.lst xs) := by
      rcases rv with rv | rv
      · cases rv with
        | lst hg rs => exact ⟨_, _, rfl, w1.sub _ _ hg, rs, fun g2 H2 s2 e2 w2 => w2.sub _ _ (e2.le.G _ _ hg)⟩
      · cases rv with
        | lst a1 a2 a3 a4 => exact ⟨_, _, rfl, a3, a4, fun g2 H2 s2 e2 w2 => e2.keep _ _ a3 a2 fun ps => by simp⟩
    subst hv
    refine ⟨a, rfl, ⟨xs, SqL.of ha⟩, Pg.now h1 w1 _ ⟨fun i d hd g2 H2 s2 e2 w2 => ?_, fun g2 H2 s2 e2 w2 => ?_⟩⟩
    · have hq : SqL c.X.K H2 a xs := SqL.of (st g2 H2 s2 e2 w2)
      obtain ⟨x, hx, rx⟩ := rs.get hd
      exact ⟨⟨xs, x, hq, hx⟩, fun y H3 hy => ⟨g2, by rw [hy.1]; exact Ext.refl _ _, by rw [hy.1]; exact w2, by
        have z := hy.2 xs hq
        rw [hx] at z; cases z
        exact rx.mono e2.le⟩⟩
    · exact ⟨xs, SqL.of (st g2 H2 s2 e2 w2), Nat.le_of_eq rs.length⟩
  | _ => exact h1.elim
theorem di_tup {tg e : Expr} {f : ED} (h : DE .z c e f) : DI c tg e (iTpl f) := by
  obtain ⟨t, p, q⟩ := h
  refine ⟨iTup c.X.K t, pi_tup p, fun g H s σ τ R o h => q g H s σ τ _ o (Pg.seq h fun d s1 g1 H1 _ e1 w1 h1 v rv => ?_)⟩
  cases d with
  | tup ds =>
    have rv : Rep c.X.K g1 v (.tup ds) := rv
    cases rv with
    | @tup a xs _ hg rs =>
      refine ⟨a, rfl, ⟨xs, sqT_mono w1.sub hg⟩, Pg.now h1 w1 _ ⟨fun i d hd g2 H2 s2 l2 w2 => ?_, fun g2 H2 s2 l2 w2 => ?_⟩⟩
      · have hq : SqT c.X.K H2 a xs := sqT_mono (fun a o e => w2.sub _ _ (l2.G a o e)) hg
        obtain ⟨x, hx, rx⟩ := rs.get hd
        exact ⟨⟨xs, x, hq, hx⟩, fun y H3 hy => ⟨g2, by rw [hy.1]; exact Ext.refl _ _, by rw [hy.1]; exact w2, by
          have z := hy.2 xs hq
          rw [hx] at z; cases z
          exact rx.mono l2⟩⟩
      · exact ⟨xs, sqT_mono (fun a o e => w2.sub _ _ (l2.G a o e)) hg, Nat.le_of_eq rs.length⟩
  | _ => exact h1.elim
theorem gives_range {g : Gh} (lo : Int) (n : Nat) : Gives c g (Itr lo n) ((List.range n).map fun (i : Nat) => D.int (lo + (i : Int))) :=
  ⟨fun i d hd g2 H2 s2 l2 w2 => by
    rw [List.getElem?_map] at hd
    cases z : (List.range n)[i]? with
    | none => rw [z] at hd; cases hd
    | some j =>
      rw [z] at hd
      have hlt : i < n := by
        have := (List.getElem?_eq_some_iff.mp z).1
        rwa [List.length_range] at this
      rw [List.getElem?_range hlt] at z
      cases z
      cases hd
      exact ⟨hlt, fun x H3 hy => ⟨g2, by rw [hy.1]; exact Ext.refl _ _, by rw [hy.1]; exact w2, by rw [hy.2]; exact .int _⟩⟩, fun g2 H2 s2 l2 w2 => by
    show n ≤ _
    rw [List.length_map, List.length_range]
    exact Nat.le_refl n⟩
def rg62 (i : Int) : Bool := decide (-(2 ^ 62) ≤ i) && decide (i < 2 ^ 62)
def range1D : List D → Option (List D)
  | [.int j] => if rg62 j then some ((List.range j.toNat).map fun (i : Nat) => D.int (0 + (i : Int))) else none
  | _ => none
def range2D : List D → Option (List D)
  | [.int i, .int j] => if rg62 i && rg62 j then some ((List.range (j - i).toNat).map fun (k : Nat) => D.int (i + (k : Int))) else none
  | _ => none
def iN (op : List D → Option (List D)) (a : AD) : AD := fun τ s => (a τ s).bind fun xs => M.opt (op xs)
theorem RKs.ints1 {k : Kd} {K : PySem.W.Frag} {H0 : Hp} {vs : List V} {i : Int} (h : RKs k K g H0 H vs [.int i]) : vs = [.int i] := by
  cases h with
  | cons h r => cases r; rw [h.int]
theorem RKs.ints2 {k : Kd} {K : PySem.W.Frag} {H0 : Hp} {vs : List V} {i j : Int} (h : RKs k K g H0 H vs [.int i, .int j]) : vs = [.int i, .int j] := by
  cases h with
  | cons h r =>
    cases r with
    | cons h' r => cases r; rw [h.int, h'.int]
theorem di_range1 {tg a : Expr} {f : AD} {p pos : Pos} (ha : DA .b c [a] f) (hm : c.X.mg "range" = none) (hg : Gl c.X "range" := by rfl) (hs : starEach [a] c.X.env = [(false, eval a c.X.env)] := by rfl) : DI c tg (.Call (.Name "range" p) [a] [] pos) (iN range1D f) := by
  obtain ⟨t, pt, qt⟩ := ha
  refine ⟨iRng1 t, pi_range1 hg hm pt hs, fun g H s σ τ R o h => qt g H s σ τ _ o (Pg.seq h fun xs s1 g1 H1 er e1 w1 h1 vs rs => ?_)⟩
  clear er
  obtain ⟨b, eb, k⟩ := h1.opt
  unfold range1D at eb
  split at eb
  · rename_i j
    split at eb
    · rename_i hz
      cases eb
      have hz := Bool.and_eq_true_iff.mp hz
      exact ⟨j, rs.ints1, of_decide_eq_true hz.1, of_decide_eq_true hz.2, k g1 H1 (Ext.refl _ _) w1 _ (gives_range 0 j.toNat)⟩
    · cases eb
  · cases eb
theorem di_range2 {tg a b : Expr} {f : AD} {p pos : Pos} (ha : DA .b c [a, b] f) (hm : c.X.mg "range" = none) (hg : Gl c.X "range" := by rfl) (hs : starEach [a, b] c.X.env = [(false, eval a c.X.env), (false, eval b c.X.env)] := by rfl) (hs2 : starEach [b] c.X.env = [(false, eval b c.X.env)] := by rfl) :
    DI c tg (.Call (.Name "range" p) [a, b] [] pos) (iN range2D f) := by
  obtain ⟨t, pt, qt⟩ := ha
  refine ⟨iRng2 t, pi_range2 hg hm pt hs hs2, fun g H s σ τ R o h => qt g H s σ τ _ o (Pg.seq h fun xs s1 g1 H1 er e1 w1 h1 vs rs => ?_)⟩
  clear er
  obtain ⟨b, eb, k⟩ := h1.opt
  unfold range2D at eb
  split at eb
  · rename_i i j
    split at eb
    · rename_i hz
      cases eb
      have hz := Bool.and_eq_true_iff.mp hz
      have h1 := Bool.and_eq_true_iff.mp hz.1
      have h2 := Bool.and_eq_true_iff.mp hz.2
      exact ⟨i, j, rs.ints2, ⟨of_decide_eq_true h1.1, of_decide_eq_true h1.2, of_decide_eq_true h2.1, of_decide_eq_true h2.2⟩, k g1 H1 (Ext.refl _ _) w1 _ (gives_range i (j - i).toNat)⟩
    · cases eb
  · cases eb
/-! ### for -/
def forGo (tg : D → Ev → Option Ev) (b : SD) : List D → SD
  | [], τ => M.ret (.nx τ)
  | d :: ds, τ => match tg d τ with
    | none => fun _ => .no
    | some τ1 => fun s => (b τ1 s).bind fun fl => match fl with
      | .nx τ2 => forGo tg b ds τ2
      | .ct τ2 => forGo tg b ds τ2
      | .bk τ2 => M.ret (.nx τ2)
      | .rt d => M.ret (.rt d)
def sFor (it : AD) (tg : D → Ev → Option Ev) (b : SD) : SD := fun τ s => (it τ s).bind fun ds => forGo tg b ds τ
theorem ds_for {tg iter : Expr} {body : List Stmt} {fi : AD} {ws : List Nat} {fg : D → Ev → Option Ev} {fb : SD} {pos : Pos} (hp : PassesOwn (model c.X.prog c.X.w) c.X.A c.X.env c.X.xe) (hi : DI c tg iter fi) (hg : DG c tg ws fg) (hb : DSs c body fb) (hO : ws.all (fun i => !c.O i) = true := by rfl)
    (hc : c.X.calm = true := by rfl) (hs : ∀ x, foldedSetIterable iter c.X.env x = pure x := by intro _; rfl) : DS c (.For tg iter body [] pos) (sFor fi fg fb) := by
  obtain ⟨wi, pi, qi⟩ := hi
  obtain ⟨tt, pg, qg⟩ := hg
  obtain ⟨u, p', q'⟩ := hb
  have hO : ∀ i ∈ ws, c.O i = false := fun i hi => by
    have := List.all_eq_true.mp hO i hi
    simpa using this
  refine ⟨tFor wi tt u, ps_for hp hc pi pg p' hs, fun g0 H0 g H s σ τ Dn o h => qi g H s σ τ _ o.ok (Ps.seq o h fun ds s1 g1 H1 _ e1 w1 o1 h1 => fun J hJ => ?_)⟩
  refine ⟨fun i m σ H => m = ds.length - i ∧ i ≤ ds.length ∧ ∃ g s τ, Le g1 g ∧ SOk c g0 H0 g H s σ τ ∧ Ps c g0 H0 g Dn (forGo fg fb (ds.drop i) τ s), ⟨ds.length, rfl, Nat.zero_le _, g1, s1, τ, Le.refl _, o1, h1⟩, ?_⟩
  rintro i m σ2 H2 ⟨rfl, hi, g2, s2, τ2, l2, o2, h2⟩
  by_cases hlt : i < ds.length
  · rw [List.drop_eq_getElem_cons hlt] at h2
    unfold forGo at h2
    obtain ⟨hgo, hy⟩ := hJ.go i ds[i] (List.getElem?_eq_getElem hlt) g2 H2 s2 l2 o2.ok.wf
    refine .inr ⟨hgo, fun σ' H' => ∃ g s τ, Le g1 g ∧ SOk c g0 H0 g H' s σ' τ ∧ Ps c g0 H0 g Dn (forGo fg fb (ds.drop (i + 1)) τ s), fun σ' H' hh => ⟨ds.length - (i + 1), by omega, rfl, hlt, hh⟩, fun x H' hx => ?_⟩
    obtain ⟨g3, e3, w3, r3⟩ := hy x H' hx
    have o3 := o2.ext' e3 w3
    cases z : fg ds[i] τ2 with
    | none => rw [z] at h2; exact h2.elim
    | some τ3 =>
      rw [z] at h2
      refine qg g3 H' s2 σ2 τ2 x ds[i] τ3 _ w3 r3 z fun σ3 a => q' g0 H0 g3 H' s2 σ3 τ3 _ (o3.wr hO a) ?_
      have h2 : Ps c g0 H0 g2 Dn ((fb τ3 s2).bind fun fl => match fl with
        | .nx τ2 => forGo fg fb (ds.drop (i + 1)) τ2
        | .ct τ2 => forGo fg fb (ds.drop (i + 1)) τ2
        | .bk τ2 => M.ret (.nx τ2)
        | .rt d => M.ret (.rt d)) := h2
      cases r : fb τ3 s2 with
      | ok fl s4 =>
        rw [r] at h2
        cases fl with
        | nx τ4 => exact fun g4 H4 σ4 l4 o4 => ⟨g4, s4, τ4, (l2.trans e3.le).trans l4, o4, Ps.mono (e3.le.trans l4) h2⟩
        | ct τ4 => exact fun g4 H4 σ4 l4 o4 => ⟨g4, s4, τ4, (l2.trans e3.le).trans l4, o4, Ps.mono (e3.le.trans l4) h2⟩
        | bk τ4 => exact fun g4 H4 σ4 l4 o4 => h2 g4 H4 σ4 (e3.le.trans l4) o4
        | rt d => exact h2
      | exc cl s4 => rw [r] at h2; exact h2
      | no => rw [r] at h2; exact h2
  · have e : i = ds.length := by omega
    subst e
    rw [List.drop_length] at h2
    exact .inl ⟨hJ.stop g2 H2 s2 l2 o2.ok.wf, h2 g2 H2 σ2 (Le.refl _) o2⟩
/-! ### stores into one's own list -/
def sApp (i : Nat) (f : ED) : SD := fun τ => match τ[i]? with
  | some (some (.lst xs)) => fun s => (f τ s).bind fun d => if small (xs.length + 1) then M.ret (.nx (τ.set i (some (.lst (xs ++ [d]))))) else fun _ => .no
  | _ => fun _ => .no
theorem slotL {τ : Ev} {i : Nat} {F : List D → M Fl} {s : Sto} {P : R Fl → Prop} (hno : ¬ P .no) (h : P ((match τ[i]? with
  | some (some (.lst xs)) => F xs
  | _ => fun _ => .no) s)) : ∃ xs, τ[i]? = some (some (.lst xs)) ∧ P (F xs s) := by
  cases q : τ[i]? with
  | none => rw [q] at h; exact absurd h hno
  | some od =>
    cases od with
    | none => rw [q] at h; exact absurd h hno
    | some d =>
      cases d with
      | lst xs => rw [q] at h; exact ⟨xs, rfl, h⟩
      | _ => rw [q] at h; exact absurd h hno
theorem small_lt {n : Nat} (h : small (n + 1) = true) : n < sizeLine := small_line h
theorem SOk.ownL (o : SOk c g0 H0 g H s σ τ) {i : Nat} {ds : List D} (hO : c.O i = true) (h : τ[i]? = some (some (.lst ds))) : ∃ p xs, σ[i]? = some (some (.ref p)) ∧ H p = some (.lst xs) ∧ Reps c.X.K g xs ds ∧ g.G p = none ∧ ∀ n, g.r n ≠ some p := by
  obtain ⟨v, h1, h2⟩ := o.ok.sl.at_ i _ h
  rw [hO, if_pos rfl] at h2
  cases h2 with
  | lst a1 a2 a3 a4 => exact ⟨_, _, h1, a3, a4, a1, a2⟩
theorem ds_app {i : Nat} {x : Str} {e : Expr} {f : ED} {p pos apos cpos : Pos} (he : DE .z c e f) (hO : c.O i = true := by rfl) (hN : c.X.N[i]? = some x := by rfl) (hv : Vis c.X.env.scope x := by first | exact Or.inl rfl | exact Or.inr (Or.inl rfl) | exact Or.inr (Or.inr rfl)) (hd : (x == ("__debug__" : Str)) = false := by decide)
    (hcd : (x == ("__classdict__" : Str)) = false := by decide) (hs : starEach [e] c.X.env = (false, eval e c.X.env) :: starEach [] c.X.env := by rfl)
    (hsw : swapsWith (.Call (.Attribute (.Name x p) "append" apos) [e] [] cpos) none pos.line c.X.env = pure false := by rfl) 
    (hbase : attributeBase (.Name x p) "append" c.X.env (eval (.Name x p) c.X.env) = eval (.Name x p) c.X.env := by rfl)
    (hfew : ((backTo cpos (starEach [e] c.X.env)).all (fun x => !x.1) && (backToKw cpos (keywordEach [] c.X.env)).all (fun x => x.1.isSome)
      && decide ([e].length + ([] : List Keyword).length + (if ([] : List Keyword).isEmpty then 0 else 1) < 30)) = true := by rfl)
    (hline : (apos.endLine == cpos.line) = true := by rfl) (hplain : (backTo cpos (starEach [] c.X.env)).any (·.1) = false := by rfl) :
    DS c (.Expr (.Call (.Attribute (.Name x p) "append" apos) [e] [] cpos) pos) (sApp i f) := by
  obtain ⟨t, pt, qt⟩ := he
  refine ⟨_, ps_expr (pe_bm PySem.F.plainAttrs_list PySem.F.slot_list_append PySem.F.type_list_append mt_append (pe_var (i := i) hN hv hd hcd) (pa_cons pt pa_nil hs) hbase hfew hline hs hplain) hsw, fun g0 H0 g H s σ τ Dn o h => ?_⟩
  obtain ⟨ds, z, h⟩ := slotL (P := Ps c g0 H0 g Dn) (fun z => z) h
  obtain ⟨p, xs, h1, h2, h3, h4, h5⟩ := o.ownL hO z
  refine ⟨.ref p, h1, .inl ⟨rfl, xs, SqL.of h2⟩, qt g H s σ τ _ o.ok (Ps.seq o h fun d s1 g1 H1 _ e1 w1 o1 h6 v rv => ?_)⟩
  by_cases hz : small (ds.length + 1) = true
  · rw [if_pos hz] at h6
    have k2 : H1 p = some (.lst xs) := e1.keep p _ h2 h5 (fun ps => by simp)
    refine ⟨p, xs, v, rfl, rfl, k2, small_lt (by rw [h3.length]; exact hz), ?_⟩
    have ne : H p ≠ none := by rw [h2]; simp
    refine h6 g1 _ σ (Le.refl _) (o1.mut i hO z h1 k2 (.inl ⟨xs, rfl⟩) (.lst ((e1.newG p ne).trans h4) (fun n q => ?_) upd_same ((h3.mono e1.le).append (.cons rv .nil))))
    rcases e1.newR n p q with z | z
    · exact h5 n z
    · exact ne z
  · rw [if_neg hz] at h6
    exact h6.elim
/-- x[j] = e -/
def sSetI (i : Nat) (ix : ED) (f : ED) : SD := fun τ s => (f τ s).bind fun d s => match τ[i]? with
  | some (some (.lst xs)) => (ix τ s).bind fun j => match j with
    | .int j => match ixN xs.length j with
      | some k => M.ret (.nx (τ.set i (some (.lst (xs.set k d)))))
      | none => fun _ => .no
    | _ => fun _ => .no
  | _ => .no
theorem ds_setI {i : Nat} {x : Str} {e ix : Expr} {f fx : ED} {p p' pos : Pos} (he : DE .z c e f) (hx : DE .b c ix fx) (hO : c.O i = true := by rfl) (hN : c.X.N[i]? = some x := by rfl) (hv : Vis c.X.env.scope x := by first | exact Or.inl rfl | exact Or.inr (Or.inl rfl) | exact Or.inr (Or.inr rfl)) (hd : (x == ("__debug__" : Str)) = false := by decide)
    (hcd : (x == ("__classdict__" : Str)) = false := by decide) (hs : swapsWithSole [.Subscript (.Name x p) ix p'] e pos.line c.X.env = pure false := by rfl) (hw : swappedStores [.Subscript (.Name x p) ix p'] e c.X.env = pure none := by rfl)
    (h1 : (assignEach [.Subscript (.Name x p) ix p'] c.X.env).map (·.2) = [assign (.Subscript (.Name x p) ix p') c.X.env] := by rfl)
    (ha : ∀ v, assign (.Subscript (.Name x p) ix p') c.X.env v = (do
      let ov ← holding [v] (eval (.Name x p) c.X.env)
      let iv ← holding [v, ov] (eval ix c.X.env)
      standAt p'
      holding [v, ov, iv] (setItem ov iv v)
      release [v, ov, iv] []) := by intro _; rfl) :
    DS c (.Assign [.Subscript (.Name x p) ix p'] e pos) (sSetI i fx f) := by
  obtain ⟨t, pt, qt⟩ := he
  obtain ⟨u, pu, qu⟩ := hx
  refine ⟨_, ps_asg pt (pg_sub (pe_var (i := i) hN hv hd hcd) pu set_list ha) hs hw h1, fun g0 H0 g H s σ τ Dn o h => qt g H s σ τ _ o.ok (Ps.seq o h fun d s1 g1 H1 _ e1 w1 o1 h6 v rv => ?_)⟩
  split at h6
  · rename_i ds z
    obtain ⟨p, xs, h1, h2, h3, h4, h5⟩ := o1.ownL hO z
    refine ⟨.ref p, h1, qu g1 H1 s1 σ τ _ o1.ok (Ps.seq o1 h6 fun j s2 g2 H2 _ e2 w2 o2 h7 y ry => ?_)⟩
    cases j with
    | int j =>
      have h7 : Ps c g0 H0 g2 Dn ((match ixN ds.length j with
        | some k => M.ret (Fl.nx (τ.set i (some (.lst (ds.set k d)))))
        | none => fun _ => .no) s2) := h7
      cases q : ixN ds.length j with
      | none => rw [q] at h7; exact h7.elim
      | some k =>
        rw [q] at h7
        have k2 : H2 p = some (.lst xs) := e2.keep p _ h2 h5 (fun ps => by simp)
        refine ⟨p, xs, j, k, rfl, ry.int, k2, by rw [h3.length]; exact q, ?_⟩
        have ne : H1 p ≠ none := by rw [h2]; simp
        refine h7 g2 _ σ (Le.refl _) (o2.mut i hO z h1 k2 (.inl ⟨xs, rfl⟩) (.lst ((e2.newG p ne).trans h4) (fun n q => ?_) upd_same (Reps.set (rv.mono e2.le) k (h3.mono e2.le))))
        rcases e2.newR n p q with z | z
        · exact h5 n z
        · exact ne z
    | _ => exact h7.elim
  · exact h6.elim
/-! ### defs -/
def fnM (np nN : Nat) (b : SD) : FD := fun ds s => if ds.length = np then (b (ds.map some ++ List.replicate (nN - np) none) s).bind fun fl => match fl with
  | .nx _ => M.ret .non
  | .rt d => M.ret d
  | _ => fun _ => .no
  else .no
end
section
variable {P : Program} {w : World} {K : PySem.W.Frag} {mg : Str → Option Value} {base : Heap} {T : List (Addr × Str)} {x qual : Str} {params : Arguments} {body : List Stmt} {scope : Scope} {f : Addr} {fd : FuncData}
abbrev cxD (P : Program) (w : World) (K : PySem.W.Frag) (mg : Str → Option Value) (base : Heap) (T : List (Addr × Str)) (N : List Str) (qual : Str) (scope : Scope) (f : Addr) (cdv : Value) (A : Around) (outer : List Env) (s : Shared) (H : Hp) (E : XK) (O : Nat → Bool) : Ctx :=
  ⟨cxOf (L2N.CX P w) P w K mg base N qual scope f cdv A outer s H E, T, E, O⟩
theorem fn_mk {kws : List (Str × V)} {N ps : List Str} {k : Nat} {b : SD} (O : Nat → Bool) (F : FunD K x qual params body scope [] kws f fd) (S : FnScope N ps scope)
    (hbody : ∀ (cdv : Value) (A : Around) (outer : List Env) (s : Shared) (H : Hp) (E : XK), Room k (A.deeper (envOfC qual scope s.heap.objs.size f cdv)) →
      Passes (L2N.CX P w) (cxD P w K mg base T N qual scope f cdv A outer s H E O).X E → (L2N.Takes (cxD P w K mg base T N qual scope f cdv A outer s H E O).X fun cls d _ H => E cls d H) → PassesOwn (model P w) (cxD P w K mg base T N qual scope f cdv A outer s H E O).X.A (cxD P w K mg base T N qual scope f cdv A outer s H E O).X.env (cxD P w K mg base T N qual scope f cdv A outer s H E O).X.xe →
      DSs (cxD P w K mg base T N qual scope f cdv A outer s H E O) body b) (hO : (List.range ps.length).all (fun i => !O i) = true := by rfl) : FnOk P w K mg base (L2N.CX P w) (k + 1) f fd ps (spOf K T (fnM ps.length N.length b)) := by
  refine F.ok S (fun vs H Q E h => ?_) fun cdv A outer s H vs Q E hr h => ?_
  · obtain ⟨g, st, ds, w1, r, h⟩ := h
    rw [r.length]
    unfold fnM at h
    by_cases q : ds.length = ps.length
    · exact q
    · rw [if_neg q] at h; exact h.elim
  · have tk := L2N.takes_of (X := cxOf (L2N.CX P w) P w K mg base N qual scope f cdv A outer s H E) (E := E) rfl rfl rfl rfl
    obtain ⟨t, p, q⟩ := hbody cdv A outer s H E hr (L2N.passes_call tk fun _ _ _ _ h => h) tk (passes_of (X := cxOf (L2N.CX P w) P w K mg base N qual scope f cdv A outer s H E) rfl)
    refine ⟨t, p, ?_⟩
    obtain ⟨g, st, ds, w1, r, h⟩ := h
    unfold fnM at h
    by_cases hl : ds.length = ps.length
    · rw [if_pos hl] at h
      have lv := r.length
      have hO : ∀ i, i < ps.length → O i = false := fun i hi => by
        have := List.all_eq_true.mp hO i (List.mem_range.mpr hi)
        simpa using this
      have atS : ∀ i d, (ds.map some ++ List.replicate (N.length - ps.length) none)[i]? = some (some d) → i < ps.length ∧ ∃ v, (L2.start N vs)[i]? = some (some v) ∧ Rep K g v d := fun i d e => by
        by_cases hi : i < ds.length
        · rw [List.getElem?_append_left (by rw [List.length_map]; exact hi), List.getElem?_map] at e
          cases z : ds[i]? with
          | none => rw [z] at e; cases e
          | some d' =>
            rw [z] at e
            cases e
            obtain ⟨v, h1, h2⟩ := r.get z
            refine ⟨by omega, v, ?_, h2⟩
            unfold L2.start
            rw [List.getElem?_append_left (by rw [List.length_map]; omega), List.getElem?_map, h1]
            rfl
        · rw [List.getElem?_append_right (by rw [List.length_map]; omega)] at e
          rw [List.getElem?_replicate] at e
          split at e <;> cases e
      have o : SOk (cxD P w K mg base T N qual scope f cdv A outer s H E O) g H g H st (L2.start N vs) (ds.map some ++ List.replicate (N.length - ps.length) none) := by
        refine ⟨⟨w1, ⟨?_, fun i d e => ?_, fun i j p hi hj hij e1 e2 => ?_⟩⟩, Ext.refl _ _, fun i p d hi e1 e2 => ?_⟩
        · unfold L2.start
          rw [List.length_append, List.length_append, List.length_map, List.length_map, List.length_replicate, List.length_replicate, lv, hl]
        · obtain ⟨hi, v, h1, h2⟩ := atS i d e
          refine ⟨v, h1, ?_⟩
          show if O i = true then _ else _
          rw [hO i hi, if_neg Bool.false_ne_true]
          exact h2
        · have hi' : O i = true := hi
          by_cases hlt : i < ps.length
          · rw [hO i hlt] at hi'; cases hi'
          · unfold L2.start at e1
            rw [List.getElem?_append_right (by rw [List.length_map]; omega), List.getElem?_replicate] at e1
            split at e1 <;> cases e1
        · obtain ⟨hlt, _⟩ := atS i d e1
          have hi' : O i = true := hi
          rw [hO i hlt] at hi'; cases hi'
      refine q g H g H st (L2.start N vs) _ _ o ?_
      cases z : b (ds.map some ++ List.replicate (N.length - ps.length) none) st with
      | ok fl s1 =>
        rw [z] at h
        cases fl with
        | nx τ1 => exact fun g' H' σ' l' o' => h .non g' H' o'.ext o'.ok.wf .non
        | bk τ1 => exact h.elim
        | ct τ1 => exact h.elim
        | rt d => exact fun g' H' v e' w' r' => h v g' H' e' w' r'
      | exc cl s1 => rw [z] at h; exact h
      | no => rw [z] at h; exact h
    · rw [if_neg hl] at h; exact h.elim
end
end Mir

set_option Elab.async false
set_option linter.all false
set_option maxRecDepth 100000
set_option maxHeartbeats 4000000
/-! Mir, part E: list comprehensions. -/
namespace Mir
open PySem PySem.Spec PyProof.Rows L2
/-! ### readings that hang on a context's K, T, W, O alone -/
def PgK (K : PySem.W.Frag) (T : List (Addr × Str)) (W : XK) (g : Gh) (H : Hp) {β : Type} (C : β → Sto → Gh → Hp → Prop) : R β → Prop
  | .ok b s' => ∀ g' H', Ext g H g' H' → WF K T g' H' s' → C b s' g' H'
  | .exc cl s' => ∀ g' H', Ext g H g' H' → WF K T g' H' s' → W (clsV K cl) none H'
  | .no => False
theorem pgK {c : Ctx} {g : Gh} {H : Hp} {β : Type} {C : β → Sto → Gh → Hp → Prop} {r : R β} : Pg c g H C r ↔ PgK c.X.K c.T c.W g H C r := by
  cases r <;> exact Iff.rfl
def tEK (k : Kd) (K : PySem.W.Frag) (T : List (Addr × Str)) (W : XK) (O : Nat → Bool) (f : ED) : TE := fun σ H Q => ∃ g s τ, WF K T g H s ∧ Sl K g H O σ τ ∧ PgK K T W g H (fun d _ g' H' => ∀ v, RK k K g' H H' v d → Q v H') (f τ s)
def tTK (K : PySem.W.Frag) (T : List (Addr × Str)) (W : XK) (O : Nat → Bool) (f : TD) : TT := fun σ H Q => ∃ g s τ, WF K T g H s ∧ Sl K g H O σ τ ∧ PgK K T W g H (fun b _ _ H' => Q b H') (f τ s)
def tGK (K : PySem.W.Frag) (T : List (Addr × Str)) (ws : List Nat) (f : D → Ev → Option Ev) : TG := fun v σ H Q => ∃ g s τ d τ', WF K T g H s ∧ Rep K g v d ∧ f d τ = some τ' ∧ ∀ σ', Wr K g ws σ τ σ' τ' → Q σ' H
section
variable {c : Ctx}
theorem DE.can {k : Kd} {e : Expr} {f : ED} (h : DE k c e f) : PE c.X e (tEK k c.X.K c.T c.W c.O f) := by
  obtain ⟨t, p, q⟩ := h
  refine ⟨fun pins s σ H Q I ⟨g, st, τ, w, l, h⟩ => p.run pins s σ H Q I (q g H st σ τ Q ⟨w, l⟩ (pgK.mpr h))⟩
theorem DT.can {e : Expr} {f : TD} (h : DT c e f) : PT c.X e (tTK c.X.K c.T c.W c.O f) := by
  obtain ⟨t, p, q⟩ := h
  refine ⟨fun pins s σ H Q I ⟨g, st, τ, w, l, h⟩ => p.run pins s σ H Q I (q g H st σ τ Q ⟨w, l⟩ (pgK.mpr h))⟩
theorem DG.can {tg : Expr} {ws : List Nat} {f : D → Ev → Option Ev} (h : DG c tg ws f) : PG c.X tg (tGK c.X.K c.T ws f) := by
  obtain ⟨t, p, q⟩ := h
  refine ⟨fun pins s σ H v u Q I r ⟨g, st, τ, d, τ', w, rv, e, k⟩ => p.run pins s σ H v u Q I r (q g H st σ τ v d τ' Q w rv e k)⟩
end
/-! ### the slots of the block's own names -/
def wipeD (τ : Ev) : List Nat → Ev
  | [] => τ
  | v :: vs => (wipeD τ vs).set v none
theorem wipeD_length (τ : Ev) : ∀ vs, (wipeD τ vs).length = τ.length
  | [] => rfl
  | v :: vs => by unfold wipeD; rw [List.length_set, wipeD_length τ vs]
theorem wipe_at (σ : St) (i : Nat) : ∀ vs, i ∉ vs → (wipe σ vs)[i]? = σ[i]?
  | [], _ => rfl
  | v :: vs, h => by
    unfold wipe
    rw [List.getElem?_set_ne (fun z => h (by rw [z]; exact List.mem_cons_self)), wipe_at σ i vs fun z => h (List.mem_cons_of_mem _ z)]
theorem wipeD_at (τ : Ev) (i : Nat) : ∀ vs, i ∉ vs → (wipeD τ vs)[i]? = τ[i]?
  | [], _ => rfl
  | v :: vs, h => by
    unfold wipeD
    rw [List.getElem?_set_ne (fun z => h (by rw [z]; exact List.mem_cons_self)), wipeD_at τ i vs fun z => h (List.mem_cons_of_mem _ z)]
theorem wipe_in (σ : St) (i : Nat) : ∀ vs, i ∈ vs → i < σ.length → (wipe σ vs)[i]? = some none
  | v :: vs, h, hl => by
    unfold wipe
    by_cases q : v = i
    · subst q
      rw [List.getElem?_set_self (by rw [wipe_length]; exact hl)]
    · rw [List.getElem?_set_ne q]
      refine wipe_in σ i vs ?_ hl
      rcases List.mem_cons.mp h with z | z
      · exact absurd z.symm q
      · exact z
theorem wipeD_in (τ : Ev) (i : Nat) : ∀ vs, i ∈ vs → i < τ.length → (wipeD τ vs)[i]? = some none
  | v :: vs, h, hl => by
    unfold wipeD
    by_cases q : v = i
    · subst q
      rw [List.getElem?_set_self (by rw [wipeD_length]; exact hl)]
    · rw [List.getElem?_set_ne q]
      refine wipeD_in τ i vs ?_ hl
      rcases List.mem_cons.mp h with z | z
      · exact absurd z.symm q
      · exact z
theorem wipe_eq {σ σ2 : St} {vs : List Nat} (hl : σ2.length = σ.length) (h : ∀ i, i ∉ vs → σ2[i]? = σ[i]?) : wipe σ2 vs = wipe σ vs := by
  refine List.ext_getElem? fun i => ?_
  by_cases hi : i < σ.length
  · by_cases hv : i ∈ vs
    · rw [wipe_in σ2 i vs hv (by omega), wipe_in σ i vs hv hi]
    · rw [wipe_at σ2 i vs hv, wipe_at σ i vs hv, h i hv]
  · rw [List.getElem?_eq_none (by rw [wipe_length]; omega), List.getElem?_eq_none (by rw [wipe_length]; omega)]
theorem Wr.keep {K : PySem.W.Frag} {g : Gh} {ws : List Nat} {σ σ' : St} {τ τ' : Ev} (a : Wr K g ws σ τ σ' τ') : σ'.length = σ.length ∧ ∀ i, i ∉ ws → σ'[i]? = σ[i]? := by
  induction a with
  | nil => exact ⟨rfl, fun _ _ => rfl⟩
  | set hi r _ ih =>
    refine ⟨ih.1.trans (List.length_set ..), fun i hn => ?_⟩
    rw [ih.2 i hn, List.getElem?_set_ne (fun z => hn (by rw [← z]; exact hi))]
theorem Sl.wipe {K : PySem.W.Frag} {g : Gh} {H : Hp} {O : Nat → Bool} {σ : St} {τ : Ev} (h : Sl K g H O σ τ) (vs : List Nat) : Sl K g H O (wipe σ vs) (wipeD τ vs) := by
  refine ⟨by rw [wipe_length, wipeD_length]; exact h.len, fun i d hd => ?_, fun i j p hi hj hij e1 e2 => ?_⟩
  · by_cases q : i ∈ vs
    · have hl : i < τ.length := by
        have := (List.getElem?_eq_some_iff.mp hd).1
        rwa [wipeD_length] at this
      rw [wipeD_in τ i vs q hl] at hd
      cases hd
    · rw [wipeD_at τ i vs q] at hd
      obtain ⟨v, h1, h2⟩ := h.at_ i d hd
      exact ⟨v, by rw [wipe_at σ i vs q]; exact h1, h2⟩
  · have n1 : i ∉ vs := fun z => by
      have hl := (List.getElem?_eq_some_iff.mp e1).1
      rw [wipe_length] at hl
      rw [wipe_in σ i vs z hl] at e1; cases e1
    have n2 : j ∉ vs := fun z => by
      have hl := (List.getElem?_eq_some_iff.mp e2).1
      rw [wipe_length] at hl
      rw [wipe_in σ j vs z hl] at e2; cases e2
    rw [wipe_at σ i vs n1] at e1
    rw [wipe_at σ j vs n2] at e2
    rw [wipeD_at τ i vs n1, wipeD_at τ j vs n2]
    exact h.ne i j p hi hj hij e1 e2
theorem Sl.set {K : PySem.W.Frag} {g : Gh} {H : Hp} {O : Nat → Bool} {σ : St} {τ : Ev} {v : V} {d : D} (o : Sl K g H O σ τ) (i : Nat) (hO : O i = false) (r : Rep K g v d) : Sl K g H O (σ.set i (some v)) (τ.set i (some d)) := by
  refine ⟨by rw [List.length_set, List.length_set]; exact o.len, fun j d' hd => ?_, fun j k p hj hk hjk e1 e2 => ?_⟩
  · by_cases q : i = j
    · subst q
      have hlt : i < τ.length := by
        have := (List.getElem?_eq_some_iff.mp hd).1
        rwa [List.length_set] at this
      rw [List.getElem?_set_self hlt] at hd
      cases hd
      refine ⟨v, List.getElem?_set_self (by rw [o.len]; exact hlt), ?_⟩
      rw [hO, if_neg Bool.false_ne_true]
      exact r
    · rw [List.getElem?_set_ne q] at hd
      obtain ⟨u, h1, h2⟩ := o.at_ j d' hd
      exact ⟨u, by rw [List.getElem?_set_ne q]; exact h1, h2⟩
  · have n1 : i ≠ j := fun z => by subst z; rw [hO] at hj; cases hj
    have n2 : i ≠ k := fun z => by subst z; rw [hO] at hk; cases hk
    rw [List.getElem?_set_ne n1] at e1
    rw [List.getElem?_set_ne n2] at e2
    rw [List.getElem?_set_ne n1, List.getElem?_set_ne n2]
    exact o.ne j k p hj hk hjk e1 e2
theorem Sl.wr {K : PySem.W.Frag} {g : Gh} {H : Hp} {O : Nat → Bool} {σ σ' : St} {τ τ' : Ev} {ws : List Nat} (o : Sl K g H O σ τ) (hO : ∀ i ∈ ws, O i = false) (a : Wr K g ws σ τ σ' τ') : Sl K g H O σ' τ' := by
  induction a with
  | nil => exact o
  | set hi r _ ih => exact ih (o.set _ (hO _ hi) r)
/-! ### the mirror -/
def lcGo (tg : D → Ev → Option Ev) (ts : TD) (el : ED) (τ : Ev) : List D → M (List D)
  | [] => M.ret []
  | d :: ds => match tg d τ with
    | none => fun _ => .no
    | some τ1 => fun s => (ts τ1 s).bind fun b => match b with
      | true => fun s => (el τ1 s).bind fun y s => (lcGo tg ts el τ ds s).bind fun ys => M.ret (y :: ys)
      | false => lcGo tg ts el τ ds
def tYesD : TD := fun _ => M.ret true
def eLc (it : AD) (tg : D → Ev → Option Ev) (ts : TD) (el : ED) (vs : List Nat) : ED := fun τ s => (it τ s).bind fun ds => if small ds.length then fun s => (lcGo tg ts el (wipeD τ vs) ds s).bind fun ys => M.ret (.lst ys) else fun _ => .no
/-- nothing is raised in it -/
def noX {α : Type} : R α → R α
  | .exc _ _ => .no
  | r => r
def eLc0 (it : AD) (tg : D → Ev → Option Ev) (ts : TD) (el : ED) (vs : List Nat) : ED := fun τ s => (it τ s).bind fun ds => if small ds.length then fun s => noX ((lcGo tg ts el (wipeD τ vs) ds s).bind fun ys => M.ret (.lst ys)) else fun _ => .no
theorem PgK.seq {K : PySem.W.Frag} {T : List (Addr × Str)} {W : XK} {g : Gh} {H : Hp} {α β : Type} {C : β → Sto → Gh → Hp → Prop} {C' : α → Sto → Gh → Hp → Prop} {r : R α} {f : α → M β} (h : PgK K T W g H C (r.bind f))
    (k : ∀ a s1 g1 H1, r = .ok a s1 → Ext g H g1 H1 → WF K T g1 H1 s1 → PgK K T W g1 H1 C (f a s1) → C' a s1 g1 H1) : PgK K T W g H C' r := by
  cases r with
  | ok a s1 =>
    intro g1 H1 e1 w1
    refine k a s1 g1 H1 rfl e1 w1 ?_
    have h : PgK K T W g H C (f a s1) := h
    cases q : f a s1 with
    | ok b s2 => rw [q] at h; exact fun g2 H2 e2 w2 => h g2 H2 (e1.trans e2) w2
    | exc cl s2 => rw [q] at h; exact fun g2 H2 e2 w2 => h g2 H2 (e1.trans e2) w2
    | no => rw [q] at h; exact h
  | exc cl s1 => exact h
  | no => exact h
theorem PgK.seqA {K : PySem.W.Frag} {T : List (Addr × Str)} {W : XK} {g g3 : Gh} {H H3 : Hp} {α β : Type} {C : β → Sto → Gh → Hp → Prop} {C' : α → Sto → Gh → Hp → Prop} {r : R α} {f : α → M β} (e : Ext g H g3 H3) (h : PgK K T W g H C (r.bind f))
    (k : ∀ a s1 g1 H1, r = .ok a s1 → Ext g3 H3 g1 H1 → WF K T g1 H1 s1 → PgK K T W g H C (f a s1) → C' a s1 g1 H1) : PgK K T W g3 H3 C' r := by
  cases r with
  | ok a s1 => exact fun g1 H1 e1 w1 => k a s1 g1 H1 rfl e1 w1 h
  | exc cl s1 => exact fun g1 H1 e1 w1 => h g1 H1 (e.trans e1) w1
  | no => exact h
theorem PgK.mono {K : PySem.W.Frag} {T : List (Addr × Str)} {W : XK} {g g1 : Gh} {H H1 : Hp} {β : Type} {C : β → Sto → Gh → Hp → Prop} {r : R β} (e : Ext g H g1 H1) (h : PgK K T W g H C r) : PgK K T W g1 H1 C r := by
  cases r with
  | ok a s1 => exact fun g2 H2 e2 w2 => h g2 H2 (e.trans e2) w2
  | exc cl s1 => exact fun g2 H2 e2 w2 => h g2 H2 (e.trans e2) w2
  | no => exact h
/-- a state of the block: the new list stands at D -/
structure LcOk (K : PySem.W.Frag) (T : List (Addr × Str)) (g1 : Gh) (H1 : Hp) (D : Addr) (i : Nat) (g : Gh) (H : Hp) (s : Sto) (acc : List Mir.D) : Prop where
  ext : Ext g1 H1 g H
  wf : WF K T g H s
  gD : g.G D = none
  rD : ∀ n, g.r n ≠ some D
  at_ : ∃ xs, H D = some (.lst xs) ∧ Reps K g xs acc ∧ xs.length ≤ i
theorem LcOk.step {K : PySem.W.Frag} {T : List (Addr × Str)} {g1 g g' : Gh} {H1 H H' : Hp} {D : Addr} {i : Nat} {s s' : Sto} {acc : List Mir.D} (o : LcOk K T g1 H1 D i g H s acc) (e : Ext g H g' H') (w : WF K T g' H' s') : LcOk K T g1 H1 D i g' H' s' acc := by
  obtain ⟨xs, h1, h2, h3⟩ := o.at_
  have ne : H D ≠ none := by rw [h1]; simp
  refine ⟨o.ext.trans e, w, (e.newG D ne).trans o.gD, fun n q => ?_, xs, e.keep D _ h1 o.rD (fun ps => by simp), h2.mono e.le, h3⟩
  rcases e.newR n D q with z | z
  · exact o.rD n z
  · exact ne z
theorem lc_run {K : PySem.W.Frag} {T : List (Addr × Str)} {W : XK} {O : Nat → Bool} {g g1 : Gh} {H H1 : Hp} {s1 : Sto} {J : It} {ds : List D} {ws vs : List Nat} {fg : D → Ev → Option Ev} {ft : TD} {fe : ED} {σ : St} {τ : Ev} {Q : VK} {c : Ctx} (hcK : c.X.K = K) (hcT : c.T = T)
    (hws : ∀ i ∈ ws, i ∈ vs ∧ O i = false) (sl : Sl K g1 H1 O σ τ) (w1 : WF K T g1 H1 s1) (e1 : Ext g H g1 H1) (hJ : GivesX c g1 H1 J ds) (hz : small ds.length = true)
    (h : PgK K T W g1 H1 (fun d _ g' H' => ∀ v, RK .o K g' H H' v d → Q v H') ((lcGo fg ft fe (wipeD τ vs) ds s1).bind fun ys => M.ret (.lst ys))) (Dl : Addr) (hD : H1 Dl = none) :
    ∃ Wv : Nat → Nat → Hp → Prop, (∃ m, Wv 0 m (upd H1 Dl (.lst []))) ∧ ∀ i m H, Wv i m H →
      (J.stop i H ∧ Q (.ref Dl) H) ∨ (J.go i H ∧ ∃ Nx : Hp → Prop, (∀ H', Nx H' → ∃ m', m' < m ∧ Wv (i + 1) m' H') ∧ ∀ x H', J.yld i H x H' → tGK K T ws fg x (wipe σ vs) H' fun σ2 H2 => wipe σ2 vs = wipe σ vs ∧ tTK K T W O ft σ2 H2 fun b H3 =>
        if b = true then tEK .z K T W O fe σ2 H3 fun y H4 => ∃ acc, H4 Dl = some (.lst acc) ∧ acc.length < sizeLine ∧ Nx (upd H4 Dl (.lst (acc ++ [y]))) else Nx H3) := by
  subst hcK hcT
  have hz' : ds.length ≤ sizeLine := small_line hz
  have e4 : ∀ {α β γ : Type} (r : R α) (f : α → M β) (k : β → M γ), (r.bind f).bind k = r.bind fun a s => (f a s).bind k := fun r f k => by cases r <;> rfl
  refine ⟨fun i m H' => m = ds.length - i ∧ i ≤ ds.length ∧ ∃ g' s' acc, LcOk c.X.K c.T g1 H1 Dl i g' H' s' acc ∧ PgK c.X.K c.T W g1 H1 (fun d _ g'' H'' => ∀ v, RK .o c.X.K g'' H H'' v d → Q v H'') ((lcGo fg ft fe (wipeD τ vs) (ds.drop i) s').bind fun ys => M.ret (.lst (acc ++ ys))),
    ⟨ds.length, rfl, Nat.zero_le _, g1, s1, [], ⟨Ext.new hD, w1.new hD, w1.gne hD, fun n => w1.rne hD, [], upd_same, .nil, Nat.le_refl _⟩, h⟩, ?_⟩
  rintro i m H2 ⟨rfl, hi, g2, s2, acc, o2, h2⟩
  by_cases hlt : i < ds.length
  · rw [List.drop_eq_getElem_cons hlt] at h2
    unfold lcGo at h2
    obtain ⟨hgo, hy⟩ := hJ.go i ds[i] (List.getElem?_eq_getElem hlt) g2 H2 s2 o2.ext o2.wf
    refine .inr ⟨hgo, fun H' => ∃ g' s' acc, LcOk c.X.K c.T g1 H1 Dl (i + 1) g' H' s' acc ∧ PgK c.X.K c.T W g1 H1 (fun d _ g'' H'' => ∀ v, RK .o c.X.K g'' H H'' v d → Q v H'') ((lcGo fg ft fe (wipeD τ vs) (ds.drop (i + 1)) s').bind fun ys => M.ret (.lst (acc ++ ys))), fun H' hh => ⟨ds.length - (i + 1), by omega, rfl, hlt, hh⟩, fun x H' hx => ?_⟩
    obtain ⟨g3, e3, w3, r3⟩ := hy x H' hx
    have o3 := o2.step e3 w3
    cases z : fg ds[i] (wipeD τ vs) with
    | none => rw [z] at h2; exact h2.elim
    | some τ3 =>
      rw [z] at h2
      refine ⟨g3, s2, wipeD τ vs, ds[i], τ3, w3, r3, z, fun σ3 a => ?_⟩
      obtain ⟨k1, k2⟩ := a.keep
      refine ⟨?_, ?_⟩
      · refine wipe_eq (by rw [k1, wipe_length]) fun j hj => ?_
        rw [k2 j (fun q => hj (hws j q).1), wipe_at σ j vs hj]
      · have sl3 : Sl c.X.K g3 H' O σ3 τ3 := ((sl.ext o3.ext).wipe vs).wr (fun j hj => (hws j hj).2) a
        have h2 : PgK c.X.K c.T W g1 H1 _ (((ft τ3 s2).bind fun b => match b with
          | true => fun s => (fe τ3 s).bind fun y s => (lcGo fg ft fe (wipeD τ vs) (ds.drop (i + 1)) s).bind fun ys => M.ret (y :: ys)
          | false => lcGo fg ft fe (wipeD τ vs) (ds.drop (i + 1))).bind fun ys => M.ret (D.lst (acc ++ ys))) := h2
        rw [e4] at h2
        refine ⟨g3, s2, τ3, w3, sl3, PgK.seqA o3.ext h2 fun b s4 g4 H4 _ e4' w4 h4 => ?_⟩
        have o4 := o3.step e4' w4
        cases b with
        | false =>
          refine iteF ?_
          obtain ⟨xs, a1, a2, a3⟩ := o4.at_
          exact ⟨g4, s4, acc, ⟨o4.ext, o4.wf, o4.gD, o4.rD, xs, a1, a2, Nat.le_succ_of_le a3⟩, h4⟩
        | true =>
          refine iteT ?_
          have h4 : PgK c.X.K c.T W g1 H1 _ (((fe τ3 s4).bind fun y s => (lcGo fg ft fe (wipeD τ vs) (ds.drop (i + 1)) s).bind fun ys => M.ret (y :: ys)).bind fun ys => M.ret (D.lst (acc ++ ys))) := h4
          rw [e4] at h4
          refine ⟨g4, s4, τ3, w4, sl3.ext e4', PgK.seqA o4.ext h4 fun y s5 g5 H5 _ e5 w5 h5 v rv => ?_⟩
          have o5 := o4.step e5 w5
          obtain ⟨xs, a1, a2, a3⟩ := o5.at_
          refine ⟨xs, a1, by omega, g5, s5, acc ++ [y], ⟨o5.ext.mut hD, o5.wf.mut a1 (.inl ⟨xs, rfl⟩) o5.gD o5.rD, o5.gD, o5.rD, xs ++ [v], upd_same, a2.append (.cons rv .nil), by rw [List.length_append]; simp; omega⟩, ?_⟩
          rw [e4] at h5
          have e6 : (fun (a : List D) (s : Sto) => ((M.ret (y :: a) : M (List D)) s).bind fun ys => M.ret (D.lst (acc ++ ys))) = fun ys => M.ret (D.lst (acc ++ [y] ++ ys)) := funext fun a => funext fun s => by
            show R.ok (D.lst (acc ++ y :: a)) s = R.ok (D.lst (acc ++ [y] ++ a)) s
            rw [List.append_assoc]
            rfl
          rw [e6] at h5
          exact h5
  · have e : i = ds.length := by omega
    subst e
    rw [List.drop_length] at h2
    refine .inl ⟨hJ.stop g2 H2 s2 o2.ext o2.wf, ?_⟩
    obtain ⟨xs, a1, a2, a3⟩ := o2.at_
    have h2 : PgK c.X.K c.T W g1 H1 _ (R.ok (D.lst (acc ++ [])) s2) := h2
    rw [List.append_nil] at h2
    exact h2 g2 H2 o2.ext o2.wf (.ref Dl) (.inr ⟨.lst o2.gD o2.rD a1 a2, Dl, rfl, e1.fresh hD⟩)
/-! ### the rules -/
/-- the block's context -/
abbrev blkC (c : Ctx) (W : XK) (xe : Value → Shared → Prop) (s : Shared) (H : Hp) (scope : Scope) (C : Addr) (cl : List (Str × Addr)) (fp : List Addr) : Ctx := ⟨(c.X.blk s H scope (compEnvC scope cl C c.X.env) fp).wish xe, c.T, W, c.O⟩
abbrev W0 : XK := fun _ _ _ => False
section
variable {c : Ctx}
theorem noX_pg {g : Gh} {H : Hp} {β : Type} {C : β → Sto → Gh → Hp → Prop} {r : R β} (h : Pg c g H C (noX r)) : PgK c.X.K c.T W0 g H C r := by
  cases r with
  | ok a s => exact h
  | exc cl s => exact h.elim
  | no => exact h
theorem evs_lc0 {iter tg : Expr} {fi : AD} {ws vs : List Nat} {fg : D → Ev → Option Ev} {ft : TD} {fe : ED} {wi : TI} (qi : ∀ g H s σ τ R, Ok c g H s σ τ → Pg c g H (fun ds _ g' H' => ∀ J, GivesX c g' H' J ds → R J H') (fi τ s) → wi σ H R)
    (hws : ∀ i ∈ ws, i ∈ vs ∧ c.O i = false) : Evs .o c (tLc wi (tGK c.X.K c.T ws fg) (tTK c.X.K c.T W0 c.O ft) (tEK .z c.X.K c.T W0 c.O fe) vs) (eLc0 fi fg ft fe vs) := fun g H s σ τ Q o h =>
  qi g H s σ τ _ o (Pg.seq h fun ds s1 g1 H1 _ e1 w1 h1 J hJ Dl hD => by
    by_cases hz : small ds.length = true
    · rw [if_pos hz] at h1
      exact lc_run (c := c) rfl rfl hws (o.sl.ext e1) w1 e1 hJ hz (noX_pg h1) Dl hD
    · rw [if_neg hz] at h1
      exact h1.elim)
/-- a comprehension, as a value and as what a name is set to -/
def DLc (c : Ctx) (e : Expr) (f : ED) : Prop := ∃ t : TE, PE c.X e t ∧ Evs .o c t f ∧ ∀ (i : Nat) (y : Str) (py spos : Pos), c.X.N.Nodup → c.X.N[i]? = some y → c.X.env.scope.names.lookup y = some .local → swapsWith e (some (.Name y py)) spos.line c.X.env = pure true → PS c.X (.Assign [.Name y py] e spos) (tAsg t (gName i))
theorem DLc.de {e : Expr} {f : ED} (h : DLc c e f) : DE .o c e f := by
  obtain ⟨t, p, q, _⟩ := h
  exact ⟨t, p, q⟩
theorem dlc_0 {elt tg iter : Expr} {ifs : List Expr} {scope : Scope} {pos : Pos} {fi : AD} {ws : List Nat} {fg : D → Ev → Option Ev} {ft : TD} {fe : ED} (own : List (Str × Nat)) (hN : c.X.N.Nodup) (hi : DIx c tg iter fi)
    (hg : ∀ s H C cl fp, DG (blkC c W0 (fun _ _ => False) s H scope C cl fp) tg ws fg)
    (ht : ∀ s H C cl fp, PTs (blkC c W0 (fun _ _ => False) s H scope C cl fp).X ifs (tTK c.X.K c.T W0 c.O ft))
    (he : ∀ s H C cl fp, DE .z (blkC c W0 (fun _ _ => False) s H scope C cl fp) elt fe)
    (ok : L2.blkC c.X.N c.X.env.scope scope own = true := by kernel_rfl) (hws : (ws.all fun i => (own.map (·.2)).contains i && !c.O i) = true := by rfl) (hc : c.X.calm = true := by rfl) (hs : ∀ x, foldedSetIterable iter c.X.env x = pure x := by intro _; rfl) :
    DLc c (.ListComp elt [⟨tg, iter, ifs, 0⟩] scope pos) (eLc0 fi fg ft fe (own.map (·.2))) := by
  obtain ⟨wi, pi, qi⟩ := hi
  have hws' : ∀ i ∈ ws, i ∈ own.map (·.2) ∧ c.O i = false := fun i hi => by
    have := Bool.and_eq_true_iff.mp (List.all_eq_true.mp hws i hi)
    exact ⟨List.contains_iff_mem.mp this.1, by simpa using this.2⟩
  have bo := blkOk_by ok
  refine ⟨_, pe_lc hc hN pi bo (fun s H C cl fp => (hg s H C cl fp).can) (fun s H C cl fp => ht s H C cl fp) (fun s H C cl fp => (he s H C cl fp).can) hs, evs_lc0 (iter := iter) (tg := tg) qi hws', fun i y py spos hN hy hl hsw => ?_⟩
  exact ps_setLc hc hN hy hl hsw pi bo (fun s H C cl fp => (hg s H C cl fp).can) (fun s H C cl fp => ht s H C cl fp) (fun s H C cl fp => (he s H C cl fp).can) hs
theorem pts_no {K : PySem.W.Frag} {T : List (Addr × Str)} {W : XK} {O : Nat → Bool} {X : Cx} : PTs X [] (tTK K T W O tYesD) := ⟨fun pins s σ H Q I h => pts_nil.run pins s σ H Q I (by
  obtain ⟨g, st, τ, w, _, h⟩ := h
  exact h g H (Ext.refl _ _) w)⟩
theorem pts_if {e : Expr} {f : TD} (h : DT c e f) : PTs c.X [e] (tTK c.X.K c.T c.W c.O f) := pts_one h.can
/-- name = [..] -/
theorem ds_setLc {i : Nat} {y : Str} {py spos : Pos} {e : Expr} {f : ED} (hN : c.X.N.Nodup) (h : DLc c e f) (hsw : swapsWith e (some (.Name y py)) spos.line c.X.env = pure true) (hO : c.O i = false := by rfl) (hy : c.X.N[i]? = some y := by rfl) (hl : c.X.env.scope.names.lookup y = some .local := by rfl) : DS c (.Assign [.Name y py] e spos) (sSet i f) := by
  obtain ⟨t, p, q, r⟩ := h
  exact ⟨_, r i y py spos hN hy hl hsw, evs_set hO (evs_oz q)⟩
theorem ds_setLcO {i : Nat} {y : Str} {py spos : Pos} {e : Expr} {f : ED} (hN : c.X.N.Nodup) (h : DLc c e f) (hsw : swapsWith e (some (.Name y py)) spos.line c.X.env = pure true) (hO : c.O i = true := by rfl) (hy : c.X.N[i]? = some y := by rfl) (hl : c.X.env.scope.names.lookup y = some .local := by rfl) : DS c (.Assign [.Name y py] e spos) (sSetO i f) := by
  obtain ⟨t, p, q, r⟩ := h
  exact ⟨_, r i y py spos hN hy hl hsw, evs_setO hO q⟩
end
end Mir

set_option Elab.async false
set_option linter.all false
set_option maxRecDepth 100000
set_option maxHeartbeats 4000000
/-! Mir, part X: a list comprehension out of which a callee's exception may fly. -/
namespace Mir
open PySem PySem.Spec PyProof.Rows L2
/-- what is wished of an exception that a call within the block lets out -/
def xeB (X : Cx) (E : XK) (s : Shared) (H : Hp) (scope : Scope) (cl : List (Str × Addr)) (C : Addr) (fp : List Addr) : Value → Shared → Prop := fun u s' =>
  ∃ pins σ H1 s1, Inv (X.blk s H scope (compEnvC scope cl C X.env) fp) pins σ H1 s1 ∧ L2N.CX X.prog X.w X.stack H1 s1 E u s'
theorem passB {X : Cx} {E : XK} {s : Shared} {H : Hp} {scope : Scope} {cl : List (Str × Addr)} {C : Addr} {fp : List Addr} :
    Passes (L2N.CX X.prog X.w) ((X.blk s H scope (compEnvC scope cl C X.env) fp).wish (xeB X E s H scope cl C fp)) E := fun pins σ H1 s1 e s' I c => ⟨pins, σ, H1, s1, I.unwish, c⟩
theorem hide1_get {B : Heap} {C b : Addr} {o : Obj} (h : B.get? b = some o) (n : b ≠ C) : (PySem.W.hideAll B [C]).get? b = some o := PySem.W.hideAll_get _ h (by simpa using n)
theorem of_hide1 {B : Heap} {C b : Addr} {o : Obj} (h : (PySem.W.hideAll B [C]).get? b = some o) : B.get? b = some o ∧ b ≠ C := by
  refine ⟨PySem.W.of_hideAll _ h, fun q => ?_⟩
  rw [q, PySem.W.hideAll_none _ (by simp)] at h
  cases h
theorem comp_out {X : Cx} {E : XK} {pins : List (Addr × Obj)} {σ : St} {H3 : Hp} {s3 s' : Shared} {scope : Scope} {cl : List (Str × Addr)} {fp : List Addr} {u : Value} (hst : X.stack = X.env :: X.outer) (hfr : X.env.frame = some X.env.locals)
    (tk : L2N.Takes X fun cls d _ H => E cls d H) (I3 : Inv X pins σ H3 s3) (f3 : ∀ b ∈ fp, FpOk X pins H3 b ∧ b < s3.heap.objs.size) (x : xeB X E s3 H3 scope cl s3.heap.objs.size fp u s') :
    notedBy (model X.prog X.w) X.A (compEnvC scope cl s3.heap.objs.size X.env) (CompFails (model X.prog X.w) X.A X.xe (compEnvC scope cl s3.heap.objs.size X.env)) u s' := by
  generalize hC : s3.heap.objs.size = C at x ⊢
  obtain ⟨pB, σB, HB, sB, IB, a, B, H', cls, d, rfl, fl, hok, ub, na, os, ag, hE⟩ := x
  have hcf : (compEnvC scope cl C X.env).frame = X.env.frame := rfl
  have hA : X.A.frames = some (X.env :: X.outer) := by rw [I3.ok.frames, hst]
  have nC : C ∉ frs X.stack := fun hm => by
    obtain ⟨_, o, ho, _⟩ := I3.stack.mem hm
    have := Heap.lt_size ho
    rw [hC] at this
    exact Nat.lt_irrefl _ this
  obtain ⟨m, hn, _⟩ := IB.loc
  have hn : sB.heap.Ns C m := hn
  obtain ⟨oC, es, ep, hoC, hdC, rC⟩ := hn
  have hBC : HB C = none := IB.free
  have hCB : B.get? C = some oC := ub.keep C oC hoC hBC nC
  have hHC : H' C = none := ub.free C oC hoC hBC
  have fl' := fl
  rw [hst] at fl
  show wpAny _ _ (noteFrame (.ref a) (compEnvC scope cl C X.env)) _ _ s'
  rw [noteFrame_env _ hcf]
  refine PXN.looks_onZ L2N.Zn.steady hA hfr fl fun h1 held up => ?_
  obtain ⟨st1, bn, ff, oe, vs, T, oT, ts, he, hz, hd, h1T, hnT, hTe, hT, hdT, h3T⟩ := held
  have hC1 : h1.get? C = some oC := st1 C oC hCB
  have naC : a ≠ C := fun q => by
    rw [q, hC1] at he; cases he; rw [hdC] at hd; cases hd
  have nTC : T ≠ C := fun q => by
    rw [q, hC1] at hT; cases hT; rw [hdC] at hdT; cases hdT
  refine ⟨m, ⟨oC, es, ep, hC1, hdC, rC⟩, fun h2 m2 hn2 sb => ?_⟩
  have sb2 : ∀ b, b ≠ C → h2.get? b = h1.get? b := fun b hb => sb.2 b hb
  have st2 : (PySem.W.hideAll B [C]).StaysIn h2 := fun b o e => by
    obtain ⟨e1, e2⟩ := of_hide1 e
    rw [sb2 b e2]; exact st1 b o e1
  have ff2 : h2.FunFrames (PySem.W.hideAll B [C]) (X.env :: X.outer) := by
    have q : h2.FunFrames B (X.env :: X.outer) := by
      have key : ∀ l : List Env, (∀ b ∈ frs l, b ≠ C) → h1.FunFrames B l → h2.FunFrames B l := by
        intro l
        induction l with
        | nil => intro _ _; trivial
        | cons env r ih =>
          intro hs hl
          obtain ⟨hk, ⟨L, o, hf, hnn, ho, hdd⟩, hr⟩ := hl
          have hL : L ∈ frs (env :: r) := by unfold frs; rw [List.filterMap_cons, hf]; exact List.mem_cons_self
          refine ⟨hk, ⟨L, o, hf, hnn, by rw [sb2 L (hs L hL)]; exact ho, hdd⟩, ih (fun b hb => hs b ?_) hr⟩
          unfold frs
          rw [List.filterMap_cons, hf]
          exact List.mem_cons_of_mem _ hb
      refine key _ (fun b hb q => nC ?_) ff
      rw [hst, ← q]
      exact hb
    refine funFrames_none q fun L hL => ?_
    cases z : (PySem.W.hideAll B [C]).get? L with
    | none => rfl
    | some o =>
      obtain ⟨_, h'⟩ := q.mem hL
      have := (of_hide1 z).1
      obtain ⟨e0, _⟩ := q.mem hL
      rw [e0] at this; cases this
  have tr2 : HandSPX.TracedZ h2 (PySem.W.hideAll B [C]) a (L2N.Zn cls d) (rawInt X.env.locals) := by
    refine ⟨oe, vs, T, oT, ts, by rw [sb2 a naC]; exact he, hz, hd, h1T, ?_, hTe, by rw [sb2 T nTC]; exact hT, hdT, h3T⟩
    cases z : (PySem.W.hideAll B [C]).get? T with
    | none => rfl
    | some o => have := (of_hide1 z).1; rw [hnT] at this; cases this
  have bn2 : (PySem.W.hideAll B [C]).get? a = none := by
    cases z : (PySem.W.hideAll B [C]).get? a with
    | none => rfl
    | some o => have := (of_hide1 z).1; rw [bn] at this; cases this
  have held2 : HandSPX.HeldZ (PySem.W.hideAll B [C]) (X.env :: X.outer) a (L2N.Zn cls d) X.env.locals h2 := ⟨st2, bn2, ff2, tr2⟩
  unfold PySem.passOn
  refine wpAny_bind (wpAny_field (show h2.get? a = some oe by rw [sb2 a naC]; exact he) hd h1T ?_)
  rw [if_neg (show ¬ ((Value.ref T == Value.none) = true) from by simp), hcf, hfr]
  refine wpAny_bind (HandSPX.setFlight_onZ held2 fun h3 held3 up3 => wpAny_throw ?_)
  -- the def's state without the exception
  obtain ⟨G, g1, g2⟩ := restrict s'.heap fun b => ((PySem.W.hideAll B [C]).get? b).isSome || decide (b ∈ frs X.stack)
  have stB : B.StaysIn s'.heap := fl'.1
  have gB : ∀ b o, B.get? b = some o → b ≠ C → G.get? b = some o := fun b o e n => by
    rw [g1 b (by simp [hide1_get e n])]
    exact stB b o e
  have gF : ∀ b, b ∈ frs X.stack → G.get? b = s'.heap.get? b := fun b hb => g1 b (by simp [hb])
  have og : ∀ b o, G.get? b = some o → s'.heap.get? b = some o ∧ (((PySem.W.hideAll B [C]).get? b).isSome = true ∨ b ∈ frs X.stack) := fun b o e => by
    cases q : (((PySem.W.hideAll B [C]).get? b).isSome || decide (b ∈ frs X.stack)) with
    | false => rw [g2 b q] at e; cases e
    | true =>
      rw [g1 b q] at e
      exact ⟨e, by simpa [Bool.or_eq_true] using q⟩
  have lt3 : ∀ b o, s3.heap.get? b = some o → b ≠ C := fun b o e q => by
    have := Heap.lt_size e
    rw [q, hC] at this
    exact Nat.lt_irrefl _ this
  have ib := IB.base
  have un : Un (frs X.stack) fp H3 H' s3.heap G := by
    refine ⟨fun b o e n hb hx => ?_, fun b o e n hb hx => ?_, fun b o e n hx => ?_, fun b o e hx => ?_, fun b xs e => ub.tups b xs (ib.tups b xs e), fun b o xs e => ub.frzs b o xs (ib.frzs b o xs e), fun b ps e => ?_⟩
    · exact gB b o (ub.keep b o (ib.keep b o e n hb hx) (ib.free b o e n hx) hb) (lt3 b o e)
    · obtain ⟨sl, q⟩ := ib.slot b o e n hb hx
      obtain ⟨sl', q'⟩ := ub.slot b _ q hb
      exact ⟨sl', by rw [gF b hb]; exact q'⟩
    · obtain ⟨o', q⟩ := ib.there b o e hx
      exact ub.free b o' q (ib.free b o e n hx)
    · obtain ⟨o', q⟩ := ib.there b o e hx
      by_cases hb : b ∈ frs X.stack
      · obtain ⟨sl', q'⟩ := ub.slot b _ q hb
        exact ⟨_, by rw [gF b hb]; exact q'⟩
      · obtain ⟨o2, q2⟩ := ub.there b o' q hb
        exact ⟨o2, gB b o2 q2 (lt3 b o e)⟩
    · obtain ⟨m1, e1⟩ := ib.tbls b ps e
      obtain ⟨m2, e2⟩ := ub.tbls b _ e1
      exact ⟨m1 ++ m2, by rw [e2, Array.append_assoc]⟩
  have hokG : HOk X.prog X.w H' G := fun b o q => (hok b o q).stay (fun c u hc r => gB c u r fun z => by
    rcases hc with hc | hc
    · rw [← hc, z, hHC] at q; cases q
    · rw [z, hHC] at hc; cases hc) (fun _ r => r) fun _ _ r => r
  have IX : Inv X pins σ H' { s3 with heap := G, gens := s'.gens, drawn := s'.drawn, toks := s'.toks } := I3.call (ch := fp) un hokG ag fun b hb => ⟨(f3 b hb).1.2.2.2.1, (f3 b hb).1.2.1, (f3 b hb).1.2.2.2.2.1, (f3 b hb).1.2.2.2.2.2⟩
  refine tk _ _ ⟨a, PySem.W.hideAll B [C], _, pins, σ, H', cls, d, rfl, IX, fun b o e hb => ?_, fun b o e hnf => ?_, .inr (.inr (by rw [hst]; exact held3)), na, ?_, ag, hE⟩
  · obtain ⟨e', h⟩ := og b o e
    rcases h with h | h
    · obtain ⟨o', q⟩ := Option.isSome_iff_exists.mp h
      have z := stB b o' (of_hide1 q).1
      rw [e'] at z; cases z
      exact q
    · exact absurd h hb
  · have e : G.get? b = some o := e
    obtain ⟨e', h⟩ := og b o e
    rcases h with h | h
    · obtain ⟨o', q⟩ := Option.isSome_iff_exists.mp h
      have z := stB b o' (of_hide1 q).1
      rw [e'] at z; cases z
      exact ⟨o.slots, held3.1 b o q⟩
    · obtain ⟨sl1, k1⟩ := up b o e' hnf
      have nb : b ≠ C := fun q => nC (by rw [← q]; exact h)
      rw [← sb2 b nb] at k1
      obtain ⟨sl2, k2⟩ := up3 b _ k1 hnf
      exact ⟨sl2, k2⟩
  · show s'.os = s3.os
    rw [os]
    exact IB.os
/-- the comprehension's run: as in the library's own one, with the exceptions of its calls let out -/
theorem lc_coreX {X : Cx} {E : XK} {pins : List (Addr × Obj)} {s : Shared} {σ : St} {H : Hp} {Q : VK} {elt tg iter : Expr} {ifs : List Expr} {scope : Scope} {own : List (Str × Nat)} {pos pos' : Pos} {wi : TI} {g : TG} {tt : TT} {te : TE} {use : Option (Value → Sem Unit)} {Qf : Value → Shared → Prop}
    (hst : X.stack = X.env :: X.outer) (hfr : X.env.frame = some X.env.locals) (tk : L2N.Takes X fun cls d _ H => E cls d H) (hc : X.calm = true) (hN : X.N.Nodup) (I : Inv X pins σ H s) (hi : PI X tg iter wi) (ok : BlkOk X.N X.env.scope scope own)
    (hg : ∀ (s : Shared) (H : Hp) (C : Addr) (cl : List (Str × Addr)) (fp : List Addr), PG ((X.blk s H scope (compEnvC scope cl C X.env) fp).wish (xeB X E s H scope cl C fp)) tg g)
    (ht : ∀ (s : Shared) (H : Hp) (C : Addr) (cl : List (Str × Addr)) (fp : List Addr), PTs ((X.blk s H scope (compEnvC scope cl C X.env) fp).wish (xeB X E s H scope cl C fp)) ifs tt)
    (he : ∀ (s : Shared) (H : Hp) (C : Addr) (cl : List (Str × Addr)) (fp : List Addr), PE ((X.blk s H scope (compEnvC scope cl C X.env) fp).wish (xeB X E s H scope cl C fp)) elt te) (hs : ∀ x, foldedSetIterable iter X.env x = pure x)
    (h : tLc wi g tt te (own.map (·.2)) σ H Q)
    (hRR : ∀ D C cenv s' m H', cenv.locals = C → Inv X pins σ H' s' → Q (.ref D) H' → s'.heap.Ns C m → FpOk X pins H' C → compEnds (model X.prog X.w) X.A X.xe use Qf (.ref D) cenv (.ok .next) s') :
    wpAny (model X.prog X.w) X.A (comprehension (.ListComp elt [⟨tg, iter, ifs, 0⟩] scope pos) scope X.env pos' (newList []) false (eval iter X.env) use) Qf X.xe s := by
  have free : ∀ y ∈ scope.names, y.2 = .free → ∃ c, X.env.cells.lookup y.1 = some c := fun y hy e =>
    (ok.free y hy e).elim (fun k => I.ok.has _ (.inl k)) fun k => I.ok.has _ (.inr k)
  refine comprehension_at (use := use) rfl hs (closure_ok free) ok.kind (fun y hy e => by rw [ok.uniq y hy, e]) (thn (hi.run pins s σ H _ I h) fun xv s1 hx => thn hx fun itv s2 h2 => ?_)
  obtain ⟨it, fp, tn, J, H2, rfl, I2, T, st2, f2, q⟩ := h2
  refine wpAny_newObj_type (newEnv_comp ?_) (by show 0 ≤ sizeLine; decide)
  have hDn : H2 s2.heap.objs.size = none := I2.hok.fresh (Nat.le_refl _)
  obtain ⟨W, ⟨m0, w0⟩, turn⟩ := q s2.heap.objs.size hDn
  generalize hD : s2.heap.objs.size = D at hDn w0 turn ⊢
  -- with the new list
  obtain ⟨s3, hs3⟩ : ∃ s3 : Shared, s3 = { s2 with heap := s2.heap.push { cls := .type "list", data := .seq ([] : List Value).toArray } } := ⟨_, rfl⟩
  have h3 : s3.heap = s2.heap.push { cls := .type "list", data := .seq ([] : List Value).toArray } := by rw [hs3]
  have I3 : Inv X pins σ (upd H2 D (.lst [])) s3 := by
    rw [hs3]
    refine I2.laid (t' := s2.toks) (fun b o e => Heap.get?_push_of_some _ e) (Nat.le_of_eq hD) ⟨Nat.zero_le _, [], 0, .nil, ?_⟩
    rw [← hD]
    exact Heap.get?_push_size _ rfl
  have f3 : ∀ b ∈ fp, FpOk X pins (upd H2 D (.lst [])) b ∧ b < s3.heap.objs.size := fun b hb => by
    obtain ⟨o, e, _⟩ := T.obj _ _ st2 b hb
    have hlt := Heap.lt_size e
    refine ⟨⟨?_, (f2 b hb).2⟩, by rw [h3, Heap.size_push]; exact Nat.lt_succ_of_lt hlt⟩
    rw [upd_ne (by rw [← hD]; exact Nat.ne_of_lt hlt)]
    exact (f2 b hb).1
  have st3 : tn 0 s3.heap := T.keep _ _ _ st2 fun b _ o e => by rw [h3]; exact Heap.get?_push_of_some _ e
  have I4 := block_start I3 ok hN f3
  obtain ⟨H3, hH3⟩ : ∃ H3, H3 = upd H2 D (.lst []) := ⟨_, rfl⟩
  obtain ⟨cl, hcl⟩ : ∃ cl, cl = cellsFrom (s3.heap.objs.size + 1) scope.names (cloFrom X.env.cells scope.names []) := ⟨_, rfl⟩
  obtain ⟨s4, hs4⟩ : ∃ s4 : Shared, s4 = { s3 with heap := pushCells (s3.heap.push { cls := .type "dict", data := .dict #[] }) scope.names } := ⟨_, rfl⟩
  rw [← hH3] at I3 I4 f3 w0
  rw [← hcl, ← hs4] at I4
  have pg := hg s3 H3 s3.heap.objs.size cl fp
  have pt := ht s3 H3 s3.heap.objs.size cl fp
  have pe := he s3 H3 s3.heap.objs.size cl fp
  have goal : codeAny (model X.prog X.w) X.A (.compStart (.ListComp elt [⟨tg, iter, ifs, 0⟩] scope pos) 0 (.ref it) (.ref D) (compEnvC scope cl s3.heap.objs.size X.env)) (compEnds (model X.prog X.w) X.A X.xe use Qf (.ref D) (compEnvC scope cl s3.heap.objs.size X.env)) s4 := by
    have nfp : ∀ b ∈ fp, H3 b = none := fun b hb => (f3 b hb).1.1
    have st4 : tn 0 s4.heap := T.keep _ _ _ st3 fun b _ o e => by rw [hs4]; exact pushCells_keeps _ _ _ _ (Heap.get?_push_of_some _ e)
    obtain ⟨XB, hXB⟩ : ∃ XB, XB = X.blk s3 H3 scope (compEnvC scope cl s3.heap.objs.size X.env) fp := ⟨_, rfl⟩
    rw [← hXB] at I4 pg pt pe
    have stat : ∀ {σ' : St} {H' : Hp} {s' : Shared}, Inv XB [] σ' H' s' → (∀ b ∈ fp, H' b = none) → ∀ b ∈ fp, FpOk XB [] H' b := fun {σ' H' s'} I' hn b hb => by
      subst hXB
      exact ⟨hn b hb, (I'.ok.exf b hb).1, I'.ok.exfs b hb, .inl hb, fun x c e => (I'.ok.exf b hb).2 x c e, fun p hp => absurd (show p ∈ ([] : List (Addr × Obj)) ++ [] from hp) (by simp)⟩
    have outB : ∀ u s', xeB X E s3 H3 scope cl s3.heap.objs.size fp u s' → notedBy (model X.prog X.w) X.A (compEnvC scope cl s3.heap.objs.size X.env) (fun e s'' => compEnds (model X.prog X.w) X.A X.xe use Qf (.ref D) (compEnvC scope cl s3.heap.objs.size X.env) (.error e) s'') u s' := fun u s' hx => by
      have z := comp_out hst hfr tk I3 f3 hx
      cases use <;> exact z
    have pX : XB.prog = X.prog ∧ XB.w = X.w ∧ XB.K = X.K ∧ XB.calm = X.calm ∧ XB.A = X.A ∧ XB.env = compEnvC scope cl s3.heap.objs.size X.env := by subst hXB; exact ⟨rfl, rfl, rfl, rfl, rfl, rfl⟩
    have loop : codeAny (model X.prog X.w) X.A (.compLoop (.ListComp elt [⟨tg, iter, ifs, 0⟩] scope pos) 0 (.ref it) (.ref D) (compEnvC scope cl s3.heap.objs.size X.env)) (compEnds (model X.prog X.w) X.A X.xe use Qf (.ref D) (compEnvC scope cl s3.heap.objs.size X.env)) s4 := by
      refine compLoop_any (fun n s' => ∃ i H', Inv XB [] (wipe σ (own.map (·.2))) H' s' ∧ tn i s'.heap ∧ (∀ b ∈ fp, H' b = none) ∧ W i n H') ?_ m0 ⟨0, H3, I4, st4, nfp, w0⟩
      rintro n s5 ⟨i, H5, I5, st5, n5, w5⟩
      rcases turn i n H5 w5 with ⟨stop, qq⟩ | ⟨go, Nx, hNx, step⟩
      · have td := T.done XB pX.1 pX.2.1 pX.2.2.1 (pX.2.2.2.1.trans hc) i [] s5 _ H5 (fun _ _ => False) I5 (stat I5 n5) st5 stop
        rw [pX.2.2.2.2.1] at td
        refine thnF td fun r s6 ⟨hr, I6⟩ => ?_
        subst hr
        subst hXB
        have I7 : Inv X pins σ H5 s6 := I3.call' (ch := fp) I6.os I6.base I6.hok I6.bare fun b hb => ⟨(f3 b hb).1.2.2.2.1, (f3 b hb).1.2.1, (f3 b hb).1.2.2.2.2.1, (f3 b hb).1.2.2.2.2.2⟩
        obtain ⟨m, hn, _⟩ := I6.loc
        exact hRR D s3.heap.objs.size _ s6 m H5 rfl I7 qq hn (I3.fpOk (Nat.le_refl _) I6.free)
      · have ti := T.item XB pX.1 pX.2.1 pX.2.2.1 (pX.2.2.2.1.trans hc) i [] s5 _ H5 (fun _ _ => False) I5 (stat I5 n5) st5 go
        rw [pX.2.2.2.2.1] at ti
        refine thnF ti fun r s6 ⟨u, hr, h6⟩ => ?_
        subst hr
        refine thnF h6 fun _ s7 ⟨x, H7, I7, r7, y7, st7, n7⟩ => ?_
        have I7' := I7.pinned (stat I7 n7) (T.obj _ _ st7)
        have fin : ∀ {s' : Shared} {σ' : St} {H' : Hp}, wipe σ' (own.map (·.2)) = wipe σ (own.map (·.2)) → Inv XB ([] ++ pinsAt fp s7.heap) σ' H' s' → Nx H' → ∃ m, m < n ∧ ∃ i H', Inv XB [] (wipe σ (own.map (·.2))) H' s' ∧ tn i s'.heap ∧ (∀ b ∈ fp, H' b = none) ∧ W i m H' := fun {s' σ' H'} hw I' nx => by
          obtain ⟨m', hm, w'⟩ := hNx H' nx
          have pin' : ∀ b ∈ fp, ∀ o, s7.heap.get? b = some o → s'.heap.get? b = some o ∧ H' b = none := fun b hb o e =>
            let z := I'.pin (b, o) (List.mem_append_right _ (List.mem_append_right _ (mem_pinsAt hb e)))
            ⟨z.1, z.2.1⟩
          refine ⟨m', hm, i + 1, H', (I'.unpinned (pins := [])).weak (by rw [← hw, wipe_length]) (fun j v e => ?_), T.keep _ _ _ st7 fun b hb o e => (pin' b hb o e).1, fun b hb => ?_, w'⟩
          · rw [← hw] at e
            exact (wipe_some e).1
          · obtain ⟨o, e, _⟩ := T.obj _ _ st7 b hb
            exact (pin' b hb o e).2
        subst hXB
        refine wpAny_mono (pg.run _ s7 _ H7 x u _ (I7'.wish _) r7 (step x H7 y7)) (fun _ s8 ⟨σ8, H8, I8, hw8, q8⟩ => ?_) outB
        refine wpAny_mono (pt.run _ s8 σ8 H8 _ I8 q8) (fun b s9 ⟨H9, I9, q9⟩ => ?_) outB
        cases b with
        | false =>
          simp only [Bool.false_eq_true, if_false] at q9 ⊢
          exact fin hw8 I9.unwish q9
        | true =>
          simp only [if_true] at q9 ⊢
          refine wpAny_mono (pe.run _ s9 σ8 H9 _ I9 q9) (fun z s10 ⟨yv, H10, I10, r10, acc, hD10, hz10, nx⟩ => ?_) outB
          exact app_ok (X := X.blk s3 H3 scope (compEnvC scope cl s3.heap.objs.size X.env) fp) I10.unwish hD10 hz10 r10 fun s11 I11 => fin hw8 I11 nx
    exact codeAny_compStart_list loop (T.self X.A 0 _ _ _ st4 loop)
  rw [hs4, hcl, hs3] at goal
  rw [hs3] at *
  exact goal
/-! ### the rule -/
section
variable {c : Ctx}
theorem evs_lcX {iter tg : Expr} {fi : AD} {ws vs : List Nat} {fg : D → Ev → Option Ev} {ft : TD} {fe : ED} {wi : TI} (qi : ∀ g H s σ τ R, Ok c g H s σ τ → Pg c g H (fun ds _ g' H' => ∀ J, GivesX c g' H' J ds → R J H') (fi τ s) → wi σ H R)
    (hws : ∀ i ∈ ws, i ∈ vs ∧ c.O i = false) : Evs .o c (tLc wi (tGK c.X.K c.T ws fg) (tTK c.X.K c.T c.W c.O ft) (tEK .z c.X.K c.T c.W c.O fe) vs) (eLc fi fg ft fe vs) := fun g H s σ τ Q o h =>
  qi g H s σ τ _ o (Pg.seq h fun ds s1 g1 H1 _ e1 w1 h1 J hJ Dl hD => by
    by_cases hz : small ds.length = true
    · rw [if_pos hz] at h1
      exact lc_run (c := c) rfl rfl hws (o.sl.ext e1) w1 e1 hJ hz (pgK.mp h1) Dl hD
    · rw [if_neg hz] at h1
      exact h1.elim)
theorem dlc_X {elt tg iter : Expr} {ifs : List Expr} {scope : Scope} {pos : Pos} {fi : AD} {ws : List Nat} {fg : D → Ev → Option Ev} {ft : TD} {fe : ED} (own : List (Str × Nat)) (hN : c.X.N.Nodup) (tk : L2N.Takes c.X fun cls d _ H => c.W cls d H) (hi : DIx c tg iter fi)
    (hg : ∀ s H C cl fp, DG (blkC c c.W (xeB c.X c.W s H scope cl C fp) s H scope C cl fp) tg ws fg)
    (ht : ∀ s H C cl fp, PTs (blkC c c.W (xeB c.X c.W s H scope cl C fp) s H scope C cl fp).X ifs (tTK c.X.K c.T c.W c.O ft))
    (he : ∀ s H C cl fp, Passes (L2N.CX c.X.prog c.X.w) (blkC c c.W (xeB c.X c.W s H scope cl C fp) s H scope C cl fp).X c.W → DE .z (blkC c c.W (xeB c.X c.W s H scope cl C fp) s H scope C cl fp) elt fe)
    (ok : L2.blkC c.X.N c.X.env.scope scope own = true := by kernel_rfl) (hws : (ws.all fun i => (own.map (·.2)).contains i && !c.O i) = true := by rfl) (hc : c.X.calm = true := by rfl) (hs : ∀ x, foldedSetIterable iter c.X.env x = pure x := by intro _; rfl)
    (hst : c.X.stack = c.X.env :: c.X.outer := by rfl) (hfr : c.X.env.frame = some c.X.env.locals := by rfl) :
    DLc c (.ListComp elt [⟨tg, iter, ifs, 0⟩] scope pos) (eLc fi fg ft fe (own.map (·.2))) := by
  obtain ⟨wi, pi, qi⟩ := hi
  have hws' : ∀ i ∈ ws, i ∈ own.map (·.2) ∧ c.O i = false := fun i hi => by
    have := Bool.and_eq_true_iff.mp (List.all_eq_true.mp hws i hi)
    exact ⟨List.contains_iff_mem.mp this.1, by simpa using this.2⟩
  have bo := blkOk_by ok
  have pg := fun s H C cl fp => (hg s H C cl fp).can
  have pe := fun s H C cl fp => (he s H C cl fp passB).can
  refine ⟨tLc wi (tGK c.X.K c.T ws fg) (tTK c.X.K c.T c.W c.O ft) (tEK .z c.X.K c.T c.W c.O fe) (own.map (·.2)), ⟨fun pins s σ H Q I h => ?_⟩, evs_lcX (iter := iter) (tg := tg) qi hws', fun i y py spos hN hy hl hsw => ⟨fun pins s σ H Dn I h => ?_⟩⟩
  · rw [eval_ListComp]
    refine lc_coreX hst hfr tk hc hN I pi bo pg ht pe hs h fun D C cenv s' m H' hC I' q hn f => ⟨m, by rw [hC]; exact hn, fun h'' sb => ?_⟩
    rw [hC] at sb
    obtain ⟨f0, f1, f2, f3, f4, f5⟩ := f
    exact ⟨.ref D, H', I'.turned (t' := s'.toks) (fun b o hb e => (sb.2 b hb).trans e) f0 f1 f3 f4 f5, rfl, q⟩
  · rw [exec_Assign_Name_used _ _ _ _ hsw]
    refine wpAny_bind (wpAny_standAt (wpAny_bind ?_))
    show wpAny _ c.X.A (do let _ ← comprehension (.ListComp elt [⟨tg, iter, ifs, 0⟩] scope pos) scope c.X.env (firstIterPos [⟨tg, iter, ifs, 0⟩] pos) (newList []) false (eval iter c.X.env) (some (assign (.Name y py) c.X.env))) _ _ s
    refine wpAny_bind (thn (lc_coreX (Qf := fun _ s' => SP c.X pins Dn .next s') (Q := fun x H1 => gName i x σ H1 Dn.nx) hst hfr tk hc hN I pi bo pg ht pe hs h fun L C cenv s' m H' hC I' q hn f => ?_) fun _ s' hq => wpAny_pure (wpAny_pure hq))
    show wpAny _ _ (assign (.Name y py) c.X.env (.ref L)) _ _ _
    refine wpAny_assign_Name (store_ok2 (v := V.ref L) I' hN hy (.inl hl) rfl (fun s2 I2 ⟨a, sb, ha⟩ => ?_) (.inr hl))
    obtain ⟨f0, f1, f2, f3, f4, f5⟩ := f
    have haC : C ≠ a := ha.elim (fun z => by rw [z]; exact f1) fun z e => f4 y a z e.symm
    refine ⟨m, by rw [hC]; exact hn.sameBut sb haC, fun h3 sb3 => ?_⟩
    rw [hC] at sb3
    exact ⟨_, H', I2.turned (t' := s2.toks) (fun b o hb e => (sb3.2 b hb).trans e) f0 f1 f3 f4 f5, q⟩
end
end Mir

set_option Elab.async false
set_option linter.all false
set_option maxRecDepth 100000
set_option maxHeartbeats 4000000
/-! Mir, part F: operations on data. -/
namespace Mir
open PySem PySem.Spec PyProof.Rows L2
section
variable {c : Ctx}
/-! ### whole numbers -/
def intI (g : Int → Int → Option Int) : D → D → Option D
  | .int i, .int j => (g i j).map .int
  | _, _ => none
def intB (g : Int → Int → Bool) : D → D → Option D
  | .int i, .int j => some (.bl (g i j))
  | _, _ => none
theorem opd_I {fn : Value → Value → Sem Value} {C : Int → Int → Prop} {g : Int → Int → Int} {g' : Int → Int → Option Int} (h : OpR c.X fn (rI C fun i j => .int (g i j))) (hg : ∀ i j k, g' i j = some k → C i j ∧ k = g i j) : OpD c fn (intI g') := by
  refine ⟨_, h, fun gh H s x y dx dy d Q w rx ry e k => ?_⟩
  unfold intI at e
  split at e
  · rename_i i j
    cases z : g' i j with
    | none => rw [z] at e; cases e
    | some m =>
      rw [z] at e
      cases e
      obtain ⟨h1, h2⟩ := hg i j m z
      exact ⟨i, j, rx.int, ry.int, h1, by show Q (V.int (g i j)) H; rw [← h2]; exact k.here w (.int m)⟩
  · cases e
theorem opd_I0 {fn : Value → Value → Sem Value} {g : Int → Int → Int} (h : OpR c.X fn (rI0 fun i j => .int (g i j))) : OpD c fn (intI fun i j => some (g i j)) := by
  refine ⟨_, h, fun gh H s x y dx dy d Q w rx ry e k => ?_⟩
  unfold intI at e
  split at e
  · cases e
    exact ⟨_, _, rx.int, ry.int, k.here w (.int _)⟩
  · cases e
theorem opd_B0 {fn : Value → Value → Sem Value} {g : Int → Int → Bool} (h : OpR c.X fn (rI0 fun i j => .bl (g i j))) : OpD c fn (intB g) := by
  refine ⟨_, h, fun gh H s x y dx dy d Q w rx ry e k => ?_⟩
  unfold intB at e
  split at e
  · cases e
    exact ⟨_, _, rx.int, ry.int, k.here w (.bl _)⟩
  · cases e
def mulOk (i j : Int) : Bool := (decide (-(2 ^ 64) < i) && decide (i < 2 ^ 64)) || (decide (-(2 ^ 64) < j) && decide (j < 2 ^ 64)) || decide (i.natAbs.log2 + j.natAbs.log2 < 1000000)
def divOk (j : Int) : Bool := decide (0 < j) && decide (j.natAbs.log2 < 9000)
def powOk (i j : Int) : Bool := decide (0 ≤ j) && decide (j ≤ 1000000) && decide (i.natAbs < 2 ^ 64)
def addI : D → D → Option D := intI fun i j => some (i + j)
def subI : D → D → Option D := intI fun i j => some (i - j)
def mulI : D → D → Option D := intI fun i j => if mulOk i j then some (i * j) else none
def fdivI : D → D → Option D := intI fun i j => if divOk j then some (i / j) else none
def modI : D → D → Option D := intI fun i j => if decide (0 < j) then some (i % j) else none
def powI : D → D → Option D := intI fun i j => if powOk i j then some (i ^ j.toNat) else none
theorem od_sub : OpD c (binaryOp .Sub) subI := opd_I0 op_sub
theorem od_addI : OpD c (binaryOp .Add) addI := opd_I0 op_add
theorem od_mulI : OpD c (binaryOp .Mult) mulI := by
  refine opd_I (C := fun i j => IntMulOk i j) (g := fun i j => i * j) (opI fun _ _ _ _ _ _ _ hc q => mul_int q hc) fun i j k e => ?_
  split at e
  · rename_i h
    cases e
    refine ⟨?_, rfl⟩
    unfold mulOk at h
    simp only [Bool.or_eq_true, Bool.and_eq_true, decide_eq_true_eq] at h
    rcases h with (h | h) | h
    · exact CMul.ok (.inl h)
    · exact CMul.ok (.inr h)
    · exact CMulW.ok h
  · cases e
theorem od_fdiv : OpD c (binaryOp .FloorDiv) fdivI := opd_I op_fdivW fun i j k e => by
  split at e
  · rename_i h
    cases e
    have h := Bool.and_eq_true_iff.mp h
    exact ⟨⟨of_decide_eq_true h.1, of_decide_eq_true h.2⟩, rfl⟩
  · cases e
theorem od_mod : OpD c (binaryOp .Mod) modI := opd_I op_mod fun i j k e => by
  split at e
  · rename_i h
    cases e
    exact ⟨of_decide_eq_true h, rfl⟩
  · cases e
theorem od_pow : OpD c (binaryOp .Pow) powI := opd_I op_pow fun i j k e => by
  split at e
  · rename_i h
    cases e
    unfold powOk at h
    simp only [Bool.and_eq_true, decide_eq_true_eq] at h
    exact ⟨⟨h.1.1, h.1.2, h.2⟩, rfl⟩
  · cases e
def ltI : D → D → Option D := intB fun i j => decide (i < j)
def leI : D → D → Option D := intB fun i j => decide (i ≤ j)
def gtI : D → D → Option D := intB fun i j => decide (j < i)
def geI : D → D → Option D := intB fun i j => decide (j ≤ i)
theorem od_ltI : OpD c (compareOp .Lt) ltI := opd_B0 op_lt
theorem od_leI : OpD c (compareOp .LtE) leI := opd_B0 op_le
theorem od_gt : OpD c (compareOp .Gt) gtI := opd_B0 op_gt
theorem od_ge : OpD c (compareOp .GtE) geI := opd_B0 op_ge
def negI : D → Option D
  | .int i => some (.int (-i))
  | _ => none
theorem ud_neg : UnD c (unaryOp .USub) negI := by
  refine ⟨_, un_neg, fun g H s x dx d Q w rx e k => ?_⟩
  unfold negI at e
  split at e
  · cases e
    exact ⟨_, rx.int, k.here w (.int _)⟩
  · cases e
/-! ### texts -/
def strS (g : Str → Str → Option D) : D → D → Option D
  | .str i, .str j => g i j
  | _, _ => none
def addS : D → D → Option D := strS fun i j => if small (i.length + j.length) then some (.str (i ++ j)) else none
theorem od_addS : OpD c (binaryOp .Add) addS := by
  refine ⟨_, op_add_str, fun g H s x y dx dy d Q w rx ry e k => ?_⟩
  unfold addS strS at e
  split at e
  · rename_i i j
    dsimp only at e
    split at e
    · rename_i hz
      cases e
      exact ⟨i, j, rx.str, ry.str, small_line hz, k.here w (.str _)⟩
    · cases e
  · cases e
def leS : D → D → Option D := strS fun i j => some (.bl (!decide (j.cps.toList < i.cps.toList)))
def ltS : D → D → Option D := strS fun i j => some (.bl (decide (i.cps.toList < j.cps.toList)))
theorem od_leS : OpD c (compareOp .LtE) leS := by
  refine ⟨_, op_le_str, fun g H s x y dx dy d Q w rx ry e k => ?_⟩
  unfold leS strS at e
  split at e
  · cases e
    exact ⟨_, _, rx.str, ry.str, k.here w (.bl _)⟩
  · cases e
theorem od_ltS : OpD c (compareOp .Lt) ltS := by
  refine ⟨_, op_lt_str, fun g H s x y dx dy d Q w rx ry e k => ?_⟩
  unfold ltS strS at e
  split at e
  · cases e
    exact ⟨_, _, rx.str, ry.str, k.here w (.bl _)⟩
  · cases e
def leD : D → D → Option D := orO leI leS
def ltD : D → D → Option D := orO ltI ltS
theorem od_le : OpD c (compareOp .LtE) leD := od_leI.or od_leS
theorem od_lt : OpD c (compareOp .Lt) ltD := od_ltI.or od_ltS
def inStr (j i : Str) : Bool := !(Builtin.Str.occurrences j i 0 j.length 1).isEmpty
def inS : D → D → Option D := strS fun i j => some (.bl (inStr j i))
def notInS : D → D → Option D := strS fun i j => some (.bl (!inStr j i))
theorem od_inS : OpD c (compareOp .In) inS := by
  refine ⟨_, op_in_str, fun g H s x y dx dy d Q w rx ry e k => ?_⟩
  unfold inS strS at e
  split at e
  · cases e
    exact ⟨_, _, rx.str, ry.str, k.here w (.bl _)⟩
  · cases e
theorem od_notInS : OpD c (compareOp .NotIn) notInS := by
  refine ⟨_, op_notin_str, fun g H s x y dx dy d Q w rx ry e k => ?_⟩
  unfold notInS strS at e
  split at e
  · cases e
    exact ⟨_, _, rx.str, ry.str, k.here w (.bl _)⟩
  · cases e
def isNonD : D → D → Option D
  | .non, .non => some (.bl true)
  | .bl _, .non => some (.bl false)
  | .int _, .non => some (.bl false)
  | .str _, .non => some (.bl false)
  | .tup _, .non => some (.bl false)
  | .lst _, .non => some (.bl false)
  | .dct _, .non => some (.bl false)
  | .obj _, .non => some (.bl false)
  | _, _ => none
def isNotNonD (x y : D) : Option D := match isNonD x y with
  | some (.bl b) => some (.bl (!b))
  | _ => none
theorem nonD_dec {g : Gh} {H : Hp} {x y : V} {dx dy : D} {b : Bool} (rx : RK .b c.X.K g H H x dx) (ry : RK .b c.X.K g H H y dy) (e : isNonD dx dy = some (.bl b)) : y = .non ∧ decide (x = V.non) = b := by
  unfold isNonD at e
  split at e <;> cases e
  · exact ⟨ry.non, decide_eq_true rx.non⟩
  · exact ⟨ry.non, decide_eq_false (by rw [rx.bl]; exact fun z => nomatch z)⟩
  · exact ⟨ry.non, decide_eq_false (by rw [rx.int]; exact fun z => nomatch z)⟩
  · exact ⟨ry.non, decide_eq_false (by rw [rx.str]; exact fun z => nomatch z)⟩
  · refine ⟨ry.non, decide_eq_false fun z => ?_⟩
    rcases rx with rx | rx
    · cases rx; cases z
    · cases rx
  · refine ⟨ry.non, decide_eq_false fun z => ?_⟩
    rcases rx with rx | rx <;> (cases rx; cases z)
  · refine ⟨ry.non, decide_eq_false fun z => ?_⟩
    rcases rx with rx | rx <;> (cases rx; cases z)
  · refine ⟨ry.non, decide_eq_false fun z => ?_⟩
    rcases rx with rx | rx
    · cases rx; cases z
    · cases rx
theorem od_isN : OpD c (compareOp .Is) isNonD := by
  refine ⟨_, op_isN, fun g H s x y dx dy d Q w rx ry e k => ?_⟩
  have hb : ∃ b, d = .bl b := by
    unfold isNonD at e
    split at e <;> cases e <;> exact ⟨_, rfl⟩
  obtain ⟨b, rfl⟩ := hb
  obtain ⟨h1, h2⟩ := nonD_dec rx ry e
  exact ⟨h1, by rw [h2]; exact k.here w (.bl _)⟩
theorem od_isNotN : OpD c (compareOp .IsNot) isNotNonD := by
  refine ⟨_, op_notN, fun g H s x y dx dy d Q w rx ry e k => ?_⟩
  unfold isNotNonD at e
  split at e
  · rename_i b z
    cases e
    obtain ⟨h1, h2⟩ := nonD_dec rx ry z
    exact ⟨h1, by rw [h2]; exact k.here w (.bl _)⟩
  · cases e
/-! ### lists, tuples -/
def addL : D → D → Option D
  | .lst xs, .lst ys => if small (xs.length + ys.length) then some (.lst (xs ++ ys)) else none
  | _, _ => none
theorem od_addL : OpD c (binaryOp .Add) addL := by
  refine ⟨_, op_cat, fun g H s x y dx dy d Q w rx ry e k => ?_⟩
  unfold addL at e
  split at e
  · split at e
    · rename_i hz
      cases e
      obtain ⟨a, xs, rfl, h1, r1⟩ := rx.lst w
      obtain ⟨b, ys, rfl, h2, r2⟩ := ry.lst w
      exact ⟨a, b, xs, ys, rfl, rfl, h1, h2, small_line (by rw [r1.length, r2.length]; exact hz), fun p hp => k.lst w (r1.append r2) hp⟩
    · cases e
  · cases e
def addD : D → D → Option D := orO addI (orO addS addL)
theorem od_add : OpD c (binaryOp .Add) addD := od_addI.or (od_addS.or od_addL)
theorem Reps.rep {K : PySem.W.Frag} {g : Gh} {xs : List V} {ds : List D} (r : Reps K g xs ds) : ∀ k : Nat, Reps K g (List.replicate k xs).flatten (List.replicate k ds).flatten
  | 0 => .nil
  | k + 1 => r.append (Reps.rep r k)
def mulL : D → D → Option D
  | .lst xs, .int k => if decide (-(2 ^ 63) ≤ k) && decide (k < 2 ^ 63) && small (xs.length * k.toNat) then some (.lst (List.replicate k.toNat xs).flatten) else none
  | _, _ => none
theorem od_mulL : OpD c (binaryOp .Mult) mulL := by
  refine ⟨_, op_rep, fun g H s x y dx dy d Q w rx ry e k => ?_⟩
  unfold mulL at e
  split at e
  · split at e
    · rename_i hz
      cases e
      simp only [Bool.and_eq_true, decide_eq_true_eq] at hz
      obtain ⟨a, xs, rfl, h1, r1⟩ := rx.lst w
      exact ⟨a, _, xs, rfl, ry.int, h1, hz.1.1, hz.1.2, small_line (by rw [r1.length]; exact hz.2), fun p hp => k.lst w (r1.rep _) hp⟩
    · cases e
  · cases e
end
end Mir

set_option Elab.async false
set_option linter.all false
set_option maxRecDepth 100000
set_option maxHeartbeats 4000000
/-! Mir, part G: ==, in, subscripts, slices, what is built in. -/
namespace Mir
open PySem PySem.Spec PyProof.Rows L2
/-! ### == -/
mutual
def toP : D → Option PyData
  | .non => some .none
  | .bl b => some (.bool b)
  | .int i => some (.int i)
  | .str x => some (.str x)
  | .tup xs => (toPs xs).map .tuple
  | .lst xs => (toPs xs).map .list
  | .scr ns => some (.list (ns.map .int))
  | .dct _ => none
  | .obj _ => none
  | .exc _ => none
def toPs : List D → Option (List PyData)
  | [] => some []
  | d :: ds => match toP d, toPs ds with
    | some p, some ps => some (p :: ps)
    | _, _ => none
end
theorem dpAll_ints (K : PySem.W.Frag) (H : Hp) : ∀ ns : List Int, DpAll K H (ns.map V.int) (ns.map PyData.int)
  | [] => .nil
  | n :: ns => .cons (.int n) (dpAll_ints K H ns)
section
variable {K : PySem.W.Frag} {T : List (Addr × Str)} {g : Gh} {H : Hp} {s : Sto}
mutual
theorem Rep.dp (w : WF K T g H s) : ∀ {v : V} {d : D} {p : PyData}, Rep K g v d → toP d = some p → Dp K H v p
  | _, _, _, .non, e => by cases e; exact .non
  | _, _, _, .bl b, e => by cases e; exact .bl b
  | _, _, _, .int b, e => by cases e; exact .int b
  | _, _, _, .str b, e => by cases e; exact .str b
  | _, .tup ds, p, .tup h r, e => by
    have e : (toPs ds).map .tuple = some p := e
    cases z : toPs ds with
    | none => rw [z] at e; cases e
    | some ps => rw [z] at e; cases e; exact .tup (sqT_mono w.sub h) (Reps.dp w r z)
  | _, .lst ds, p, .lst h r, e => by
    have e : (toPs ds).map .list = some p := e
    cases z : toPs ds with
    | none => rw [z] at e; cases e
    | some ps => rw [z] at e; cases e; exact .lst (SqL.of (w.sub _ _ h)) (Reps.dp w r z)
  | _, .dct _, p, .dct h l r, e => by cases e
  | _, .scr ns, p, .scr h, e => by cases e; exact .lst (sqL_mono w.sub h) (dpAll_ints K H ns)
  | _, .obj _, p, .obj h, e => by cases e
  | _, .exc _, p, .exc, e => by cases e
theorem Reps.dp (w : WF K T g H s) : ∀ {vs : List V} {ds : List D} {ps : List PyData}, Reps K g vs ds → toPs ds = some ps → DpAll K H vs ps
  | _, _, _, .nil, e => by cases e; exact .nil
  | _, d :: ds, ps, .cons h r, e => by
    have e : (match toP d, toPs ds with
      | some p, some ps => some (p :: ps)
      | _, _ => none) = some ps := e
    cases z1 : toP d with
    | none => rw [z1] at e; cases e
    | some p =>
      cases z2 : toPs ds with
      | none => rw [z1, z2] at e; cases e
      | some ps' =>
        rw [z1, z2] at e
        cases e
        exact .cons (Rep.dp w h z1) (Reps.dp w r z2)
end
theorem RK.dp (w : WF K T g H s) {H0 : Hp} {v : V} {d : D} {p : PyData} (h : RK .b K g H0 H v d) (e : toP d = some p) : Dp K H v p := by
  rcases h with h | h
  · exact h.dp w e
  · cases h with
    | @lst a xs ds a1 a2 a3 a4 =>
      have e : (toPs ds).map .list = some p := e
      cases z : toPs ds with
      | none => rw [z] at e; cases e
      | some ps => rw [z] at e; cases e; exact .lst (SqL.of a3) (a4.dp w z)
    | dct => cases e
end
def scalD : D → Option V
  | .non => some .non
  | .bl b => some (.bl b)
  | .int i => some (.int i)
  | .str x => some (.str x)
  | _ => none
def eqS (f : Bool → Bool) : D → D → Option D := fun x y => match scalD x, scalD y with
  | some u, some v => if scal u v then some (.bl (f (decide (u = v)))) else none
  | _, _ => none
def eqP (f : Bool → Bool) : D → D → Option D := fun x y => match toP x, toP y with
  | some u, some v => if SeqAt.shaped u && SeqAt.shaped v then some (.bl (f (PyData.eqv u v))) else none
  | _, _ => none
section
variable {c : Ctx}
theorem RK.scal {k : Kd} {K : PySem.W.Frag} {g : Gh} {H0 H : Hp} {v u : V} {d : D} (h : RK k K g H0 H v d) (e : scalD d = some u) : v = u := by
  cases d with
  | non => cases e; exact h.non
  | bl b => cases e; exact h.bl
  | int b => cases e; exact h.int
  | str b => cases e; exact h.str
  | _ => cases e
theorem od_eqS : OpD c (compareOp .Eq) (eqS id) := by
  refine ⟨_, op_eq, fun g H s x y dx dy d Q w rx ry e k => ?_⟩
  unfold eqS at e
  split at e
  · rename_i u v h1 h2
    split at e
    · rename_i hz
      cases e
      rw [rx.scal h1, ry.scal h2]
      exact ⟨hz, k.here w (.bl _)⟩
    · cases e
  · cases e
theorem od_neS : OpD c (compareOp .NotEq) (eqS not) := by
  refine ⟨_, op_ne, fun g H s x y dx dy d Q w rx ry e k => ?_⟩
  unfold eqS at e
  split at e
  · rename_i u v h1 h2
    split at e
    · rename_i hz
      cases e
      rw [rx.scal h1, ry.scal h2]
      exact ⟨hz, k.here w (.bl _)⟩
    · cases e
  · cases e
theorem od_eqP (hu : c.X.A.units + 64 < cLine) : OpD c (compareOp .Eq) (eqP id) := by
  refine ⟨_, op_eqD hu, fun g H s x y dx dy d Q w rx ry e k => ?_⟩
  unfold eqP at e
  split at e
  · rename_i u v h1 h2
    split at e
    · rename_i hz
      cases e
      have hz := Bool.and_eq_true_iff.mp hz
      exact ⟨u, v, rx.dp w h1, ry.dp w h2, hz.1, hz.2, k.here w (.bl _)⟩
    · cases e
  · cases e
theorem od_neP (hu : c.X.A.units + 64 < cLine) : OpD c (compareOp .NotEq) (eqP not) := by
  refine ⟨_, op_neD hu, fun g H s x y dx dy d Q w rx ry e k => ?_⟩
  unfold eqP at e
  split at e
  · rename_i u v h1 h2
    split at e
    · rename_i hz
      cases e
      have hz := Bool.and_eq_true_iff.mp hz
      exact ⟨u, v, rx.dp w h1, ry.dp w h2, hz.1, hz.2, k.here w (.bl _)⟩
    · cases e
  · cases e
def eqD : D → D → Option D := orO (eqS id) (eqP id)
def neD : D → D → Option D := orO (eqS not) (eqP not)
theorem od_eq (hu : c.X.A.units + 64 < cLine) : OpD c (compareOp .Eq) eqD := od_eqS.or (od_eqP hu)
theorem od_ne (hu : c.X.A.units + 64 < cLine) : OpD c (compareOp .NotEq) neD := od_neS.or (od_neP hu)
/-! ### in, flat things within a list or a tuple -/
def scalDs : List D → Option (List V)
  | [] => some []
  | d :: ds => match scalD d, scalDs ds with
    | some v, some vs => some (v :: vs)
    | _, _ => none
theorem Reps.scals {K : PySem.W.Frag} {g : Gh} : ∀ {vs us : List V} {ds : List D}, Reps K g vs ds → scalDs ds = some us → vs = us
  | _, _, _, .nil, e => by cases e; rfl
  | v :: vs, us, d :: ds, .cons h r, e => by
    have e : (match scalD d, scalDs ds with
      | some v, some vs => some (v :: vs)
      | _, _ => none) = some us := e
    cases z1 : scalD d with
    | none => rw [z1] at e; cases e
    | some p =>
      cases z2 : scalDs ds with
      | none => rw [z1, z2] at e; cases e
      | some ps' =>
        rw [z1, z2] at e
        cases e
        rw [RK.scal (k := .z) (H0 := fun _ => none) (H := fun _ => none) h z1, Reps.scals r z2]
theorem scal_flat : ∀ {d : D} {v : V}, scalD d = some v → flatV v = true
  | .non, _, e => by cases e; rfl
  | .bl _, _, e => by cases e; rfl
  | .int _, _, e => by cases e; rfl
  | .str _, _, e => by cases e; rfl
theorem scals_flat : ∀ {ds : List D} {vs : List V}, scalDs ds = some vs → vs.all flatV = true
  | [], _, e => by cases e; rfl
  | d :: ds, us, e => by
    have e : (match scalD d, scalDs ds with
      | some v, some vs => some (v :: vs)
      | _, _ => none) = some us := e
    cases z1 : scalD d with
    | none => rw [z1] at e; cases e
    | some p =>
      cases z2 : scalDs ds with
      | none => rw [z1, z2] at e; cases e
      | some ps' =>
        rw [z1, z2] at e
        cases e
        rw [List.all_cons, scal_flat z1, scals_flat z2]
        rfl
def inF (f : Bool → Bool) : D → D → Option D := fun x y => match scalD x, y with
  | some u, .lst ds => (scalDs ds).map fun vs => .bl (f (inV u vs))
  | some u, .tup ds => (scalDs ds).map fun vs => .bl (f (inV u vs))
  | _, _ => none
theorem inF_ok {neg : Bool} {fn : Value → Value → Sem Value} (h : OpR c.X fn (rIn c.X.K neg)) : OpD c fn (inF fun b => if neg then !b else b) := by
  refine ⟨_, h, fun g H s x y dx dy d Q w rx ry e k => ?_⟩
  unfold inF at e
  split at e
  · rename_i u ds h1
    cases z : scalDs ds with
    | none => rw [z] at e; cases e
    | some vs =>
      rw [z] at e
      cases e
      obtain ⟨a, xs, rfl, h2, r2⟩ := ry.lst w
      have ev := r2.scals z
      subst ev
      rw [rx.scal h1]
      exact ⟨a, _, rfl, .inl (SqL.of h2), scal_flat h1, scals_flat z, k.here w (.bl _)⟩
  · rename_i u ds h1
    cases z : scalDs ds with
    | none => rw [z] at e; cases e
    | some vs =>
      rw [z] at e
      cases e
      obtain ⟨a, xs, rfl, h2, r2⟩ := ry.tup w
      have ev := r2.scals z
      subst ev
      rw [rx.scal h1]
      exact ⟨a, _, rfl, .inr h2, scal_flat h1, scals_flat z, k.here w (.bl _)⟩
  · cases e
def inD : D → D → Option D := orO inS (inF fun b => if false then !b else b)
def notInD : D → D → Option D := orO notInS (inF fun b => if true then !b else b)
theorem od_in : OpD c (compareOp .In) inD := od_inS.or (inF_ok op_in_seq)
theorem od_notIn : OpD c (compareOp .NotIn) notInD := od_notInS.or (inF_ok op_notIn_seq)
/-! ### * and + of more kinds -/
def mulOkS (x : Str) (n : Int) : Bool := decide (2 ≤ n) && decide (n ≤ 100000) && decide (1 ≤ x.length) && decide (x.length ≤ 100)
def mulS : D → D → Option D
  | .str x, .int n => if mulOkS x n then some (.str (Txt.mul x n)) else none
  | _, _ => none
theorem mulOkS_ok {x : Str} {n : Int} (h : mulOkS x n = true) : MulOk x n := by
  unfold mulOkS at h
  simp only [Bool.and_eq_true, decide_eq_true_eq] at h
  obtain ⟨⟨⟨h1, h2⟩, h3⟩, h4⟩ := h
  refine ⟨?_, fun _ _ => ?_, fun _ _ => ?_⟩
  · rw [decide_eq_false (by omega), decide_eq_false (by omega)]
    rfl
  · have : (100 : Int) ≤ (2 ^ 63 - 1) / n := Int.le_ediv_of_mul_le (by omega) (by omega)
    omega
  · have hm : x.length * n.toNat ≤ 100 * 100000 := Nat.mul_le_mul h4 (by omega)
    have : ¬ (x.length * n.toNat > sizeLine) := by rw [sizeLine_eq]; omega
    unfold Builtin.Str.tooLong
    simpa using this
theorem od_mulS : OpD c (binaryOp .Mult) mulS := by
  refine ⟨fun x y H Q => ∃ z n, x = .str z ∧ y = .int n ∧ MulOk z n ∧ Q (.str (Txt.mul z n)) H, ?_, fun g H s x y dx dy d Q w rx ry e k => ?_⟩
  · intro pins s σ H x y v u Q I rx ry h
    obtain ⟨z, n, rfl, rfl, ok, q⟩ := h
    obtain ⟨t, rfl⟩ := rx
    obtain ⟨t', rfl⟩ := ry
    exact SB.mul ok fun t2 k2 => ⟨.str _, H, I.tok _, ⟨_, rfl⟩, q⟩
  · unfold mulS at e
    split at e
    · split at e
      · rename_i hz
        cases e
        exact ⟨_, _, rx.str, ry.int, mulOkS_ok hz, k.here w (.str _)⟩
      · cases e
    · cases e
def mulT : D → D → Option D
  | .tup xs, .int k => if decide (2 ≤ k) && decide (k ≤ 1000) && decide (1 ≤ xs.length) && decide (xs.length ≤ 1000) then some (.tup (List.replicate k.toNat xs).flatten) else none
  | _, _ => none
theorem od_mulT : OpD c (binaryOp .Mult) mulT := by
  refine ⟨_, op_repT, fun g H s x y dx dy d Q w rx ry e k => ?_⟩
  unfold mulT at e
  split at e
  · split at e
    · rename_i hz
      cases e
      simp only [Bool.and_eq_true, decide_eq_true_eq] at hz
      obtain ⟨a, xs, rfl, h1, r1⟩ := rx.tup w
      have hl := r1.length
      exact ⟨a, _, xs, rfl, ry.int, h1, fun z => by rw [z] at hl; simp at hl; omega, hz.1.1.1, hz.1.1.2, by omega, fun p hp => k.tup w (r1.rep _) hp⟩
    · cases e
  · cases e
def mulD : D → D → Option D := orO mulI (orO mulS (orO mulL mulT))
theorem od_mul : OpD c (binaryOp .Mult) mulD := od_mulI.or (od_mulS.or (od_mulL.or od_mulT))
def addT : D → D → Option D
  | .tup xs, .tup ys => if small (xs.length + ys.length) then some (.tup (xs ++ ys)) else none
  | _, _ => none
theorem od_addT : OpD c (binaryOp .Add) addT := by
  refine ⟨_, op_catA, fun g H s x y dx dy d Q w rx ry e k => ?_⟩
  unfold addT at e
  split at e
  · rename_i xs ys
    split at e
    · rename_i hz
      cases e
      have rx' := rx.rep
      have ry' := ry.rep
      obtain ⟨a, us, rfl, h1, r1⟩ := rx.tup w
      obtain ⟨b, vs, rfl, h2, r2⟩ := ry.tup w
      have l1 := r1.length
      have l2 := r2.length
      refine ⟨a, b, us, vs, rfl, rfl, h1, h2, small_line (by rw [l1, l2]; exact hz), fun z => ?_, fun z z' => ?_, fun z z' p hp => k.tup w (r1.append r2) hp⟩
      · have : xs = [] := by rw [z] at l1; exact List.eq_nil_of_length_eq_zero l1.symm
        rw [this, List.nil_append] at k
        exact k.here w ry'
      · have : ys = [] := by rw [z'] at l2; exact List.eq_nil_of_length_eq_zero l2.symm
        rw [this, List.append_nil] at k
        exact k.here w rx'
    · cases e
  · cases e
def addDT : D → D → Option D := orO addD addT
theorem od_addA : OpD c (binaryOp .Add) addDT := od_add.or od_addT
/-! ### subscripts -/
def ixD : D → D → Option D
  | .lst xs, .int i => atI xs i
  | .tup xs, .int i => atI xs i
  | .str x, .int i => if small x.length then (atI x.cps.toList i).map fun k => .str ⟨#[k]⟩ else none
  | .scr ns, .int i => (atI ns i).map .int
  | _, _ => none
theorem Reps.atI {K : PySem.W.Frag} {g : Gh} {xs : List V} {ds : List D} {i : Int} {d : D} (r : Reps K g xs ds) (e : L2.atI ds i = some d) : ∃ v, L2.atI xs i = some v ∧ Rep K g v d := by
  unfold L2.atI at e ⊢
  rw [r.length]
  cases z : ixN ds.length i with
  | none => rw [z] at e; cases e
  | some j =>
    rw [z] at e
    obtain ⟨v, h1, h2⟩ := r.get e
    exact ⟨v, h1, h2⟩
theorem atI_map {ns : List Int} {i n : Int} (e : L2.atI ns i = some n) : L2.atI (ns.map V.int) i = some (.int n) := by
  unfold L2.atI at e ⊢
  rw [List.length_map]
  cases z : ixN ns.length i with
  | none => rw [z] at e; cases e
  | some j =>
    rw [z] at e
    show (ns.map V.int)[j]? = _
    have e : ns[j]? = some n := e
    rw [List.getElem?_map, e]
    rfl
theorem de_ix {a b : Expr} {fa fb : ED} {pos : Pos} (ha : DE .b c a fa) (hb : DE .b c b fb) (hs : PlainIx b := by intro _ _; rfl) : DE .z c (.Subscript a b pos) (e2 ixD fa fb) := by
  obtain ⟨ta, pa, qa⟩ := ha
  obtain ⟨tb, pb, qb⟩ := hb
  refine de_mk (pe_ix ix_seq pa pb hs) fun g H s σ τ Q o h => qa g H s σ τ _ o (Pg.seq h fun x s1 g1 H1 er e1 w1 h1 v rx0 => qb g1 H1 s1 σ τ _ (o.ext e1 w1) (Pg.seq h1 fun y s2 g2 H2 er' e2 w2 h2 u ry => ?_))
  clear er er'
  obtain ⟨d, ed, k⟩ := h2.opt
  have rx := rx0.extB (H1 := H1) e2
  clear rx0
  have kk : ∀ v, Rep c.X.K g2 v d → Q v H2 := fun v r => k g2 H2 (Ext.refl _ _) w2 v r
  unfold ixD at ed
  split at ed
  · obtain ⟨a, xs, rfl, q1, r1⟩ := rx.lst w2
    obtain ⟨v, q2, r2⟩ := r1.atI ed
    exact .inl ⟨a, xs, _, v, rfl, ry.int, SqL.of q1, q2, kk v r2⟩
  · obtain ⟨a, xs, rfl, q1, r1⟩ := rx.tup w2
    obtain ⟨v, q2, r2⟩ := r1.atI ed
    exact .inr (.inl ⟨a, xs, _, v, rfl, ry.int, q1, q2, kk v r2⟩)
  · rename_i x i
    split at ed
    · rename_i hz
      cases z : L2.atI x.cps.toList i with
      | none => rw [z] at ed; cases ed
      | some m =>
        rw [z] at ed
        cases ed
        exact .inr (.inr ⟨x, i, m, rx.str, ry.int, small_line hz, z, kk _ (.str _)⟩)
    · cases ed
  · rename_i ns i
    cases z : L2.atI ns i with
    | none => rw [z] at ed; cases ed
    | some m =>
      rw [z] at ed
      cases ed
      obtain ⟨a, rfl, q1⟩ := rx.scr w2
      exact .inl ⟨a, _, i, _, rfl, ry.int, q1, atI_map z, kk _ (.int m)⟩
  · cases ed
/-! ### slices -/
abbrev OD := Ev → M (Option Int)
def oNone : OD := fun _ => M.ret none
def toI : D → M (Option Int)
  | .int i => M.ret (some i)
  | _ => fun _ => .no
def oSome (f : ED) : OD := fun τ s => (f τ s).bind toI
def DO (c : Ctx) (e : Option Expr) (f : OD) : Prop := ∃ t : TO, PO c.X e t ∧ ∀ g H s σ τ Q, Ok c g H s σ τ → Pg c g H (fun b _ _ H' => Q b H') (f τ s) → t σ H Q
theorem do_none : DO c none oNone := ⟨tNoPart, po_none, fun g H s σ τ Q o h => Pg.now h o.wf⟩
theorem do_some {e : Expr} {f : ED} (h : DE .b c e f) : DO c (some e) (oSome f) := by
  obtain ⟨t, p, q⟩ := h
  refine ⟨tPart t, po_some p, fun g H s σ τ Q o h => q g H s σ τ _ o (Pg.seq h fun x s1 g1 H1 _ e1 w1 h1 v rx => ?_)⟩
  cases x with
  | int i => exact ⟨i, rx.int, Pg.now h1 w1⟩
  | _ => exact h1.elim
def cutD (xs : List D) (lo hi : Option Int) : List D := (xs.drop (HT.sIx xs.length 0 lo)).take (HT.sIx xs.length xs.length hi - HT.sIx xs.length 0 lo)
theorem Reps.cut {K : PySem.W.Frag} {g : Gh} {xs : List V} {ds : List D} (r : Reps K g xs ds) (lo hi : Option Int) : Reps K g (cutV xs lo hi) (cutD ds lo hi) := by
  unfold cutV cutD
  rw [r.length]
  exact (r.drop _).take _
def slD (x : D) (lo hi : Option Int) : Option D := match x with
  | .lst xs => some (.lst (cutD xs lo hi))
  | .str z => if small z.length then some (.str (cutS z lo hi)) else none
  | .tup xs => some (.tup (cutD xs lo hi))
  | _ => none
def eSl (a : ED) (lo hi : OD) : ED := fun τ s => (a τ s).bind fun x s => (lo τ s).bind fun l s => (hi τ s).bind fun u => M.opt (slD x l u)
theorem de_slice {e : Expr} {lo hi : Option Expr} {f : ED} {fl fh : OD} {pos p2 : Pos} (he : DE .b c e f) (hl : DO c lo fl) (hh : DO c hi fh) : DE .o c (.Subscript e (.Slice lo hi none p2) pos) (eSl f fl fh) := by
  obtain ⟨t, p, q⟩ := he
  obtain ⟨tl, pl, ql⟩ := hl
  obtain ⟨th, ph, qh⟩ := hh
  refine de_mk (pe_slice (sl_list.or (sl_str.or sl_tupA)) p pl ph) fun g H s σ τ Q o h => q g H s σ τ _ o (Pg.seq h fun x s1 g1 H1 er e1 w1 h1 v rx0 => ql g1 H1 s1 σ τ _ (o.ext e1 w1) (Pg.seq h1 fun l s2 g2 H2 _ e2 w2 h2 => qh g2 H2 s2 σ τ _ ((o.ext e1 w1).ext e2 w2) (Pg.seq h2 fun u s3 g3 H3 _ e3 w3 h3 => ?_)))
  clear er
  obtain ⟨d, ed, k⟩ := h3.opt
  have rx := rx0.extB (H1 := H1) (e2.trans e3)
  clear rx0
  have kk : Wt c g3 H3 s3 d Q := fun v' g' H' e' w' r' => k g' H' e' w' v' (r'.ext (Ext.refl _ _) fun p q => ((e1.trans e2).trans e3).fresh q)
  unfold slD at ed
  split at ed
  · cases ed
    obtain ⟨a, xs, rfl, q1, r1⟩ := rx.lst w3
    exact .inl ⟨a, xs, rfl, SqL.of q1, fun p hp => kk.lst w3 (r1.cut l u) hp⟩
  · split at ed
    · rename_i hz
      cases ed
      exact .inr (.inl ⟨_, rx.str, small_line hz, kk.here w3 (.str _)⟩)
    · cases ed
  · rename_i ds
    cases ed
    have rr := rx.rep
    obtain ⟨a, xs, rfl, q1, r1⟩ := rx.tup w3
    refine .inr (.inr ⟨a, xs, rfl, q1, fun z => ?_, fun z p hp => kk.tup w3 (r1.cut l u) hp⟩)
    have : cutD ds l u = ds := by
      unfold cutD
      rw [r1.length] at z
      rw [z.1, z.2, List.drop_zero, Nat.sub_zero, List.take_length]
    rw [this] at kk
    exact kk.here w3 rr
  · cases ed
end
end Mir

set_option Elab.async false
set_option linter.all false
set_option maxRecDepth 100000
set_option maxHeartbeats 4000000
/-! Mir, part H: what is built in, further walks. -/
namespace Mir
open PySem PySem.Spec PyProof.Rows L2
section
variable {c : Ctx}
theorem RKs.one {k : Kd} {K : PySem.W.Frag} {g : Gh} {H0 H : Hp} {vs : List V} {d : D} (h : RKs k K g H0 H vs [d]) : ∃ v, vs = [v] ∧ RK k K g H0 H v d := by
  cases h with
  | cons h r => cases r; exact ⟨_, rfl, h⟩
theorem RKs.two {k : Kd} {K : PySem.W.Frag} {g : Gh} {H0 H : Hp} {vs : List V} {d e : D} (h : RKs k K g H0 H vs [d, e]) : ∃ v u, vs = [v, u] ∧ RK k K g H0 H v d ∧ RK k K g H0 H u e := by
  cases h with
  | cons h r =>
    cases r with
    | cons h' r => cases r; exact ⟨_, _, rfl, h, h'⟩
/-! ### calls -/
def lenD : List D → Option D
  | [.str x] => if small x.length then some (.int x.length) else none
  | [.lst xs] => some (.int xs.length)
  | [.tup xs] => some (.int xs.length)
  | [.scr xs] => some (.int xs.length)
  | _ => none
theorem cd_len : CallD c (.builtin "len") lenD := by
  refine ⟨_, call_len, fun g H s xs ds d Q w rs e k => ?_⟩
  unfold lenD at e
  split at e
  · split at e
    · rename_i x hz
      cases e
      obtain ⟨v, rfl, r⟩ := rs.one
      exact ⟨v, x.length, rfl, by rw [r.str]; exact ⟨small_line hz, rfl⟩, k.here w (.int _)⟩
    · cases e
  · rename_i ys
    cases e
    obtain ⟨v, rfl, r⟩ := rs.one
    obtain ⟨a, us, rfl, h1, r1⟩ := r.lst w
    exact ⟨_, ys.length, rfl, .inl ⟨us, SqL.of h1, r1.length.symm⟩, k.here w (.int _)⟩
  · rename_i ys
    cases e
    obtain ⟨v, rfl, r⟩ := rs.one
    obtain ⟨a, us, rfl, h1, r1⟩ := r.tup w
    exact ⟨_, ys.length, rfl, .inr ⟨us, h1, r1.length.symm⟩, k.here w (.int _)⟩
  · rename_i ns
    cases e
    obtain ⟨v, rfl, r⟩ := rs.one
    obtain ⟨a, rfl, h1⟩ := r.scr w
    exact ⟨_, ns.length, rfl, .inl ⟨_, h1, by rw [List.length_map]⟩, k.here w (.int _)⟩
  · cases e
def bls : List D → Option (List Bool)
  | [] => some []
  | .bl b :: ds => (bls ds).map (b :: ·)
  | _ => none
theorem Reps.bls {K : PySem.W.Frag} {g : Gh} : ∀ {vs : List V} {ds : List D} {bs : List Bool}, Reps K g vs ds → Mir.bls ds = some bs → vs = bs.map V.bl
  | _, _, _, .nil, e => by cases e; rfl
  | _, .bl b :: ds, bs, .cons h r, e => by
    have e : (Mir.bls ds).map (b :: ·) = some bs := e
    cases z : Mir.bls ds with
    | none => rw [z] at e; cases e
    | some bs' =>
      rw [z] at e
      cases e
      cases h
      rw [Reps.bls r z]
      rfl
def intsOf : List D → Option (List Int)
  | [] => some []
  | .int b :: ds => (intsOf ds).map (b :: ·)
  | _ => none
theorem Reps.intsOf {K : PySem.W.Frag} {g : Gh} : ∀ {vs : List V} {ds : List D} {bs : List Int}, Reps K g vs ds → Mir.intsOf ds = some bs → vs = bs.map V.int
  | _, _, _, .nil, e => by cases e; rfl
  | _, .int b :: ds, bs, .cons h r, e => by
    have e : (Mir.intsOf ds).map (b :: ·) = some bs := e
    cases z : Mir.intsOf ds with
    | none => rw [z] at e; cases e
    | some bs' =>
      rw [z] at e
      cases e
      cases h
      rw [Reps.intsOf r z]
      rfl
def strs' : List D → Option (List Str)
  | [] => some []
  | .str b :: ds => (strs' ds).map (b :: ·)
  | _ => none
theorem Reps.strs' {K : PySem.W.Frag} {g : Gh} : ∀ {vs : List V} {ds : List D} {bs : List Str}, Reps K g vs ds → Mir.strs' ds = some bs → vs = bs.map V.str
  | _, _, _, .nil, e => by cases e; rfl
  | _, .str b :: ds, bs, .cons h r, e => by
    have e : (Mir.strs' ds).map (b :: ·) = some bs := e
    cases z : Mir.strs' ds with
    | none => rw [z] at e; cases e
    | some bs' =>
      rw [z] at e
      cases e
      cases h
      rw [Reps.strs' r z]
      rfl
theorem reps_strs {K : PySem.W.Frag} {g : Gh} : ∀ ys : List Str, Reps K g (ys.map V.str) (ys.map D.str)
  | [] => .nil
  | y :: ys => .cons (.str y) (reps_strs ys)
theorem reps_ints {K : PySem.W.Frag} {g : Gh} : ∀ ys : List Int, Reps K g (ys.map V.int) (ys.map D.int)
  | [] => .nil
  | y :: ys => .cons (.int y) (reps_ints ys)
def allD : List D → Option D
  | [.lst ds] => (bls ds).map fun bs => .bl (bs.all id)
  | _ => none
def anyD : List D → Option D
  | [.lst ds] => (bls ds).map fun bs => .bl (bs.any id)
  | _ => none
theorem cd_all (hc : c.X.calm = true := by rfl) : CallD c (.builtin "all") allD := by
  refine ⟨_, cr_all hc, fun g H s xs ds d Q w rs e k => ?_⟩
  unfold allD at e
  split at e
  · rename_i ys
    cases z : bls ys with
    | none => rw [z] at e; cases e
    | some bs =>
      rw [z] at e
      cases e
      obtain ⟨v, rfl, r⟩ := rs.one
      obtain ⟨a, us, rfl, h1, r1⟩ := r.lst w
      rw [r1.bls z] at h1
      exact ⟨a, bs, rfl, SqL.of h1, k.here w (.bl _)⟩
  · cases e
theorem cd_any (hc : c.X.calm = true := by rfl) : CallD c (.builtin "any") anyD := by
  refine ⟨_, cr_any hc, fun g H s xs ds d Q w rs e k => ?_⟩
  unfold anyD at e
  split at e
  · rename_i ys
    cases z : bls ys with
    | none => rw [z] at e; cases e
    | some bs =>
      rw [z] at e
      cases e
      obtain ⟨v, rfl, r⟩ := rs.one
      obtain ⟨a, us, rfl, h1, r1⟩ := r.lst w
      rw [r1.bls z] at h1
      exact ⟨a, bs, rfl, SqL.of h1, k.here w (.bl _)⟩
  · cases e
def strOfD : List D → Option D
  | [.int i] => if decide (i.natAbs.log2 < 1920) then some (.str (toString i)) else none
  | _ => none
theorem cd_str : CallD c (.type "str") strOfD := by
  refine ⟨_, call_str_int, fun g H s xs ds d Q w rs e k => ?_⟩
  unfold strOfD at e
  split at e
  · split at e
    · rename_i hz
      cases e
      exact ⟨_, rs.ints1, of_decide_eq_true hz, k.here w (.str _)⟩
    · cases e
  · cases e
def intOfD : List D → Option D
  | [.int i] => some (.int i)
  | [.bl b] => some (.int (if b then 1 else 0))
  | _ => none
theorem cd_int0 : CallD c (.type "int") intOfD := by
  refine ⟨_, call_int1, fun g H s xs ds d Q w rs e k => ?_⟩
  unfold intOfD at e
  split at e
  · cases e
    exact .inl ⟨_, rs.ints1, k.here w (.int _)⟩
  · cases e
    obtain ⟨v, rfl, r⟩ := rs.one
    exact .inr ⟨_, by rw [r.bl], k.here w (.int _)⟩
  · cases e
def intTxD : List D → Option D
  | [.str x] => if decide (x.length ≤ 640) then (PySem.intText? x).map .int else none
  | _ => none
theorem cd_intT : CallD c (.type "int") intTxD := by
  refine ⟨_, call_int_str, fun g H s xs ds d Q w rs e k => ?_⟩
  unfold intTxD at e
  split at e
  · rename_i x
    split at e
    · rename_i hz
      cases z : PySem.intText? x with
      | none => rw [z] at e; cases e
      | some n =>
        rw [z] at e
        cases e
        obtain ⟨v, rfl, r⟩ := rs.one
        exact ⟨x, n, by rw [r.str], z, of_decide_eq_true hz, k.here w (.int _)⟩
    · cases e
  · cases e
def intD : List D → Option D := or1 intOfD intTxD
theorem cd_int : CallD c (.type "int") intD := cd_int0.or cd_intT
def max2D : List D → Option D
  | [.int i, .int j] => some (.int (if j > i then j else i))
  | _ => none
def min2D : List D → Option D
  | [.int i, .int j] => some (.int (if j < i then j else i))
  | _ => none
theorem cd_max2 (hc : c.X.calm = true := by rfl) : CallD c (.builtin "max") max2D := by
  refine ⟨_, call_max2 hc, fun g H s xs ds d Q w rs e k => ?_⟩
  unfold max2D at e
  split at e
  · cases e
    exact ⟨_, _, rs.ints2, k.here w (.int _)⟩
  · cases e
theorem cd_min2 (hc : c.X.calm = true := by rfl) : CallD c (.builtin "min") min2D := by
  refine ⟨_, call_min2 hc, fun g H s xs ds d Q w rs e k => ?_⟩
  unfold min2D at e
  split at e
  · cases e
    exact ⟨_, _, rs.ints2, k.here w (.int _)⟩
  · cases e
/-- the least, the greatest of a list -/
def minL : List Int → Option Int
  | [] => none
  | x :: xs => some (xs.foldl min x)
def maxL : List Int → Option Int
  | [] => none
  | x :: xs => some (xs.foldl max x)
theorem foldl_min_le : ∀ (xs : List Int) (x : Int), xs.foldl min x ≤ x ∧ (∀ y ∈ xs, xs.foldl min x ≤ y) ∧ (xs.foldl min x = x ∨ xs.foldl min x ∈ xs)
  | [], x => ⟨Int.le_refl _, fun _ h => (nomatch h), .inl rfl⟩
  | y :: ys, x => by
    obtain ⟨h1, h2, h3⟩ := foldl_min_le ys (min x y)
    rw [List.foldl_cons]
    refine ⟨by omega, fun z hz => ?_, ?_⟩
    · rcases List.mem_cons.mp hz with rfl | hz
      · omega
      · exact h2 z hz
    · rcases h3 with h3 | h3
      · by_cases q : x ≤ y
        · exact .inl (by omega)
        · exact .inr (List.mem_cons.mpr (.inl (by omega)))
      · exact .inr (List.mem_cons_of_mem _ h3)
theorem foldl_max_le : ∀ (xs : List Int) (x : Int), x ≤ xs.foldl max x ∧ (∀ y ∈ xs, y ≤ xs.foldl max x) ∧ (xs.foldl max x = x ∨ xs.foldl max x ∈ xs)
  | [], x => ⟨Int.le_refl _, fun _ h => (nomatch h), .inl rfl⟩
  | y :: ys, x => by
    obtain ⟨h1, h2, h3⟩ := foldl_max_le ys (max x y)
    rw [List.foldl_cons]
    refine ⟨by omega, fun z hz => ?_, ?_⟩
    · rcases List.mem_cons.mp hz with rfl | hz
      · omega
      · exact h2 z hz
    · rcases h3 with h3 | h3
      · by_cases q : y ≤ x
        · exact .inl (by omega)
        · exact .inr (List.mem_cons.mpr (.inl (by omega)))
      · exact .inr (List.mem_cons_of_mem _ h3)
theorem minL_eq {ns : List Int} {m k : Int} (h : minL ns = some k) (hm : m ∈ ns) (hl : ∀ y ∈ ns, m ≤ y) : m = k := by
  cases ns with
  | nil => cases h
  | cons x xs =>
    cases h
    obtain ⟨h1, h2, h3⟩ := foldl_min_le xs x
    have a : m ≤ xs.foldl min x := by
      rcases h3 with h3 | h3
      · rw [h3]; exact hl x List.mem_cons_self
      · exact hl _ (List.mem_cons_of_mem _ h3)
    rcases List.mem_cons.mp hm with rfl | hm
    · omega
    · have := h2 m hm; omega
theorem maxL_eq {ns : List Int} {m k : Int} (h : maxL ns = some k) (hm : m ∈ ns) (hl : ∀ y ∈ ns, y ≤ m) : m = k := by
  cases ns with
  | nil => cases h
  | cons x xs =>
    cases h
    obtain ⟨h1, h2, h3⟩ := foldl_max_le xs x
    have a : xs.foldl max x ≤ m := by
      rcases h3 with h3 | h3
      · rw [h3]; exact hl x List.mem_cons_self
      · exact hl _ (List.mem_cons_of_mem _ h3)
    rcases List.mem_cons.mp hm with rfl | hm
    · omega
    · have := h2 m hm; omega
def minLD : List D → Option D
  | [.lst ds] => match intsOf ds with
    | some ns => (minL ns).map .int
    | none => none
  | _ => none
def maxLD : List D → Option D
  | [.lst ds] => match intsOf ds with
    | some ns => (maxL ns).map .int
    | none => none
  | _ => none
theorem cd_minL (hc : c.X.calm = true := by rfl) : CallD c (.builtin "min") minLD := by
  refine ⟨_, cr_min hc, fun g H s xs ds d Q w rs e k => ?_⟩
  unfold minLD at e
  split at e
  · rename_i ys
    cases z : intsOf ys with
    | none => rw [z] at e; cases e
    | some ns =>
      rw [z] at e
      dsimp only at e
      cases z2 : minL ns with
      | none => rw [z2] at e; cases e
      | some m0 =>
        rw [z2] at e
        cases e
        obtain ⟨v, rfl, r⟩ := rs.one
        obtain ⟨a, us, rfl, h1, r1⟩ := r.lst w
        rw [r1.intsOf z] at h1
        refine ⟨a, ns, rfl, SqL.of h1, ?_, fun m hm hl => ?_⟩
        · cases ns with
          | nil => cases z2
          | cons _ _ => exact Nat.succ_pos _
        · rw [minL_eq z2 hm hl]
          exact k.here w (.int _)
  · cases e
theorem cd_maxL (hc : c.X.calm = true := by rfl) : CallD c (.builtin "max") maxLD := by
  refine ⟨_, cr_max hc, fun g H s xs ds d Q w rs e k => ?_⟩
  unfold maxLD at e
  split at e
  · rename_i ys
    cases z : intsOf ys with
    | none => rw [z] at e; cases e
    | some ns =>
      rw [z] at e
      dsimp only at e
      cases z2 : maxL ns with
      | none => rw [z2] at e; cases e
      | some m0 =>
        rw [z2] at e
        cases e
        obtain ⟨v, rfl, r⟩ := rs.one
        obtain ⟨a, us, rfl, h1, r1⟩ := r.lst w
        rw [r1.intsOf z] at h1
        refine ⟨a, ns, rfl, SqL.of h1, ?_, fun m hm hl => ?_⟩
        · cases ns with
          | nil => cases z2
          | cons _ _ => exact Nat.succ_pos _
        · rw [maxL_eq z2 hm hl]
          exact k.here w (.int _)
  · cases e
def minD : List D → Option D := or1 min2D minLD
def maxD : List D → Option D := or1 max2D maxLD
theorem cd_min (hc : c.X.calm = true := by rfl) : CallD c (.builtin "min") minD := (cd_min2 hc).or (cd_minL hc)
theorem cd_max (hc : c.X.calm = true := by rfl) : CallD c (.builtin "max") maxD := (cd_max2 hc).or (cd_maxL hc)
def ordD : List D → Option D
  | [.str x] => if decide (x.length = 1) then some (.int (x.cps.getD 0 0 : Nat)) else none
  | _ => none
theorem cd_ord : CallD c (.builtin "ord") ordD := by
  refine ⟨_, call_ord, fun g H s xs ds d Q w rs e k => ?_⟩
  unfold ordD at e
  split at e
  · split at e
    · rename_i hz
      cases e
      obtain ⟨v, rfl, r⟩ := rs.one
      exact ⟨_, by rw [r.str], of_decide_eq_true hz, k.here w (.int _)⟩
    · cases e
  · cases e
def tupD : List D → Option D
  | [.lst xs] => some (.tup xs)
  | [.tup xs] => some (.tup xs)
  | _ => none
theorem cd_tup : CallD c (.type "tuple") tupD := by
  refine ⟨_, call_tuple_of, fun g H s xs ds d Q w rs e k => ?_⟩
  unfold tupD at e
  split at e
  · cases e
    obtain ⟨v, rfl, r⟩ := rs.one
    obtain ⟨a, us, rfl, h1, r1⟩ := r.lst w
    exact ⟨a, us, rfl, .inl ⟨SqL.of h1, fun l hl => k.tup w r1 hl⟩⟩
  · cases e
    obtain ⟨v, rfl, r⟩ := rs.one
    have rr := r.rep
    obtain ⟨a, us, rfl, h1, r1⟩ := r.tup w
    exact ⟨a, us, rfl, .inr ⟨h1, k.here w rr⟩⟩
  · cases e
def lstD : List D → Option D
  | [.lst xs] => some (.lst xs)
  | [.tup xs] => some (.lst xs)
  | _ => none
theorem cd_list : CallD c (.type "list") lstD := by
  refine ⟨_, call_list_of, fun g H s xs ds d Q w rs e k => ?_⟩
  unfold lstD at e
  split at e
  · cases e
    obtain ⟨v, rfl, r⟩ := rs.one
    obtain ⟨a, us, rfl, h1, r1⟩ := r.lst w
    exact ⟨a, us, rfl, .inl (SqL.of h1), fun l hl => k.lst w r1 hl⟩
  · cases e
    obtain ⟨v, rfl, r⟩ := rs.one
    obtain ⟨a, us, rfl, h1, r1⟩ := r.tup w
    exact ⟨a, us, rfl, .inr h1, fun l hl => k.lst w r1 hl⟩
  · cases e
/-! ### methods of texts, of lists -/
theorem RK.sing {g : Gh} {H : Hp} {x : V} {z : Str} (r : RK .b c.X.K g H H x (.str z)) : x = .str z := r.str
def mS1 (g : Str → Str → Option D) : D → List D → Option D
  | .str x, [.str y] => g x y
  | _, _ => none
def splitD : D → List D → Option D := mS1 fun x y => if (y.length != 0) && small (x.length + 2) then some (.lst ((Txt.split x y).map .str)) else none
theorem md_split : MtD c "str.split" splitD := by
  refine ⟨_, mt_split, fun g H s x xs dx ds d Q w rx rs e k => ?_⟩
  unfold splitD mS1 at e
  split at e
  · dsimp only at e
    split at e
    · rename_i hz
      cases e
      obtain ⟨v, rfl, r⟩ := rs.one
      have hz := Bool.and_eq_true_iff.mp hz
      refine ⟨_, _, rx.str, by rw [r.str], by simpa using hz.1, small_line hz.2, fun p hp => k.lst w (reps_strs _) hp⟩
    · cases e
  · cases e
def stripD : D → List D → Option D := mS1 fun x y => if small x.length then some (.str (Txt.stripChars x y)) else none
theorem md_strip : MtD c "str.strip" stripD := by
  refine ⟨_, mt_stripChars, fun g H s x xs dx ds d Q w rx rs e k => ?_⟩
  unfold stripD mS1 at e
  split at e
  · dsimp only at e
    split at e
    · rename_i hz
      cases e
      obtain ⟨v, rfl, r⟩ := rs.one
      exact ⟨_, _, rx.str, by rw [r.str], small_line hz, k.here w (.str _)⟩
    · cases e
  · cases e
def findD : D → List D → Option D := mS1 fun x y => some (.int (Txt.find x y))
theorem md_find : MtD c "str.find" findD := by
  refine ⟨_, mt_find, fun g H s x xs dx ds d Q w rx rs e k => ?_⟩
  unfold findD mS1 at e
  split at e
  · cases e
    obtain ⟨v, rfl, r⟩ := rs.one
    exact ⟨_, _, rx.str, by rw [r.str], k.here w (.int _)⟩
  · cases e
def startsD : D → List D → Option D := mS1 fun x y => some (.bl (Txt.startswith x y))
theorem md_starts : MtD c "str.startswith" startsD := by
  refine ⟨_, mt_startswith, fun g H s x xs dx ds d Q w rx rs e k => ?_⟩
  unfold startsD mS1 at e
  split at e
  · cases e
    obtain ⟨v, rfl, r⟩ := rs.one
    exact ⟨_, _, rx.str, by rw [r.str], k.here w (.bl _)⟩
  · cases e
def joinD : D → List D → Option D
  | .str x, [.lst ds] => match strs' ds with
    | some ys => if decide ((ys.map (·.length)).sum + ys.length * x.length ≤ 16777216) then some (.str (Txt.join x ys)) else none
    | none => none
  | _, _ => none
theorem md_join : MtD c "str.join" joinD := by
  refine ⟨_, mt_join, fun g H s x xs dx ds d Q w rx rs e k => ?_⟩
  unfold joinD at e
  split at e
  · rename_i y us
    cases z : strs' us with
    | none => rw [z] at e; cases e
    | some ys =>
      rw [z] at e
      dsimp only at e
      split at e
      · rename_i hz
        cases e
        obtain ⟨v, rfl, r⟩ := rs.one
        obtain ⟨a, us, rfl, h1, r1⟩ := r.lst w
        rw [r1.strs' z] at h1
        exact ⟨y, a, ys, rx.str, rfl, .inl (SqL.of h1), of_decide_eq_true hz, k.here w (.str _)⟩
      · cases e
  · cases e
/-- the first place of a flat thing -/
def idxV (y : V) : List V → Option Nat
  | [] => none
  | z :: zs => if eqV z y then some 0 else (idxV y zs).map (· + 1)
theorem idxV_ok {y : V} : ∀ {ys : List V} {j : Nat}, idxV y ys = some j → ∃ z, ys[j]? = some z ∧ eqV z y = true ∧ ∀ (m : Nat) (z' : V), m < j → ys[m]? = some z' → eqV z' y = false
  | z :: zs, j, e => by
    unfold idxV at e
    split at e
    · rename_i h
      cases e
      exact ⟨z, rfl, h, fun m z' hm => absurd hm (Nat.not_lt_zero m)⟩
    · rename_i h
      cases q : idxV y zs with
      | none => rw [q] at e; cases e
      | some i =>
        rw [q] at e
        cases e
        obtain ⟨u, h1, h2, h3⟩ := idxV_ok q
        refine ⟨u, h1, h2, fun m z' hm hz => ?_⟩
        cases m with
        | zero => cases hz; simpa using h
        | succ m => exact h3 m z' (Nat.lt_of_succ_lt_succ hm) hz
def indexD : D → List D → Option D
  | .lst ds, [y] => match scalDs ds, scalD y with
    | some vs, some u => (idxV u vs).map fun j => .int (j : Nat)
    | _, _ => none
  | _, _ => none
theorem md_index : MtD c "list.index" indexD := by
  refine ⟨_, mt_index, fun g H s x xs dx ds d Q w rx rs e k => ?_⟩
  unfold indexD at e
  split at e
  · rename_i us y
    split at e
    · rename_i vs u z1 z2
      cases q : idxV u vs with
      | none => rw [q] at e; cases e
      | some j =>
        rw [q] at e
        cases e
        obtain ⟨v, rfl, r⟩ := rs.one
        obtain ⟨a, ws, rfl, h1, r1⟩ := rx.lst w
        have ev := r1.scals z1
        subst ev
        obtain ⟨z, k1, k2, k3⟩ := idxV_ok q
        exact ⟨a, _, u, j, z, rfl, by rw [r.scal z2], SqL.of h1, scal_flat z2, scals_flat z1, k1, k2, k3, k.here w (.int _)⟩
    · cases e
  · cases e
/-! ### isinstance -/
def tyN : D → Option String
  | .non => some "NoneType"
  | .bl _ => some "bool"
  | .int _ => some "int"
  | .str _ => some "str"
  | .tup _ => some "tuple"
  | .lst _ => some "list"
  | .dct _ => some "dict"
  | _ => none
def isiD (T : String) : D → Option D := fun d => match tyN d with
  | some t => (kitB t T).map .bl
  | none => none
theorem RK.tyx {T : List (Addr × Str)} {g : Gh} {H : Hp} {s : Sto} {v : V} {d : D} {t : String} (w : WF c.X.K T g H s) (r : RK .b c.X.K g H H v d) (e : tyN d = some t) : TyX c.X.K H v (.type t) := by
  cases d with
  | non => cases e; rw [r.non]; exact .base .non
  | bl b => cases e; rw [r.bl]; exact .base (.bl b)
  | int b => cases e; rw [r.int]; exact .base (.int b)
  | str b => cases e; rw [r.str]; exact .base (.str b)
  | tup ds =>
    cases e
    obtain ⟨a, xs, rfl, h1, _⟩ := r.tup w
    rcases h1 with (h1 | ⟨o, h1⟩) | ⟨o, its, n, h1, h2, _⟩
    · exact .base (.tup h1)
    · exact .fTuple h1
    · exact .kTuple h1 h2
  | lst ds =>
    cases e
    obtain ⟨a, xs, rfl, h1, _⟩ := r.lst w
    exact .base (.lst h1)
  | dct ds =>
    cases e
    obtain ⟨a, ks, xs, es, rfl, _, h1, _⟩ := r.dct w
    exact .base (.dK h1)
  | scr _ => cases e
  | obj _ => cases e
  | exc _ => cases e
theorem de_isi {e : Expr} {f : ED} {x : Str} {T : String} {p p2 pos : Pos} (he : DE .b c e f) (hm : c.X.mg "isinstance" = none) (hmT : c.X.mg x = none) (hT : bootBuiltins x = some (.type T)) (hg : Gl c.X "isinstance" := by rfl) (hgT : Gl c.X x := by rfl)
    (hn : x ≠ "__name__" := by decide) (hdb : (x == ("__debug__" : Str)) = false := by decide)
    (hs : starEach [e, .Name x p2] c.X.env = (false, eval e c.X.env) :: starEach [.Name x p2] c.X.env := by rfl) (hs2 : starEach [.Name x p2] c.X.env = (false, eval (.Name x p2) c.X.env) :: starEach [] c.X.env := by rfl) (hpl : (backTo pos (starEach [.Name x p2] c.X.env)).any (·.1) = false := by rfl) :
    DE .o c (.Call (.Name "isinstance" p) [e, .Name x p2] [] pos) (e1 (isiD T) f) := by
  obtain ⟨t, pt, qt⟩ := he
  refine de_mk (pe_callB call_isi hg hm (by decide +kernel) (pa_cons pt (pa_cons (pe_bltn (v := .ty T) hgT hmT hT rfl hn hdb) pa_nil hs2) hs) (by decide) (by decide) hs hpl) fun g H s σ τ Q o h => qt g H s σ τ _ o (Pg.seq h fun d s1 g1 H1 _ e1 w1 h1 v rv => ?_)
  obtain ⟨d', ed, k⟩ := h1.opt
  unfold isiD at ed
  split at ed
  · rename_i t z
    cases q : kitB t T with
    | none => rw [q] at ed; cases ed
    | some b =>
      rw [q] at ed
      cases ed
      exact ⟨v, .ty T, .type t, .type T, b, rfl, .ty T, rv.tyx w1 z, kit_ty q, k g1 H1 (Ext.refl _ _) w1 _ (.of (.bl b))⟩
  · cases ed
/-! ### further walks -/
def iStrD (f : ED) : AD := fun τ s => (f τ s).bind fun d => match d with
  | .str x => M.ret (x.cps.toList.map fun k => .str ⟨#[k]⟩)
  | _ => fun _ => .no
theorem di_str {tg e : Expr} {f : ED} {k : Kd} (h : DE k c e f) : DI c tg e (iStrD f) := by
  obtain ⟨t, p, q⟩ := h
  refine ⟨iStr t, pi_str p, fun g H s σ τ R o h => q g H s σ τ _ o (Pg.seq h fun d s1 g1 H1 _ e1 w1 h1 v rv => ?_)⟩
  cases d with
  | str x =>
    have hsz : x.cps.toList.length = x.cps.size := by simp
    refine ⟨x, rv.str, Pg.now h1 w1 _ ⟨fun i d hd g2 H2 s2 l2 w2 => ?_, fun g2 H2 s2 l2 w2 => ?_⟩⟩
    · rw [List.getElem?_map] at hd
      cases z : x.cps.toList[i]? with
      | none => rw [z] at hd; cases hd
      | some m =>
        rw [z] at hd
        cases hd
        have hlt := (List.getElem?_eq_some_iff.mp z).1
        refine ⟨by show i < x.cps.size; omega, fun y H3 hy => ⟨g2, by rw [hy.1]; exact Ext.refl _ _, by rw [hy.1]; exact w2, ?_⟩⟩
        obtain ⟨m', hm, rfl⟩ := hy.2
        have : x.cps[i]? = some m := by rw [← Array.getElem?_toList]; exact z
        rw [this] at hm; cases hm
        exact .str _
    · show x.cps.size ≤ _
      rw [List.length_map]; omega
  | _ => exact h1.elim
def pairs : List D → List D → List D
  | x :: xs, y :: ys => .tup [x, y] :: pairs xs ys
  | _, _ => []
theorem pairs_get : ∀ (xs ys : List D) (i : Nat) (d : D), (pairs xs ys)[i]? = some d → ∃ x y, xs[i]? = some x ∧ ys[i]? = some y ∧ d = .tup [x, y]
  | [], _, _, _, h => by simp [pairs] at h
  | _ :: _, [], _, _, h => by simp [pairs] at h
  | x :: xs, y :: ys, 0, d, h => by simp [pairs] at h; exact ⟨x, y, rfl, rfl, h.symm⟩
  | x :: xs, y :: ys, i + 1, d, h => pairs_get xs ys i d (by simpa [pairs] using h)
theorem pairs_len : ∀ (xs ys : List D), (pairs xs ys).length = min xs.length ys.length
  | [], _ => by simp [pairs]
  | _ :: _, [] => by simp [pairs]
  | x :: xs, y :: ys => by simp [pairs, pairs_len xs ys]
def zipD : List D → Option (List D)
  | [.lst xs, .lst ys] => some (pairs xs ys)
  | _ => none
theorem gives_new {g1 g2 g3 : Gh} {H2 H3 : Hp} {s : Sto} {T : Addr} {xs : List V} {ds : List D} (w2 : WF c.X.K c.T g2 H2 s) (hT : H2 T = none) (r : Reps c.X.K g2 xs ds) (e : H3 = upd H2 T (.tup xs)) :
    ∃ g3, Ext g2 H2 g3 H3 ∧ WF c.X.K c.T g3 H3 s ∧ Rep c.X.K g3 (.ref T) (.tup ds) := by
  subst e
  exact ⟨_, w2.extF hT, w2.newF hT fun ps => by simp, .tup (SqT.of Gh.frz_at) (r.mono (Gh.frz_le (.inl (w2.gne hT))))⟩
theorem Rep.lstG {K : PySem.W.Frag} {g : Gh} {v : V} {ds : List D} (h : Rep K g v (.lst ds)) : ∃ a xs, v = .ref a ∧ g.G a = some (.lst xs) ∧ Reps K g xs ds := by
  cases h with
  | lst h r => exact ⟨_, _, rfl, h, r⟩
theorem di_zip {e e2 : Expr} {f : AD} {elts : List Expr} {kk : Nat} {p pos tpos : Pos} (ha : DA .z c [e, e2] f) (hm : c.X.mg "zip" = none) (hg : Gl c.X "zip" := by rfl)
    (hs : starEach [e, e2] c.X.env = (false, eval e c.X.env) :: starEach [e2] c.X.env := by rfl) (hpl : (backTo pos (starEach [e2] c.X.env)).any (·.1) = false := by rfl) : DI c (.Tuple elts kk tpos) (.Call (.Name "zip" p) [e, e2] [] pos) (iN zipD f) := by
  obtain ⟨t, pt, qt⟩ := ha
  refine ⟨iZip c.X.K t, pi_zip hg hm pt hs hpl, fun g H s σ τ R o h => qt g H s σ τ _ o (Pg.seq h fun xs s1 g1 H1 er e1 w1 h1 vs rs => ?_)⟩
  clear er
  obtain ⟨b, eb, k⟩ := h1.opt
  unfold zipD at eb
  split at eb
  · rename_i xs ys
    cases eb
    obtain ⟨v, u, rfl, r1, r2⟩ := rs.two
    obtain ⟨a, us, rfl, h1, q1⟩ := Rep.lstG r1
    obtain ⟨a', us', rfl, h2, q2⟩ := Rep.lstG r2
    refine ⟨a, a', us, us', rfl, SqL.of (w1.sub _ _ h1), SqL.of (w1.sub _ _ h2), k g1 H1 (Ext.refl _ _) w1 _ ⟨fun i d hd g2 H2 s2 l2 w2 => ?_, fun g2 H2 s2 l2 w2 => ?_⟩⟩
    · obtain ⟨x, y, hx, hy, rfl⟩ := pairs_get xs ys i d hd
      obtain ⟨vx, hvx, rx⟩ := q1.get hx
      obtain ⟨vy, hvy, ry⟩ := q2.get hy
      have sa : SqL c.X.K H2 a us := SqL.of (w2.sub _ _ (l2.G _ _ h1))
      have sb : SqL c.X.K H2 a' us' := SqL.of (w2.sub _ _ (l2.G _ _ h2))
      refine ⟨⟨us, us', vx, vy, sa, sb, hvx, hvy⟩, fun z H3 hz => ?_⟩
      obtain ⟨T, x1, x2, rfl, hT, e3, f1, f2⟩ := hz
      have z1 := f1 us sa
      have z2 := f2 us' sb
      rw [hvx] at z1; cases z1
      rw [hvy] at z2; cases z2
      exact gives_new (g1 := g1) (g3 := g1) w2 hT (.cons (rx.mono l2) (.cons (ry.mono l2) .nil)) e3
    · refine ⟨us, us', SqL.of (w2.sub _ _ (l2.G _ _ h1)), SqL.of (w2.sub _ _ (l2.G _ _ h2)), ?_⟩
      rw [pairs_len, q1.length, q2.length]
      omega
  · cases eb
def enumFrom (n : Nat) : List D → List D
  | [] => []
  | x :: xs => .tup [.int (n : Nat), x] :: enumFrom (n + 1) xs
theorem enum_get : ∀ (xs : List D) (n i : Nat) (d : D), (enumFrom n xs)[i]? = some d → ∃ x, xs[i]? = some x ∧ d = .tup [.int ((n + i : Nat) : Int), x]
  | [], _, _, _, h => by simp [enumFrom] at h
  | x :: xs, n, 0, d, h => by simp [enumFrom] at h; exact ⟨x, rfl, by rw [← h]; simp⟩
  | x :: xs, n, i + 1, d, h => by
    obtain ⟨y, h1, h2⟩ := enum_get xs (n + 1) i d (by simpa [enumFrom] using h)
    have e : n + 1 + i = n + (i + 1) := by omega
    rw [e] at h2
    exact ⟨y, h1, h2⟩
theorem enum_len : ∀ (xs : List D) (n : Nat), (enumFrom n xs).length = xs.length
  | [], _ => rfl
  | x :: xs, n => by simp [enumFrom, enum_len xs (n + 1)]
def enumD : List D → Option (List D)
  | [.lst xs] => some (enumFrom 0 xs)
  | _ => none
theorem di_enum {e : Expr} {f : AD} {elts : List Expr} {kk : Nat} {p pos tpos : Pos} (ha : DA .z c [e] f) (hm : c.X.mg "enumerate" = none) (hg : Gl c.X "enumerate" := by rfl)
    (hs : starEach [e] c.X.env = [(false, eval e c.X.env)] := by rfl) : DI c (.Tuple elts kk tpos) (.Call (.Name "enumerate" p) [e] [] pos) (iN enumD f) := by
  obtain ⟨t, pt, qt⟩ := ha
  refine ⟨iEnum c.X.K t, pi_enum hg hm pt hs, fun g H s σ τ R o h => qt g H s σ τ _ o (Pg.seq h fun xs s1 g1 H1 er e1 w1 h1 vs rs => ?_)⟩
  clear er
  obtain ⟨b, eb, k⟩ := h1.opt
  unfold enumD at eb
  split at eb
  · rename_i xs
    cases eb
    obtain ⟨v, rfl, r1⟩ := rs.one
    obtain ⟨a, us, rfl, h1, q1⟩ := Rep.lstG r1
    refine ⟨a, us, rfl, SqL.of (w1.sub _ _ h1), k g1 H1 (Ext.refl _ _) w1 _ ⟨fun i d hd g2 H2 s2 l2 w2 => ?_, fun g2 H2 s2 l2 w2 => ?_⟩⟩
    · obtain ⟨x, hx, rfl⟩ := enum_get xs 0 i d hd
      obtain ⟨vx, hvx, rx⟩ := q1.get hx
      have sa : SqL c.X.K H2 a us := SqL.of (w2.sub _ _ (l2.G _ _ h1))
      refine ⟨⟨us, vx, sa, hvx⟩, fun z H3 hz => ?_⟩
      obtain ⟨T, x1, rfl, hT, e3, f1⟩ := hz
      have z1 := f1 us sa
      rw [hvx] at z1; cases z1
      rw [Nat.zero_add]
      exact gives_new (g1 := g1) (g3 := g1) w2 hT (.cons (.int _) (.cons (rx.mono l2) .nil)) e3
    · refine ⟨us, SqL.of (w2.sub _ _ (l2.G _ _ h1)), ?_⟩
      rw [enum_len, q1.length]
      exact Nat.le_refl _
  · cases eb
end
end Mir

set_option Elab.async false
set_option linter.all false
set_option maxRecDepth 100000
set_option maxHeartbeats 4000000
/-! Mir, part W: walks of lists where an exception is handled. -/
namespace Mir
open PySem PySem.Spec PyProof.Rows L2 HotX L2H
section
variable {prog : Program} {w : World} {A : Around} {E : Value → Shared → Prop} {s : Shared}
theorem hot_ne {it l x1 : Addr} {i : Nat} {h : Heap} (hot : HotAt A x1 h) (hit : h.IsListIter it l i) : x1 ≠ it := fun z => by
  obtain ⟨_, o, vs, h1, d1, c1⟩ := hot
  obtain ⟨o', h2, _, d2⟩ := hit
  rw [z, h2] at h1
  cases h1
  rw [d2] at d1
  cases d1
  simp at c1
theorem pyNext_list_end_hot {it l x1 : Addr} {i : Nat} {items : Array Value} {Q : Option Value → Shared → Prop} (hot : HotAt A x1 s.heap)
    (hit : s.heap.IsListIter it l i) (hl : s.heap.IsList l items) (hx : items[i]? = none)
    (hQ : ∀ h', Heap.ExtBut it s.heap h' → Q none { s with heap := h' }) : wpAny (model prog w) A (pyNext (.ref it)) Q E s := by
  have hne : x1 ≠ it := hot_ne hot hit
  obtain ⟨hh, o1, vs1, h1, d1, c1⟩ := hot
  obtain ⟨o, ho, hc, hd⟩ := id hit
  obtain ⟨ol, hol, _, nl, hdl⟩ := hl
  unfold pyNext
  refine wpAny_bind (wpAny_attempt (wpAny_callSpecial?_slot (name := Str.ofString "__next__") hit.typeIs slot_listiter_next
    (wpAny_call_entry slot_listiter_next hit.typeIs entry_listiter_next ?_ (args_listiter_next _))))
  show wpAny _ _ (field (.ref it) 0 >>= _) _ _ s
  refine wpAny_bind (wpAny_field ho hd (x := .ref l) rfl ?_)
  show wpAny _ _ (if (Value.ref l == Value.none) = true then _ else _) _ _ s
  rw [if_neg (show ¬ ((Value.ref l == Value.none) = true) from Bool.false_ne_true)]
  show wpAny _ _ (field (.ref it) 1 >>= _) _ _ s
  refine wpAny_bind (wpAny_field ho hd (x := .int i 0) rfl ?_)
  show wpAny _ _ (seqItems? (.ref l) >>= _) _ _ s
  refine wpAny_bind (wpAny_seqItems hol hdl ?_)
  simp only [Int.toNat_natCast, hx]
  refine wpAny_bind (wpAny_rule (wpAny_bind (wpAny_setField ho hd (by simp) ?_)))
  show wpAny _ _ (newExc (.type "StopIteration") [] >>= _) _ _ _
  refine wpAny_bind ?_
  simp only [newExc, newTuple]
  refine wpAny_bind (wpAny_newObj_type ?_ (by size_fits))
  refine wpAny_bind (m := firstArgMember _ _) (wpAny_of_eq (a := Value.none) (by first | rfl | (simp only [firstArgMember]; rfl)) ?_)
  refine wpAny_newObj_type ?_ (by size_fits)
  refine raiseNew_hot ⟨hh, o1, vs1, Heap.get?_push_of_some _ (Heap.get?_push_of_some _ ?_), d1, c1⟩ (Nat.ne_of_lt ?_) (Heap.get?_push_size _ rfl) rfl (by first | (simp; done) | (simp; omega) | (simp only [Array.size_append]; simp; omega)) ?_
  · rw [Heap.get?_update_other _ _ (Ne.symm hne)]
    exact h1
  · refine Heap.lt_size (o := o1) (Heap.get?_push_of_some _ ?_)
    rw [Heap.get?_update_other _ _ (Ne.symm hne)]
    exact h1
  refine wpAny_bind (wpAny_isInstance (T := "StopIteration") (b := true) ⟨_, Heap.get?_update_self _ (Heap.get?_push_size _ rfl) rfl, rfl⟩ isSubtype_stop ?_)
  refine wpAny_pure (hQ _ fun b o hb e => ?_)
  have key : ∀ (h0 : Heap) (o2 : Obj) (f : Obj → Obj), h0.get? b = some o → ((h0.push o2).update h0.objs.size f).get? b = some o := fun h0 o2 f z => by
    rw [Heap.get?_update_other _ _ (Nat.ne_of_gt (Heap.lt_size z))]
    exact Heap.get?_push_of_some _ z
  exact key _ _ _ (((Heap.SameBut.update ..).extBut.push _) b o hb e)
theorem walks_hot {x1 : Addr} {o1 : Obj} {vs1 : Array Value} (hh : A.handled = some (.ref x1)) (d1 : o1.data = .fields vs1) (c1 : vs1[2]? = some .none) (I ax : Addr) (hne : ax ≠ I) (hn1 : x1 ≠ I) (items : Array Value) :
    Walks prog w A I [I, ax, x1] [I] items.size (fun i v => items[i]? = some v) (fun i h => h.IsListIter I ax i ∧ h.IsList ax items ∧ h.get? x1 = some o1) where
  sub := fun b hb => by simp at hb; simp [hb]
  frame := fun _ _ _ st hk => ⟨st.1.at fun o e => hk I (by simp) o e, st.2.1.at fun o e => hk ax (by simp) o e, hk x1 (by simp) _ st.2.2⟩
  item := fun i s Q E hi st hQ => by
    refine wpAny_pyNext_list_item st.1 st.2.1 (x := items[i]) (by simp [hi]) fun h' hit' hs' => ?_
    exact hQ _ h' s.toks (by simp [hi]) ⟨hit', st.2.1.extBut hs'.extBut hne, hs'.extBut _ _ hn1 st.2.2⟩ fun b o hb e => hs'.extBut b o (fun h => hb (by simp [h])) e
  done := fun s Q E st hQ => pyNext_list_end_hot ⟨hh, o1, vs1, st.2.2, d1, c1⟩ st.1 st.2.1 (by simp) fun h' he' => hQ h' s.toks fun b o hb e => he' b o (fun h => hb (by simp [h])) e
  self := fun _ _ _ _ st hQ => wpAny_pyIter_listiter st.1 hQ
theorem sum_hot {x1 l : Addr} {its : List Value} {ns : List Int} {Q : Value → Shared → Prop} (hot : HotAt A x1 s.heap) (hl : s.heap.IsList l its.toArray) (hi : IntsAre its ns)
    (h : ∀ h' tk t', (∀ b o, s.heap.get? b = some o → h'.get? b = some o) → Q (.int ns.sum t') { s with heap := h', toks := tk }) : wpAny (model prog w) A (call (.builtin "sum") [.ref l]) Q E s := by
  obtain ⟨xs, e⟩ := hi.allInts.items
  have hn : numsOf (intItems xs).toList = ns := by rw [← e]; exact hi.numsOf
  rw [nums_intItems] at hn
  rw [e] at hl
  obtain ⟨hh, o1, vs1, h1, d1, c1⟩ := hot
  refine call_sum_walkG (iter_intList hl fun s₂ e st hfp hlI => ?_)
  subst e
  have h1' : (s.heap.push { cls := .type "list_iterator", data := .fields #[.ref l, .int 0 0] }).get? x1 = some o1 := Heap.get?_push_of_some _ h1
  refine ⟨_, _, _, _, _, _, numAt xs, rfl, walks_hot (A := A.in1) hh d1 c1 _ l hlI (Nat.ne_of_lt (Heap.lt_size h1)) (intItems xs), ⟨st.1, st.2, h1'⟩, fun b hb => ?_, (fun _ _ => intItems_at), fun h' tk t' hk => ?_⟩
  · rcases List.mem_cons.mp hb with rfl | hb
    · exact hfp _ (by simp)
    · rcases List.mem_cons.mp hb with rfl | hb
      · exact hfp _ (by simp)
      · have : b = x1 := by simpa using hb
        subst this
        exact Heap.lt_size h1'
  have := h h' tk t' (old_kept hk)
  rw [show ns.sum = preSum (numAt xs) xs.size by rw [preSum_eq, List.take_of_length_le (by simp), hn]] at this
  simpa [intItems] using this
end
section
variable {X : Cx}
theorem cr_sumH (hc : HotC X) : CallR X (.builtin "sum") (rSum X.K) := by
  intro pins s σ H vs us Q I r h
  obtain ⟨x1, hot⟩ := hc.at I
  obtain ⟨a, ns, rfl, hs, q⟩ := h
  obtain ⟨its, rv, hl, _⟩ := I.list hs
  rw [Vals.ref1 r]
  exact sum_hot hot hl.isList rv.ints fun h' tk t' hk => ⟨.int _, H, I.kept hk, ⟨_, rfl⟩, q⟩
structure TurnW (P : Program) (w : World) (K : PySem.W.Frag) (tg : Expr) (J : It) (fp : List Addr) (it : Addr) (tn : Nat → Heap → Prop) : Prop where
  mem : it ∈ fp
  obj : ∀ i h, tn i h → ∀ b ∈ fp, ∃ o, h.get? b = some o ∧ ∀ v, o.data ≠ .cell v
  keep : ∀ i h h', tn i h → (∀ b ∈ fp, ∀ o, h.get? b = some o → h'.get? b = some o) → tn i h'
  item : ∀ (X : Cx), X.prog = P → X.w = w → X.K = K → ∀ {s : Shared}, (∃ x1, HotAt X.A x1 s.heap) → ∀ (i : Nat) (pins : List (Addr × Obj)) (s' : Shared) (σ : St) (H : Hp) (E : Value → Shared → Prop), s' = s → Inv X pins σ H s → (∀ b ∈ fp, FpOk X pins H b) → tn i s.heap → J.go i H →
    wpAny (model P w) X.A (pyNext (.ref it)) (fun r s1 => ∃ u, r = some u ∧
      wpAny (model P w) X.A (letOwnedTupleGo tg (.ref it) u) (fun _ s2 => ∃ x H', Inv X pins σ H' s2 ∧ RelV x u ∧ J.yld i H x H' ∧ tn (i + 1) s2.heap ∧ ∀ b ∈ fp, H' b = none) E s1) E s
  done : ∀ (X : Cx), X.prog = P → X.w = w → X.K = K → ∀ {s : Shared}, (∃ x1, HotAt X.A x1 s.heap) → ∀ (i : Nat) (pins : List (Addr × Obj)) (s' : Shared) (σ : St) (H : Hp) (E : Value → Shared → Prop), s' = s → Inv X pins σ H s → (∀ b ∈ fp, FpOk X pins H b) → tn i s.heap → J.stop i H →
    wpAny (model P w) X.A (pyNext (.ref it)) (fun r s1 => r = none ∧ Inv X pins σ H s1) E s
  self : ∀ (A : Around) (i : Nat) (s : Shared) (Q : Value → Shared → Prop) (E : Value → Shared → Prop), tn i s.heap → Q (.ref it) s → wpAny (model P w) A (pyIter (.ref it)) Q E s
theorem turn_listW {P : Program} {w : World} {K : PySem.W.Frag} {tg : Expr} (a it : Addr) : TurnW P w K tg (Itl K a) [it] it (fun i h => h.IsListIter it a i) where
  mem := by simp
  obj := fun i h st b hb => by
    have e : b = it := by simpa using hb
    subst e
    obtain ⟨o, e, c, d⟩ := st
    exact ⟨o, e, fun v z => by rw [d] at z; cases z⟩
  keep := fun i h h' st k => st.at fun o e => k it (by simp) o e
  item := by
    intro X hP hw hK s hc i pins s' σ H E _ I hf st hg
    subst hP hw hK
    obtain ⟨xs, x, hq, hx⟩ := hg
    obtain ⟨its, rv, p, hz⟩ := I.list hq
    obtain ⟨u, hu, ru⟩ := rv.get hx
    obtain ⟨f0, f1, f2, f3, f4, f5⟩ := hf it (by simp)
    refine wpAny_pyNext_list_item st p.isList (x := u) (by simpa using hu) fun h' st' sb => ?_
    have I1 : Inv X pins σ H { s with heap := h' } := I.turned (t' := s.toks) (fun b o hb e => (sb.2 b hb).trans e) f0 f1 f3 f4 f5
    obtain ⟨o, e, c, d⟩ := id st'
    exact ⟨u, rfl, go_of (s := { s with heap := h' }) e c d (by decide) ⟨x, H, I1, ru, ⟨rfl, fun ys hy => by rw [I.list_inj hy hq]; exact hx⟩, st', fun b hb => (hf b hb).1⟩⟩
  done := by
    intro X hP hw hK s hc i pins s' σ H E _ I hf st hg
    subst hP hw hK
    obtain ⟨xs, hq, hx⟩ := hg
    obtain ⟨its, rv, p, hz⟩ := I.list hq
    obtain ⟨f0, f1, f2, f3, f4, f5⟩ := hf it (by simp)
    obtain ⟨x1, hot⟩ := hc
    have hl := rv.length
    exact pyNext_list_end_hot hot st p.isList (by simp; omega) fun h' eb => ⟨rfl, I.turned (t' := s.toks) (fun b o hb e => eb b o hb e) f0 f1 f3 f4 f5⟩
  self := fun _ _ _ _ _ st h => wpAny_pyIter_listiter st h
def PIEW (X : Cx) (pins : List (Addr × Obj)) (σ : St) (tg : Expr) (R : It → Hp → Prop) (itv : Value) (s2 : Shared) : Prop :=
  ∃ (it : Addr) (fp : List Addr) (tn : Nat → Heap → Prop) (J : It) (H' : Hp), itv = .ref it ∧ Inv X pins σ H' s2 ∧ TurnW X.prog X.w X.K tg J fp it tn ∧ tn 0 s2.heap ∧ (∀ b ∈ fp, FpOk X pins H' b) ∧ R J H'
structure PIW (X : Cx) (tg iter : Expr) (wi : TI) : Prop where
  run : ∀ (pins : List (Addr × Obj)) (s : Shared) (σ : St) (H : Hp) (R : It → Hp → Prop), Inv X pins σ H s → wi σ H R →
    wpAny (model X.prog X.w) X.A (eval iter X.env) (fun v s1 => wpAny (model X.prog X.w) X.A (pyIter v) (PIEW X pins σ tg R) X.xe s1) X.xe s
theorem pi_listW {tg l : Expr} {tl : TE} (hl : PE X l tl) : PIW X tg l (iList X.K tl) := by
  refine ⟨fun pins s σ H R I h => ?_⟩
  refine thn (hl.run pins s σ H _ I h) fun v s1 ⟨x, H1, I1, r1, q1⟩ => ?_
  obtain ⟨a, e, ⟨xs, hq⟩, q⟩ := q1
  subst e
  cases r1
  obtain ⟨its, rv, p, hz⟩ := I1.list hq
  refine wpAny_pyIter_list p.isList ?_
  refine ⟨s1.heap.objs.size, [s1.heap.objs.size], _, _, H1, rfl, I1.kept (t' := s1.toks) fun b o e => Heap.get?_push_of_some _ e, turn_listW a _, ⟨_, Heap.get?_push_size _ rfl, rfl, rfl⟩, fun b hb => ?_, q⟩
  have e : b = s1.heap.objs.size := by simpa using hb
  subst e
  exact I1.fpOk (Nat.le_refl _) (I1.hok.fresh (Nat.le_refl _))
theorem lc_coreH {pins : List (Addr × Obj)} {s : Shared} {σ : St} {H : Hp} {Q : VK} {elt tg iter : Expr} {ifs : List Expr} {scope : Scope} {own : List (Str × Nat)} {pos pos' : Pos} {wi : TI} {g : TG} {tt : TT} {te : TE} {use : Option (Value → Sem Unit)} {Qf : Value → Shared → Prop}
    (hc : HotC X) (hN : X.N.Nodup) (I : Inv X pins σ H s) (hi : PIW X tg iter wi) (ok : BlkOk X.N X.env.scope scope own)
    (hg : ∀ (s : Shared) (H : Hp) (C : Addr) (cl : List (Str × Addr)) (fp : List Addr), PG (X.blk s H scope (compEnvC scope cl C X.env) fp) tg g) (ht : ∀ (s : Shared) (H : Hp) (C : Addr) (cl : List (Str × Addr)) (fp : List Addr), PTs (X.blk s H scope (compEnvC scope cl C X.env) fp) ifs tt)
    (he : ∀ (s : Shared) (H : Hp) (C : Addr) (cl : List (Str × Addr)) (fp : List Addr), PE (X.blk s H scope (compEnvC scope cl C X.env) fp) elt te) (hs : ∀ x, foldedSetIterable iter X.env x = pure x)
    (h : tLc wi g tt te (own.map (·.2)) σ H Q)
    (hRR : ∀ D C s' m H', Inv X pins σ H' s' → Q (.ref D) H' → s'.heap.Ns C m → FpOk X pins H' C → compPost (model X.prog X.w) X.A X.xe use Qf (.ref D) C (.ok .next) s') :
    wpAny (model X.prog X.w) X.A (comprehension (.ListComp elt [⟨tg, iter, ifs, 0⟩] scope pos) scope X.env pos' (newList []) false (eval iter X.env) use) Qf X.xe s := by
  have hfree : ∀ y ∈ scope.names, y.2 = .free → ∃ c, X.env.cells.lookup y.1 = some c := fun y hy e => by
    rcases ok.free y hy e with k | k
    · exact I.ok.has _ (.inl k)
    · exact I.ok.has _ (.inr k)
  refine wpAny_comprehension_free (use := use) rfl hs (closure_ok hfree) ok.kind (fun y hy e => by rw [ok.uniq y hy, e])
    (thn (hi.run pins s σ H _ I h) fun xv s1 hx => thn hx fun itv s2 h2 => ?_)
  obtain ⟨it, fp, tn, J, H2, e, I2, T, st2, f2, q⟩ := h2
  subst e
  refine wpAny_newObj_type (newEnv_comp ?_) (by show 0 ≤ sizeLine; decide)
  generalize hD : s2.heap.objs.size = D
  have hDn : H2 D = none := I2.hok.fresh (Nat.le_of_eq hD)
  obtain ⟨W, ⟨m0, w0⟩, turn⟩ := q D hDn
  -- the new list
  generalize hs3 : ({ s2 with heap := s2.heap.push { cls := .type "list", data := .seq ([] : List Value).toArray } } : Shared) = s3
  have I3 : Inv X pins σ (upd H2 D (.lst [])) s3 := by
    rw [← hs3]
    refine I2.laid (t' := s2.toks) (fun b o e => Heap.get?_push_of_some _ e) (Nat.le_of_eq hD) ⟨Nat.zero_le _, [], 0, .nil, ?_⟩
    rw [← hD]
    exact Heap.get?_push_size _ rfl
  have h3 : s3.heap = s2.heap.push { cls := .type "list", data := .seq ([] : List Value).toArray } := by rw [← hs3]
  have sz : ∀ b ∈ fp, b < s2.heap.objs.size := fun b hb => by
    obtain ⟨o, e, _⟩ := T.obj _ _ st2 b hb
    exact Heap.lt_size e
  have f3 : ∀ b ∈ fp, FpOk X pins (upd H2 D (.lst [])) b ∧ b < s3.heap.objs.size := fun b hb => by
    have hlt := sz b hb
    refine ⟨⟨?_, (f2 b hb).2⟩, by rw [h3, Heap.size_push]; exact Nat.lt_succ_of_lt hlt⟩
    rw [upd_ne (by rw [← hD]; exact Nat.ne_of_lt hlt)]
    exact (f2 b hb).1
  have st3 : tn 0 s3.heap := T.keep _ _ _ st2 fun b _ o e => by rw [h3]; exact Heap.get?_push_of_some _ e
  have I4 := block_start I3 ok hN f3
  have pg := hg s3 (upd H2 D (.lst [])) s3.heap.objs.size (cellsFrom (s3.heap.objs.size + 1) scope.names (cloFrom X.env.cells scope.names [])) fp
  have pt := ht s3 (upd H2 D (.lst [])) s3.heap.objs.size (cellsFrom (s3.heap.objs.size + 1) scope.names (cloFrom X.env.cells scope.names [])) fp
  have pe := he s3 (upd H2 D (.lst [])) s3.heap.objs.size (cellsFrom (s3.heap.objs.size + 1) scope.names (cloFrom X.env.cells scope.names [])) fp
  show codeAny _ _ (.compStart (.ListComp elt [⟨tg, iter, ifs, 0⟩] scope pos) 0 (.ref it) (.ref D) (compEnvC scope (cellsFrom (s3.heap.objs.size + 1) scope.names (cloFrom X.env.cells scope.names [])) s3.heap.objs.size X.env)) (compPost (model X.prog X.w) X.A X.xe use Qf (.ref D) s3.heap.objs.size) { s3 with heap := pushCells (s3.heap.push { cls := .type "dict", data := .dict #[] }) scope.names }
  have nfp : ∀ b ∈ fp, (upd H2 D (.lst [])) b = none := fun b hb => (f3 b hb).1.1
  generalize hce : compEnvC scope (cellsFrom (s3.heap.objs.size + 1) scope.names (cloFrom X.env.cells scope.names [])) s3.heap.objs.size X.env = ce at I4 pg pt pe ⊢
  have cL : ce.locals = s3.heap.objs.size := by subst hce; rfl
  generalize hH3 : upd H2 D (.lst []) = H3 at I3 I4 pg pt pe w0 nfp f3
  generalize hs4 : ({ s3 with heap := pushCells (s3.heap.push { cls := .type "dict", data := .dict #[] }) scope.names } : Shared) = s4 at I4 ⊢
  have st4 : tn 0 s4.heap := T.keep _ _ _ st3 fun b _ o e => by rw [← hs4]; exact pushCells_keeps _ _ _ _ (Heap.get?_push_of_some _ e)
  have stat : ∀ {σ' : St} {H' : Hp} {s' : Shared}, Inv (X.blk s3 H3 scope ce fp) [] σ' H' s' → (∀ b ∈ fp, H' b = none) → ∀ b ∈ fp, FpOk (X.blk s3 H3 scope ce fp) [] H' b := fun {σ' H' s'} I' hn b hb =>
    ⟨hn b hb, (I'.ok.exf b hb).1, I'.ok.exfs b hb, .inl hb, fun x c e => (I'.ok.exf b hb).2 x c e, fun p hp => absurd (show p ∈ ([] : List (Addr × Obj)) ++ [] from hp) (by simp)⟩
  have hotB : ∀ {σ' : St} {H' : Hp} {s' : Shared}, Inv (X.blk s3 H3 scope ce fp) [] σ' H' s' → ∃ x1, HotAt X.A x1 s'.heap := fun {σ' H' s'} I' => by
    obtain ⟨p, ⟨hh, v1, e1, c1⟩, hp⟩ := hc
    have P1 := I3.pin p (List.mem_append_left _ hp)
    exact ⟨p.1, hh, p.2, v1, I'.base.keep p.1 p.2 P1.1 P1.2.1 (fun hm => (List.mem_cons.mp (I3.stkSub p.1 hm)).elim P1.2.2.1 P1.2.2.2.1) (fun hm => (f3 p.1 hm).1.2.2.2.2.2 p (List.mem_append_left _ hp) rfl), e1, c1⟩
  have loop : codeAny (model X.prog X.w) X.A (.compLoop (.ListComp elt [⟨tg, iter, ifs, 0⟩] scope pos) 0 (.ref it) (.ref D) ce) (compPost (model X.prog X.w) X.A X.xe use Qf (.ref D) s3.heap.objs.size) s4 := by
    refine compLoop_any (fun n s' => ∃ i H', Inv (X.blk s3 H3 scope ce fp) [] (wipe σ (own.map (·.2))) H' s' ∧ tn i s'.heap ∧ (∀ b ∈ fp, H' b = none) ∧ W i n H') ?_ m0 ⟨0, H3, I4, st4, nfp, w0⟩
    rintro n s5 ⟨i, H5, I5, st5, n5, w5⟩
    rcases turn i n H5 w5 with ⟨stop, qq⟩ | ⟨go, Nx, hNx, step⟩
    · have td := T.done (X.blk s3 H3 scope ce fp) rfl rfl rfl (hotB I5) i [] s5 _ H5 (fun _ _ => False) rfl I5 (stat I5 n5) st5 stop
      refine thnF td fun r s6 ⟨hr, I6⟩ => ?_
      subst hr
      -- back in the def's context
      have I7 : Inv X pins σ H5 s6 := I3.call' (ch := fp) I6.os I6.base I6.hok I6.bare fun b hb => ⟨(f3 b hb).1.2.2.2.1, (f3 b hb).1.2.1, (f3 b hb).1.2.2.2.2.1, (f3 b hb).1.2.2.2.2.2⟩
      have nC : H5 s3.heap.objs.size = none := by
        have z : H5 ce.locals = none := I6.free
        rw [cL] at z
        exact z
      obtain ⟨m, hn, _⟩ := I6.loc
      have hn : s6.heap.Ns ce.locals m := hn
      rw [cL] at hn
      exact hRR D s3.heap.objs.size s6 m H5 I7 qq hn (I3.fpOk (Nat.le_refl _) nC)
    · have ti := T.item (X.blk s3 H3 scope ce fp) rfl rfl rfl (hotB I5) i [] s5 _ H5 (fun _ _ => False) rfl I5 (stat I5 n5) st5 go
      refine thnF ti fun r s6 ⟨u, hr, h6⟩ => ?_
      subst hr
      refine thnF h6 fun _ s7 ⟨x, H7, I7, r7, y7, st7, n7⟩ => ?_
      have I7' := I7.pinned (stat I7 n7) (T.obj _ _ st7)
      refine thnF (pg.run _ s7 _ H7 x u _ I7' r7 (step x H7 y7)) fun _ s8 ⟨σ8, H8, I8, hw8, q8⟩ => ?_
      refine thnF (pt.run _ s8 σ8 H8 _ I8 q8) fun b s9 ⟨H9, I9, q9⟩ => ?_
      -- the turn's end
      have fin : ∀ {s' : Shared} {H' : Hp}, Inv (X.blk s3 H3 scope ce fp) ([] ++ pinsAt fp s7.heap) σ8 H' s' → Nx H' → ∃ m, m < n ∧ ∃ i H', Inv (X.blk s3 H3 scope ce fp) [] (wipe σ (own.map (·.2))) H' s' ∧ tn i s'.heap ∧ (∀ b ∈ fp, H' b = none) ∧ W i m H' := fun {s' H'} I' nx => by
        obtain ⟨m', hm, w'⟩ := hNx H' nx
        have pin' : ∀ b ∈ fp, ∀ o, s7.heap.get? b = some o → s'.heap.get? b = some o ∧ H' b = none := fun b hb o e =>
          let z := I'.pin (b, o) (List.mem_append_right _ (List.mem_append_right _ (mem_pinsAt hb e)))
          ⟨z.1, z.2.1⟩
        have hl : (wipe σ (own.map (·.2))).length = σ8.length := by rw [← hw8, wipe_length]
        refine ⟨m', hm, i + 1, H', (I'.unpinned (pins := [])).weak hl (fun j v e => ?_), T.keep _ _ _ st7 fun b hb o e => (pin' b hb o e).1, fun b hb => ?_, w'⟩
        · rw [← hw8] at e
          exact (wipe_some e).1
        · obtain ⟨o, e, _⟩ := T.obj _ _ st7 b hb
          exact (pin' b hb o e).2
      cases b with
      | false =>
        simp only [Bool.false_eq_true, if_false] at q9 ⊢
        exact fin I9 q9
      | true =>
        simp only [if_true] at q9 ⊢
        refine thnF (pe.run _ s9 σ8 H9 _ I9 q9) fun z s10 ⟨yv, H10, I10, r10, acc, hD10, hz10, nx⟩ => ?_
        exact app_ok (X := X.blk s3 H3 scope ce fp) I10 hD10 hz10 r10 fun s11 I11 => fin I11 nx
  exact codeAny_compStart_list loop (T.self X.A 0 _ _ _ st4 loop)
theorem pe_lcH {elt tg iter : Expr} {ifs : List Expr} {scope : Scope} {own : List (Str × Nat)} {pos : Pos} {wi : TI} {g : TG} {tt : TT} {te : TE} (hc : HotC X) (hN : X.N.Nodup) (hi : PIW X tg iter wi) (ok : BlkOk X.N X.env.scope scope own)
    (hg : ∀ (s : Shared) (H : Hp) (C : Addr) (cl : List (Str × Addr)) (fp : List Addr), PG (X.blk s H scope (compEnvC scope cl C X.env) fp) tg g) (ht : ∀ (s : Shared) (H : Hp) (C : Addr) (cl : List (Str × Addr)) (fp : List Addr), PTs (X.blk s H scope (compEnvC scope cl C X.env) fp) ifs tt)
    (he : ∀ (s : Shared) (H : Hp) (C : Addr) (cl : List (Str × Addr)) (fp : List Addr), PE (X.blk s H scope (compEnvC scope cl C X.env) fp) elt te) (hs : ∀ x, foldedSetIterable iter X.env x = pure x := by intro _; rfl) :
    PE X (.ListComp elt [⟨tg, iter, ifs, 0⟩] scope pos) (tLc wi g tt te (own.map (·.2))) := by
  refine ⟨fun pins s σ H Q I h => ?_⟩
  rw [eval_ListComp]
  refine lc_coreH hc hN I hi ok hg ht he hs h fun D C s' m H' I' q hn f => ⟨m, hn, fun h'' sb => ?_⟩
  obtain ⟨f0, f1, f2, f3, f4, f5⟩ := f
  exact ⟨.ref D, H', I'.turned (t' := s'.toks) (fun b o hb e => (sb.2 b hb).trans e) f0 f1 f3 f4 f5, rfl, q⟩
end
end Mir

set_option Elab.async false
set_option linter.all false
set_option maxRecDepth 100000
set_option maxHeartbeats 4000000
/-! Mir, part L: a lambda handed to a def that tells an exception by a word. -/
namespace Mir
open PySem PySem.Spec PyProof.Rows L2 HotX L2H LamX
/-! ### isinstance of the exception that is handled -/
theorem call_isP {X : Cx} {a D : Addr} {oe : Obj} (C : ExcC X.K D) (hz : Zc (.ref D) none oe) (hf : ∃ vs, oe.data = .fields vs) (hp : (a, oe) ∈ X.pn) : CallR X (.builtin "isinstance") (rIsE X.K D a) := by
  intro pins s σ H xs us Q I r h
  obtain ⟨c, cv, b, rfl, hcv, e, q⟩ := h
  cases r with
  | cons rx rr =>
    cases rr with
    | cons rt rr =>
      cases rr
      cases rx
      have ec := hcv _ rt
      subst ec
      obtain ⟨hget, _⟩ := I.pin (a, oe) (List.mem_append.mpr (.inl hp))
      obtain ⟨vs, hv⟩ := hf
      have J : PySem.W.InstAt s.heap a oe D none := by
        obtain ⟨oc, od, oda, osl⟩ := oe
        obtain ⟨h1, h2⟩ := hz
        dsimp only at h1 h2 hv
        subst h1 h2 hv
        exact ⟨hget, rfl, rfl, trivial⟩
      exact PySem.W.kia_one (PySem.W.handS_kitx_exc C.hg C.hk C.hs C.hd C.ha C.hn C.ht C.hm) I.kIn J e (fun z => nomatch z) fun tk => ⟨.bl b, H, I.kept (t' := tk) fun _ _ z => z, rfl, q⟩
def eIsE (i : Nat) (a : Addr) (b : Bool) : ED := fun τ s => match τ[i]? with
  | some (some (.exc a')) => if a' = a then .ok (.bl b) s else .no
  | _ => .no
section
variable {c : Ctx}
theorem de_isE {i : Nat} {a D : Addr} {oe : Obj} {en x : Str} {v : V} {cv : Value} {b : Bool} {p p1 p2 pos : Pos} (C : ExcC c.X.K D) (hz : Zc (.ref D) none oe) (hf : ∃ vs, oe.data = .fields vs) (hp : (a, oe) ∈ c.X.pn) (hm : c.X.mg "isinstance" = none)
    (pc : PE c.X (.Name x p2) (tC v)) (hv : ∀ u, RelV v u → u = cv) (hk : PySem.W.kitOne c.X.K (.ref D) cv = some b) (hO : c.O i = false := by rfl) (hN : c.X.N[i]? = some en := by rfl) (hvis : Vis c.X.env.scope en := by first | exact Or.inl rfl | exact Or.inr (Or.inl rfl) | exact Or.inr (Or.inr rfl))
    (hg : Gl c.X "isinstance" := by rfl) (hd : (en == ("__debug__" : Str)) = false := by decide) (hcd : (en == ("__classdict__" : Str)) = false := by decide)
    (hs : starEach [.Name en p1, .Name x p2] c.X.env = (false, eval (.Name en p1) c.X.env) :: starEach [.Name x p2] c.X.env := by rfl) (hs2 : starEach [.Name x p2] c.X.env = (false, eval (.Name x p2) c.X.env) :: starEach [] c.X.env := by rfl) (hpl : (backTo pos (starEach [.Name x p2] c.X.env)).any (·.1) = false := by rfl) :
    DE .o c (.Call (.Name "isinstance" p) [.Name en p1, .Name x p2] [] pos) (eIsE i a b) := by
  refine de_mk (pe_callB (call_isP C hz hf hp) hg hm (by decide +kernel) (pa_cons (pe_var (i := i) hN hvis hd hcd) (pa_cons pc pa_nil hs2) hs) (by decide) (by decide) hs hpl) fun g H s σ τ Q o h => ?_
  unfold eIsE at h
  split at h
  · rename_i a' z
    by_cases q : a' = a
    · rw [if_pos q] at h
      subst q
      obtain ⟨u, h1, h2⟩ := o.sl.at_ i _ z
      rw [hO, if_neg Bool.false_ne_true] at h2
      cases h2
      exact ⟨_, h1, v, cv, b, rfl, hv, hk, Pg.now h o.wf _ (.of (.bl b))⟩
    · rw [if_neg q] at h
      exact h.elim
  · exact h.elim
/-! ### sum and comprehensions there -/
def sumD : List D → Option D
  | [.lst ds] => (intsOf ds).map fun ns => .int ns.sum
  | _ => none
theorem cd_sum' (hc : CallR c.X (.builtin "sum") (rSum c.X.K)) : CallD c (.builtin "sum") sumD := by
  refine ⟨_, hc, fun g H s vs ds d Q w r e k => ?_⟩
  unfold sumD at e
  split at e
  · rename_i ds
    cases q : intsOf ds with
    | none => rw [q] at e; cases e
    | some ns =>
      rw [q] at e
      cases e
      obtain ⟨v, rfl, r1⟩ := r.one
      obtain ⟨a, xs, rfl, h1, h2⟩ := r1.lst w
      rw [h2.intsOf q] at h1
      exact ⟨a, ns, rfl, SqL.of h1, k.here w (.int _)⟩
  · cases e
theorem cd_sumH (hc : HotC c.X) : CallD c (.builtin "sum") sumD := cd_sum' (cr_sumH hc)
theorem cd_sum (hc : c.X.calm = true := by rfl) : CallD c (.builtin "sum") sumD := cd_sum' (cr_sum hc)
theorem dlc_H {elt tg l : Expr} {ifs : List Expr} {scope : Scope} {pos : Pos} {fl : ED} {ws : List Nat} {fg : D → Ev → Option Ev} {ft : TD} {fe : ED} (own : List (Str × Nat)) (hN : c.X.N.Nodup) (hc : HotC c.X) (hi : DE .b c l fl)
    (hg : ∀ s H C cl fp, DG (blkC c W0 (fun _ _ => False) s H scope C cl fp) tg ws fg)
    (ht : ∀ s H C cl fp, PTs (blkC c W0 (fun _ _ => False) s H scope C cl fp).X ifs (tTK c.X.K c.T W0 c.O ft))
    (he : ∀ s H C cl fp, DE .z (blkC c W0 (fun _ _ => False) s H scope C cl fp) elt fe)
    (ok : L2.blkC c.X.N c.X.env.scope scope own = true := by kernel_rfl) (hws : (ws.all fun i => (own.map (·.2)).contains i && !c.O i) = true := by rfl) (hs : ∀ x, foldedSetIterable l c.X.env x = pure x := by intro _; rfl) :
    DE .o c (.ListComp elt [⟨tg, l, ifs, 0⟩] scope pos) (eLc0 (iLst fl) fg ft fe (own.map (·.2))) := by
  have hws' : ∀ i ∈ ws, i ∈ own.map (·.2) ∧ c.O i = false := fun i hi => by
    have := Bool.and_eq_true_iff.mp (List.all_eq_true.mp hws i hi)
    exact ⟨List.contains_iff_mem.mp this.1, by simpa using this.2⟩
  have bo := blkOk_by ok
  have pl := hi.can
  refine ⟨_, pe_lcH hc hN (pi_listW pl) bo (fun s H C cl fp => (hg s H C cl fp).can) (fun s H C cl fp => ht s H C cl fp) (fun s H C cl fp => (he s H C cl fp).can) hs, evs_lc0 (iter := l) (tg := tg) (fun g H s σ τ R o h => ?_) hws'⟩
  refine ⟨g, s, τ, o.wf, o.sl, pgK.mp (Pg.seq h fun d s1 g1 H1 _ e1 w1 h1 v rv => ?_)⟩
  cases d with
  | lst ds =>
    obtain ⟨a, xs, rfl, h2, rs⟩ := rv.lst w1
    have ne : ∀ n, g1.r n ≠ some a := fun n q => by
      rcases rv with z | z
      · cases z with
        | lst hg _ => obtain ⟨_, _, z⟩ := w1.out n a q _ hg; cases z
      · cases z with
        | lst _ hr _ _ => exact hr n q
    refine ⟨a, rfl, ⟨xs, SqL.of h2⟩, Pg.now h1 w1 _ ⟨fun i d hd g2 H2 s2 e2 w2 => ?_, fun g2 H2 s2 e2 w2 => ?_⟩⟩
    · have hq : SqL c.X.K H2 a xs := SqL.of (e2.keep a _ h2 ne (fun ps => by simp))
      obtain ⟨x, hx, rx⟩ := rs.get hd
      exact ⟨⟨xs, x, hq, hx⟩, fun y H3 hy => ⟨g2, by rw [hy.1]; exact Ext.refl _ _, by rw [hy.1]; exact w2, by
        have z := hy.2 xs hq
        rw [hx] at z; cases z
        exact rx.mono e2.le⟩⟩
    · exact ⟨xs, SqL.of (e2.keep a _ h2 ne (fun ps => by simp)), Nat.le_of_eq rs.length⟩
  | _ => exact h1.elim
end
/-! ### a def's body, from its start -/
theorem SOk.start {c : Ctx} {N : List Str} {np : Nat} {g : Gh} {H : Hp} {st : Sto} {vs : List V} {ds : List D} (w1 : WF c.X.K c.T g H st) (r : Reps c.X.K g vs ds) (hl : ds.length = np) (hO : ∀ i, i < np → c.O i = false) :
    SOk c g H g H st (L2.start N vs) (ds.map some ++ List.replicate (N.length - np) none) := by
  have lv := r.length
  have atS : ∀ i d, (ds.map some ++ List.replicate (N.length - np) none)[i]? = some (some d) → i < np ∧ ∃ v, (L2.start N vs)[i]? = some (some v) ∧ Rep c.X.K g v d := fun i d e => by
    by_cases hi : i < ds.length
    · rw [List.getElem?_append_left (by rw [List.length_map]; exact hi), List.getElem?_map] at e
      cases z : ds[i]? with
      | none => rw [z] at e; cases e
      | some d' =>
        rw [z] at e
        cases e
        obtain ⟨v, h1, h2⟩ := r.get z
        refine ⟨by omega, v, ?_, h2⟩
        unfold L2.start
        rw [List.getElem?_append_left (by rw [List.length_map]; omega), List.getElem?_map, h1]
        rfl
    · rw [List.getElem?_append_right (by rw [List.length_map]; omega)] at e
      rw [List.getElem?_replicate] at e
      split at e <;> cases e
  refine ⟨⟨w1, ⟨?_, fun i d e => ?_, fun i j p hi hj hij e1 e2 => ?_⟩⟩, Ext.refl _ _, fun i p d hi e1 e2 => ?_⟩
  · unfold L2.start
    rw [List.length_append, List.length_append, List.length_map, List.length_map, List.length_replicate, List.length_replicate, lv, hl]
  · obtain ⟨hi, v, h1, h2⟩ := atS i d e
    refine ⟨v, h1, ?_⟩
    rw [hO i hi, if_neg Bool.false_ne_true]
    exact h2
  · by_cases hlt : i < np
    · rw [hO i hlt] at hi; cases hi
    · unfold L2.start at e1
      rw [List.getElem?_append_right (by rw [List.length_map]; omega), List.getElem?_replicate] at e1
      split at e1 <;> cases e1
  · obtain ⟨hlt, _⟩ := atS i d e1
    rw [hO i hlt] at hi; cases hi
/-- the end of a body that raises nothing -/
theorem body_end {c : Ctx} {N : List Str} {np : Nat} {g : Gh} {H : Hp} {st : Sto} {ds : List D} {b : SD} {Q : VK} {E : XK} (h : match fnM np N.length b ds st with
    | .ok d s' => ∀ v g' H', Ext g H g' H' → WF c.X.K c.T g' H' s' → Rep c.X.K g' v d → Q v H'
    | .exc cl s' => ∀ g' H', Ext g H g' H' → WF c.X.K c.T g' H' s' → E (clsV c.X.K cl) none H'
    | .no => False) (hE : ∀ cl d H', E cl d H' → c.W cl d H') : ds.length = np ∧ Ps c g H g { nx := fun _ H' => Q .non H', rt := Q } (b (ds.map some ++ List.replicate (N.length - np) none) st) := by
  unfold fnM at h
  by_cases hl : ds.length = np
  · rw [if_pos hl] at h
    refine ⟨hl, ?_⟩
    cases z : b (ds.map some ++ List.replicate (N.length - np) none) st with
    | ok fl s1 =>
      rw [z] at h
      cases fl with
      | nx τ1 => exact fun g' H' σ' l' o' => h .non g' H' o'.ext o'.ok.wf .non
      | bk τ1 => exact h.elim
      | ct τ1 => exact h.elim
      | rt d => exact fun g' H' v e' w' r' => h v g' H' e' w' r'
    | exc cl s1 => rw [z] at h; exact fun g' H' e' w' => hE _ _ _ (h g' H' e' w')
    | no => rw [z] at h; exact h
  · rw [if_neg hl] at h; exact h.elim
/-! ### the def that tells the word, called while p's exception is handled -/
structure Hot (P : Program) (w : World) (K : PySem.W.Frag) (mg : Str → Option Value) (base : Heap) (T : List (Addr × Str)) (x : Str) (k : Nat) (p : Addr × Obj) (F : FD) : Prop where
  ex : ∃ f fd en, mg x = some (.ref f) ∧ PySem.W.keepIn K (.ref f) = true ∧ Binds K fd [en] [] ∧ ∀ (A : Around) (outer : List Env) (s : Shared) (H : Hp) (args : Args) (us : List Value) (vs : List V) (Q : VK), RoomH k A → Hot1 A p → PinOk outer H s p → Env0 P w K mg base A outer s H → BindsTo s fd args ([en].zip us) → Vals vs us → spOf K T F vs H Q C8.E0 →
    codeAny (model P w) A (.call (.ref f) args) (CR C8.CX0 outer P w H s Q C8.E0) s
abbrev cxW (P : Program) (w : World) (K : PySem.W.Frag) (mg : Str → Option Value) (base : Heap) (T : List (Addr × Str)) (N : List Str) (qual : Str) (scope : Scope) (f : Addr) (cdv : Value) (A : Around) (outer : List Env) (s : Shared) (H : Hp) (p : Addr × Obj) : Ctx :=
  ⟨cxH C8.CX0 P w K mg base N qual scope f cdv A outer s H C8.E0 p, T, W0, noO⟩
theorem hot_mk {P : Program} {w : World} {K : PySem.W.Frag} {mg : Str → Option Value} {base : Heap} {T : List (Addr × Str)} {x qual en : Str} {params : Arguments} {body : List Stmt} {scope : Scope} {f : Addr} {fd : FuncData} {kws : List (Str × V)} {N : List Str} {k : Nat} {b : SD} {p : Addr × Obj} (F : FunD K x qual params body scope [] kws f fd) (S : FnScope N [en] scope) (hm : mg x = some (.ref f)) (hbi : Binds K fd [en] [])
    (hbody : ∀ (cdv : Value) (A : Around) (outer : List Env) (s : Shared) (H : Hp), Hot1 (A.deeper (envOfC qual scope s.heap.objs.size f cdv)) p → RoomH k (A.deeper (envOfC qual scope s.heap.objs.size f cdv)) → DSs (cxW P w K mg base T N qual scope f cdv A outer s H p) body b) : Hot P w K mg base T x (k + 1) p (fnM 1 N.length b) := by
  obtain ⟨oc, od, dV, kV, doc, pm, an, cdv, ct, osl, efd, lk, hcd, _, _⟩ := F.ex
  refine ⟨f, fd, en, hm, F.kp, hbi, fun A outer s H args us vs Q hr hot hpin e0 hb r h => ?_⟩
  subst efd
  obtain ⟨g, st, ds, w1, rs, h⟩ := h
  obtain ⟨hl, h2⟩ := body_end (c := cxW P w K mg base T N qual scope f cdv A outer s H p) (N := N) (np := 1) h fun _ _ _ z => z
  have lv : vs.length = [en].length := by rw [rs.length, hl]; rfl
  have KX : K.In s.heap := e0.mod.kin.keeps fun b o e => (e0.bs b o e).1
  have lim : s.heap.NoLimit := e0.mod.nolimit.keeps fun b o e => (e0.bs b o e).1
  have hkind : ∀ y ∈ [en].zip us, scope.names.lookup y.1 = some .local ∨ (scope.names.lookup y.1 = some .cell ∧ ((cellsFrom (s.heap.objs.size + 1) scope.names []).lookup y.1).isSome = true) := fun ⟨n, v⟩ hy => by
    rcases S.par n (List.of_mem_zip hy).1 with q | q
    · exact .inl q
    · exact .inr ⟨q, PySem.W.cellsFrom_some _ _ _ (.inl q)⟩
  refine codeAny_call_function hr.depth (KX _ _ lk) rfl S.co S.gen rfl (PySem.W.codeRec_of KX hcd) (hb _ _ _ _ ?_)
  refine wpAny_newFunctionEnv_cells S.kind hkind fun env he s1 x => ?_
  subst he
  refine ⟨lim.keeps x.toInCall.keep, codeAny_func ?_⟩
  obtain ⟨t, ht, hq⟩ := hbody cdv A outer s H hot (hr.deeper _)
  have hq := hq g H g H st (L2.start N vs) _ _ (SOk.start (N := N) (np := 1) w1 rs hl fun _ _ => rfl) h2
  have I : Inv (cxH C8.CX0 P w K mg base N qual scope f cdv A outer s H C8.E0 p) [] (L2.start N vs) H s1 := inv_startH S hpin e0 lv r x
  refine wpAny_mono (ht.run [] s1 (L2.start N vs) H _ I hq) (fun fl s' hs => ?_) fun e s' hs => hs
  have fin : ∀ {σ' : L2.St} {H' : Hp} {v : V} {u : Value}, Inv (cxH C8.CX0 P w K mg base N qual scope f cdv A outer s H C8.E0 p) [] σ' H' s' → RelV v u → Q v H' → CE outer P w H s Q u s' :=
    fun {σ' H' v u} J rv q => ⟨v, H', J.os, J.bare, J.base, J.hok, rv, q⟩
  cases fl with
  | ret u =>
    obtain ⟨v, σ', H', J, rv, q⟩ := hs
    exact fin J rv q
  | next =>
    obtain ⟨σ', H', J, q⟩ := hs
    exact fin (v := V.non) (u := Value.none) J rfl q
  | brk =>
    obtain ⟨_, _, _, q⟩ := hs
    exact False.elim q
  | cont =>
    obtain ⟨_, _, _, q⟩ := hs
    exact False.elim q
/-- x(e) in the suite -/
theorem pe_hot {X : Cx} {T : List (Addr × Str)} {x en : Str} {k i : Nat} {p : Addr × Obj} {F : FD} {q p1 pos : Pos} (W : Hot X.prog X.w X.K X.mg X.base T x k p F) (hr : RoomH k X.A) (hot : Hot1 X.A p) (hp : p ∈ X.pn) (hg : Gl X x) (hN : X.N[i]? = some en) (hv : Vis X.env.scope en)
    (hdb : (x == ("__debug__" : Str)) = false := by decide) (hd : (en == ("__debug__" : Str)) = false := by decide) (hcd : (en == ("__classdict__" : Str)) = false := by decide) (he : starEach [.Name en p1] X.env = (false, eval (.Name en p1) X.env) :: starEach [] X.env := by rfl) :
    PE X (.Call (.Name x q) [.Name en p1] [] pos) (fun σ H Q => ∃ v, σ[i]? = some (some v) ∧ spOf X.K T F [v] H Q C8.E0) := by
  refine ⟨fun pins s σ H Q I h => ?_⟩
  obtain ⟨f, fd, en', hm, hk, hb, hrun⟩ := W.ex
  have ha : PA X [.Name en p1] (tCons (tVar i) tNil) := pa_cons (pe_var (i := i) hN hv hd hcd) pa_nil he
  obtain ⟨v, h1, h2⟩ := h
  refine wpAny_Call_Name_kw (ld_glob I hg hm ?_ hdb)
  refine PySem.W.callWith_K (h₀ := X.base) I.ok.mod.kin hk (thn (ha.run pos pins s σ H (fun vs H1 => vs = [v] ∧ H1 = H) I ⟨v, h1, rfl, rfl⟩) fun us s1 ⟨vs, H1, I1, r, q⟩ => ⟨I1.kIn, ?_⟩) he
  obtain ⟨q1, q2⟩ := q
  subst q1
  rw [q2] at I1
  have hl : us.length = [en'].length := by rw [← r.length]; rfl
  have b := hb s1 us I1.kIn (by rw [List.append_nil]; exact hl)
  rw [List.append_nil] at b
  have P1 := I1.pin p (List.mem_append_left _ hp)
  have hpin : PinOk X.stack H s1 p := ⟨P1.1, P1.2.1, fun hm => (List.mem_cons.mp (I1.stkSub p.1 hm)).elim P1.2.2.1 P1.2.2.2.1, P1.2.2.2.2⟩
  refine wpAny_call (codeAny_mono (hrun X.A X.stack s1 H ⟨us, []⟩ us [v] Q hr hot hpin I1.env0 b r h2) fun r s' hq => ?_)
  cases r with
  | error e => exact (show False from hq).elim
  | ok fl =>
    cases fl with
    | ret u => exact I1.after hq
    | next => exact False.elim hq
    | brk => exact False.elim hq
    | cont => exact False.elim hq
end Mir

set_option Elab.async false
set_option linter.all false
set_option maxRecDepth 100000
set_option maxHeartbeats 4000000
/-! Mir, part M: the lambda, with the exception's context known (after the library's own lemmas of lambdas, turned to L2N.CX). -/
namespace Mir
open PySem PySem.Spec PyProof.Rows L2 HotX L2H LamX
section
variable {X : Cx} {pins : List (Addr × Obj)} {σ : L2.St} {H : Hp} {s : Shared}
theorem lam_make3 {T : List (Addr × Str)} {c P : Addr} {params : Arguments} {body : Expr} {scope : Scope} {pos : Pos} {E : Value → Shared → Prop} {Q : Value → Shared → Prop} (I : Inv X pins σ H s) (TB : TabB X.base X.mg c P) (hcode : X.env.code = .ref c)
    (hm : (P, X.env.qual ++ "<lambda>") ∈ T) (hu : ∀ p ∈ T, p.1 = P → p.2 = X.env.qual ++ "<lambda>") (hT : Tabs T H) (hdef : defaultsOf params X.env = ([], [])) (hfree : ∀ y ∈ scope.names, y.2 = .free → ∃ c, X.env.cells.lookup y.1 = some c)
    (h : ∀ (f c' : Addr) (pm ctv : Value) (H1 : Hp) (s' : Shared), Inv X pins σ H1 s' → ExtN H H1 → (∀ b, H b ≠ none → H1 b ≠ none) → Tabs T H1 →
      s'.heap.get? f = some (PySem.W.kla_obj "<lambda>" (X.env.qual ++ "<lambda>") params body scope (cloFrom X.env.cells scope.names []) pm c' ctv) → H1 f = none → f ∉ frs X.stack → H1 c' = some (CodeO c' (X.env.qual ++ "<lambda>")) → Q (.ref f) s') :
    wpAny (model X.prog X.w) X.A (eval (.Lambda params body scope pos) X.env) Q E s := by
  obtain ⟨ps, hP, ht, ha⟩ := hT _ hm
  refine PySem.W.kla_eval hdef ?_
  have bP : s.heap.BuiltinsAt X.mg P := TB.bm.keeps I.bk
  have hP' : s.heap.get? P = some { cls := .none, data := .fields ps } := I.hok P _ hP
  have nofr : ∀ f, s.heap.objs.size ≤ f → f ∉ frs X.stack := fun f hf z => by
    rcases List.mem_cons.mp (I.stkSub _ z) with e | e
    · have h1 := I.lt
      rw [← e] at h1
      exact Nat.lt_irrefl _ (Nat.lt_of_lt_of_le h1 hf)
    · exact I.nofs hf e
  cases hc : codeAmong pos ps.toList with
  | none =>
    refine PySem.W.kla_makeFunction (mg := X.mg) (c := c) (P := P) (ps := ps) (closure_ok hfree) I.ok.glob (I.mod.glob.keeps I.bk) hcode (TB.code.keeps I.bk) hP' ht hc TB.gP bP fun c' ctv h' tk hx hge hlt hrec htb => ?_
    obtain ⟨c2, oc, vs, t, e2, hoc, hd, hv⟩ := hrec
    cases e2
    have hsz : s.heap.objs.size ≤ h'.objs.size := Nat.le_trans hge (Nat.le_of_lt hlt)
    have nC : H c' = none := I.hok.fresh hge
    have I1 := inv_table (t' := tk) (more := #[rawInt pos.line, rawInt pos.col, .ref c']) (h' := h'.push (PySem.W.kla_obj "<lambda>" (X.env.qual ++ "<lambda>") params body scope (cloFrom X.env.cells scope.names []) ((X.mg "__name__").getD .none) c' ctv)) I hP
      (fun b o hb e => Heap.get?_push_of_some _ (hx b o hb e)) (Heap.get?_push_of_some _ htb) hge ⟨oc, vs, t, Heap.get?_push_of_some _ hoc, hd, hv⟩
    have hE : ExtN H (upd (upd H P (.tbl (ps ++ #[rawInt pos.line, rawInt pos.col, .ref c']))) c' (CodeO c' (X.env.qual ++ "<lambda>"))) := fun b o e n => by
      rw [upd_ne (ne_of_none e nC), upd_ne (fun z => n ps (Option.some.inj (e.symm.trans (by rw [z]; exact hP))))]
      exact e
    have eL : (ps ++ #[rawInt pos.line, rawInt pos.col, .ref c']).toList = ps.toList ++ [rawInt pos.line, rawInt pos.col, .ref c'] := by simp
    refine h h'.objs.size c' ((X.mg "__name__").getD .none) ctv _ _ I1 hE (fun b hb => ?_) (fun p hp => ?_) (Heap.get?_push_size _ rfl) ?_ (nofr _ hsz) upd_same
    · by_cases z1 : b = c'
      · rw [z1, upd_same]; simp
      · by_cases z2 : b = P
        · rw [upd_ne z1, z2, upd_same]; simp
        · rw [upd_ne z1, upd_ne z2]; exact hb
    · by_cases hb : p.1 = P
      · rw [hu p hp hb, hb]
        refine ⟨_, by rw [upd_ne (ne_of_none hP nC), upd_same], by rw [eL]; exact PySem.TriplesOk_snoc _ _ _ _ ht, fun p' cv hcv => ?_⟩
        rw [eL] at hcv
        rcases among_app _ ht hcv with z | z
        · obtain ⟨c0, e1, e2⟩ := ha p' cv z
          exact ⟨c0, e1, hE _ _ e2 codeO_ne⟩
        · exact ⟨c', z, upd_same⟩
      · obtain ⟨ps', a1, a2, a3⟩ := hT p hp
        refine ⟨ps', by rw [upd_ne (ne_of_none a1 nC), upd_ne hb]; exact a1, a2, fun p' cv hcv => ?_⟩
        obtain ⟨c0, e1, e2⟩ := a3 p' cv hcv
        exact ⟨c0, e1, hE _ _ e2 codeO_ne⟩
    · have n1 : h'.objs.size ≠ c' := Nat.ne_of_gt hlt
      have n2 : h'.objs.size ≠ P := Nat.ne_of_gt (Nat.lt_of_lt_of_le (Heap.lt_size hP') hsz)
      rw [upd_ne n1, upd_ne n2]
      exact I.hok.fresh hsz
  | some cv =>
    obtain ⟨c', e, hco⟩ := ha pos cv hc
    subst e
    refine PySem.W.kla_makeFunctionHit (mg := X.mg) (c := c) (P := P) (ps := ps) (closure_ok hfree) I.ok.glob (I.mod.glob.keeps I.bk) hcode (TB.code.keeps I.bk) hP' ht hc bP fun ctv h' tk hx hsz => ?_
    have I1 : Inv X pins σ H { s with heap := h'.push (PySem.W.kla_obj "<lambda>" (X.env.qual ++ "<lambda>") params body scope (cloFrom X.env.cells scope.names []) ((X.mg "__name__").getD .none) c' ctv), toks := tk } := I.kept fun b o e => Heap.get?_push_of_some _ (hx b o e)
    exact h h'.objs.size c' ((X.mg "__name__").getD .none) ctv H _ I1 (ExtN.refl H) (fun _ z => z) hT (Heap.get?_push_size _ rfl) (I.hok.fresh hsz) (nofr _ hsz) hco
end
theorem inv_wish {Y : Cx} {N : Value → Shared → Prop} {pins : List (Addr × Obj)} {σ : L2.St} {H : Hp} {s : Shared} (I : Inv Y pins σ H s) : Inv (Y.wish N) pins σ H s := by
  cases Y
  exact Inv.unwish (E := _) I
/-- the context of the lambda's body -/
def lamCxN (X : Cx) (A : Around) (outer : List Env) (s : Shared) (H : Hp) (E : XK) (scope : Scope) (f c' : Addr) : Cx := (lamCx X A outer s H E scope f c').wish fun e s' => wpAny (model X.prog X.w) (A.deeper (lamEnv X scope s.heap.objs.size f c')) (leaving (lamEnv X scope s.heap.objs.size f c') e) (fun _ s'' => L2N.CX X.prog X.w outer H s E e s'') (fun e' s'' => L2N.CX X.prog X.w outer H s E e' s'') s'
section
variable {X : Cx} {pins : List (Addr × Obj)} {σ : L2.St} {H HZ : Hp} {s s1 : Shared}
theorem pe_actN {CXg : CXT} {Eg : XK} {Ng : List Str} {qg : Str} {sg : Scope} {g f c' : Addr} {cdg pm ctv : Value} {params : Arguments} {body : Expr} {scope : Scope} {k i : Nat} {a : Str} {pn : List (Addr × Obj)} {xe : Value → Shared → Prop} {W : WX} {E : XK} {tb : TE} {p1 p2 : Pos}
    (I : Inv X pins σ H s) (L : LamS X.env.scope scope) (hf : s.heap.get? f = some (PySem.W.kla_obj "<lambda>" (X.env.qual ++ "<lambda>") params body scope (cloFrom X.env.cells scope.names []) pm c' ctv)) (hfn : H f = none) (hfr : f ∉ frs X.stack)
    (hbind : bindArgs (PySem.W.kla_fn "<lambda>" (X.env.qual ++ "<lambda>") params body scope (cloFrom X.env.cells scope.names []) pm (.ref c') ctv) ⟨[], []⟩ = pure [])
    (tk : L2N.Takes ((cxOf CXg X.prog X.w X.K X.mg X.base Ng qg sg g cdg X.A X.stack s H Eg).tr pn xe) W) (hW : ∀ cls d σ' H', E cls d H' → W cls d σ' H') (hr : Room (k + 1) (X.A.deeper (envOfC qg sg s.heap.objs.size g cdg)))
    (hbody : ∀ (A : Around) (outer : List Env) (s : Shared) (H : Hp), Room k (A.deeper (lamEnv X scope s.heap.objs.size f c')) → PE (lamCxN X A outer s H E scope f c') body tb)
    (hN : Ng[i]? = some a) (hv : Vis sg a) (hd : (a == ("__debug__" : Str)) = false := by decide) (hcd : (a == ("__classdict__" : Str)) = false := by decide) :
    PE ((cxOf CXg X.prog X.w X.K X.mg X.base Ng qg sg g cdg X.A X.stack s H Eg).tr pn xe) (.Call (.Name a p1) [] [] p2)
      (fun σZ HZ Q => σZ[i]? = some (some (.ref f)) ∧ HZ c' = some (CodeO c' (X.env.qual ++ "<lambda>")) ∧ tb σ HZ Q) := by
  refine ⟨fun pinsZ sZ σZ HZ Q IZ h => ?_⟩
  obtain ⟨hs, hc, ht⟩ := h
  refine wpAny_Call_Name_kw (thn ((pe_var (pos := p1) (i := i) hN hv hd hcd).run pinsZ sZ σZ HZ (fun v H1 => v = .ref f ∧ H1 = HZ) IZ ⟨.ref f, hs, rfl, rfl⟩) fun u s1 ⟨v, H1, I1, r1, q1⟩ => ?_)
  obtain ⟨ev, eH⟩ := q1
  subst ev
  rw [eH] at I1
  obtain rfl : u = Value.ref f := r1
  have of1 : s1.heap.get? f = some (PySem.W.kla_obj "<lambda>" (X.env.qual ++ "<lambda>") params body scope (cloFrom X.env.cells scope.names []) pm c' ctv) := I1.base.keep f _ hf hfn hfr (fun z => nomatch (show f ∈ ([] : List Addr) from z))
  refine PySem.W.callWith_F0 ⟨_, _, _, _, of1⟩ ?_
  have un : Un (frs X.stack) [] H HZ s.heap s1.heap := I1.base
  obtain ⟨⟨oc, vs, t, hoc, hdc, hvc⟩, _, _⟩ := I1.hok c' _ hc
  have rc : codeAny (model X.prog X.w) (X.A.deeper (envOfC qg sg s.heap.objs.size g cdg)) (.call (.ref f) ⟨[], []⟩) (CR (L2N.CX X.prog X.w) (envOfC qg sg s.heap.objs.size g cdg :: X.stack) X.prog X.w HZ s1 Q E) s1 := by
    refine PySem.W.kla_callFunE hr.depth of1 rfl L.co L.gen rfl ⟨c', oc, vs, t, rfl, hoc, hdc, hvc⟩ ?_
    rw [hbind]
    refine wpAny_pure (wpAny_newFunctionEnv (fun y hy => (L.own y hy).2) (fun y hy => absurd hy (by simp)) (fun h₁ hns hsb => ⟨I1.nolimit.fresh _ hsb, ?_⟩) L.kind)
    show codeAny _ _ (.expr body (lamEnv X scope s1.heap.objs.size f c')) _ _
    have kp : ∀ b o, s1.heap.get? b = some o → h₁.get? b = some o := fun b o e => hsb.extBut b o (Nat.ne_of_lt (Heap.lt_size e)) (Heap.get?_push_of_some _ e)
    have J : Inv (lamCxN X (X.A.deeper (envOfC qg sg s.heap.objs.size g cdg)) (envOfC qg sg s.heap.objs.size g cdg :: X.stack) s1 HZ E scope f c') [] σ HZ { s1 with heap := h₁, toks := s1.toks + ([] : List (Str × Value)).length } :=
      inv_wish (lam_start2 I L I1.env0 hr.hd un hns kp)
    refine PySem.W.kla_codeExpr (wpAny_mono ((hbody _ _ s1 HZ (hr.deeper _)).run [] _ _ HZ Q J ht) (fun v s' hq => ?_) fun e s' hq => hq)
    obtain ⟨w', H', J', rv, q⟩ := hq
    exact ⟨w', H', J'.os, J'.bare, J'.base, J'.hok, rv, q⟩
  have hx : Passes (L2N.CX X.prog X.w) ((cxOf CXg X.prog X.w X.K X.mg X.base Ng qg sg g cdg X.A X.stack s H Eg).tr pn xe) E := L2N.passes_call tk hW
  refine wpAny_call (codeAny_mono rc fun r s' hq => ?_)
  cases r with
  | error e => exact hx pinsZ σZ HZ s1 e s' I1 hq
  | ok fl =>
    cases fl with
    | ret u => exact I1.after hq
    | next => exact False.elim hq
    | brk => exact False.elim hq
    | cont => exact False.elim hq
end
def GivesToN (X : Cx) (Ng : List Str) (x : Str) (sg : Scope) (g : Addr) (cdg : Value) (bg : List Stmt) (a : Str) (q : Str) (TT : (XK → Hp → VK → Prop) → Hp → VK → Prop) : Prop :=
  ∀ (f c' : Addr) (s : Shared) (H : Hp) (Q : VK) (tl : XK → Hp → VK → Prop),
    (∀ (W : WX) (pn : List (Addr × Obj)) (xe : Value → Shared → Prop) (E : XK) (p1 p2 : Pos), L2N.Takes ((cxOf C8.CX0 X.prog X.w X.K X.mg X.base Ng x sg g cdg X.A X.stack s H C8.E0).tr pn xe) W → (∀ cls d σ' H', E cls d H' → W cls d σ' H') →
      PE ((cxOf C8.CX0 X.prog X.w X.K X.mg X.base Ng x sg g cdg X.A X.stack s H C8.E0).tr pn xe) (.Call (.Name a p1) [] [] p2) (fun σZ HZ Q => σZ[0]? = some (some (.ref f)) ∧ HZ c' = some (CodeO c' q) ∧ tl E HZ Q)) →
    H c' = some (CodeO c' q) → TT tl H Q →
    ∃ t, PSs (cxOf C8.CX0 X.prog X.w X.K X.mg X.base Ng x sg g cdg X.A X.stack s H C8.E0).nox bg t ∧ t { nx := fun _ H' => Q .non H', rt := Q } (L2.start Ng [.ref f]) H
def tLamN (T : List (Addr × Str)) (TT : (XK → Hp → VK → Prop) → Hp → VK → Prop) (t : XK → TE) : TE := fun σ H Q => Tabs T H ∧ ∀ H1, ExtN H H1 → (∀ b, H b ≠ none → H1 b ≠ none) → Tabs T H1 → TT (fun E H' Q' => t E σ H' Q') H1 Q
section
variable {X : Cx}
theorem pe_lamcallN {T : List (Addr × Str)} {TT : (XK → Hp → VK → Prop) → Hp → VK → Prop} {x a : Str} {g c P : Addr} {k : Nat} {pg : Arguments} {bg : List Stmt} {sg : Scope} {dV kV doc pm cdv ct oc : Value} {an od : Option Addr} {osl : Array (Option Value)} {Ng : List Str}
    {params : Arguments} {body : Expr} {scope : Scope} {t : XK → TE} {p lpos pos : Pos} (hg : Gl X x) (hm : X.mg x = some (.ref g)) (hk : PySem.W.keepIn X.K (.ref g) = true)
    (lk : X.K.lookup g = some ⟨oc, od, .func (PySem.W.fnOf x x pg bg sg dV kV doc pm an cdv ct), osl⟩) (hcg : PySem.W.codeIn X.K cdv x = true) (hb : L2.Binds X.K (PySem.W.fnOf x x pg bg sg dV kV doc pm an cdv ct) [a] []) (Sg : FnScope Ng [a] sg) (hNg : Ng[0]? = some a) (hva : Vis sg a)
    (hG : GivesToN X Ng x sg g cdv bg a (X.env.qual ++ "<lambda>") TT)
    (TB : TabB X.base X.mg c P) (hcode : X.env.code = .ref c) (hmT : (P, X.env.qual ++ "<lambda>") ∈ T) (hu : ∀ p ∈ T, p.1 = P → p.2 = X.env.qual ++ "<lambda>") (hr : Room (k + 2) X.A) (L : LamS X.env.scope scope) (hdef : defaultsOf params X.env = ([], []))
    (hbind : ∀ (q : Str) (cl : List (Str × Addr)) (pm cv ctv : Value), bindArgs (PySem.W.kla_fn "<lambda>" q params body scope cl pm cv ctv) ⟨[], []⟩ = pure [])
    (hbody : ∀ (A : Around) (outer : List Env) (s : Shared) (H : Hp) (E : XK) (f c' : Addr), Room k (A.deeper (lamEnv X scope s.heap.objs.size f c')) → PE (lamCxN X A outer s H E scope f c') body (t E))
    (hdb : (x == ("__debug__" : Str)) = false := by decide) (hd : (a == ("__debug__" : Str)) = false := by decide) (hcd : (a == ("__classdict__" : Str)) = false := by decide) :
    PE X (.Call (.Name x p) [.Lambda params body scope lpos] [] pos) (tLamN T TT t) := by
  refine ⟨fun pins s σ H Q I h => ?_⟩
  obtain ⟨hT, h⟩ := h
  refine wpAny_Call_Name_kw (ld_glob I hg hm ?_ hdb)
  refine PySem.W.callWith_K (h₀ := X.base) I.ok.mod.kin hk ?_ (by rfl) (by rfl)
  show wpAny _ _ (spliced ((false, eval (.Lambda params body scope lpos) X.env) :: backTo pos (starEach [] X.env))) _ _ s
  refine Calls.spliced_cons (lam_make3 I TB hcode hmT hu hT hdef (L.has I.ok) fun f c' pm' ctv H1 s' I1 eN dN T1 hf hfn hfr hco => ?_)
  refine Calls.spliced_nil ⟨I1.kIn, ?_⟩
  have rc : codeAny (model X.prog X.w) X.A (.call (.ref g) ⟨[.ref f], []⟩) (CR C8.CX0 X.stack X.prog X.w H1 s' Q C8.E0) s' := by
    refine run_ofS (N := Ng) (ps := [a]) (us := [.ref f]) (vs := [.ref f]) lk hcg Sg hr I1.env0 (hb s' [.ref f] I1.kIn rfl) (.cons rfl .nil) rfl fun hr' => ?_
    obtain ⟨t', ht', hq'⟩ := hG f c' s' H1 Q (fun E H' Q' => t E σ H' Q') (fun W pn xe E p1 p2 tk hW => pe_actN (i := 0) I1 L hf hfn hfr (hbind _ _ _ _ _) tk hW hr' (fun A outer s H hr2 => hbody A outer s H E f c' hr2) hNg hva hd hcd) hco (h H1 eN dN T1)
    exact ⟨t', ht'.nox, hq'⟩
  refine wpAny_call (codeAny_mono rc fun r s2 hq => ?_)
  cases r with
  | error e => exact (show False from hq).elim
  | ok fl =>
    cases fl with
    | ret u => exact I1.after hq
    | next => exact False.elim hq
    | brk => exact False.elim hq
    | cont => exact False.elim hq
end
end Mir

set_option Elab.async false
set_option linter.all false
set_option maxRecDepth 100000
set_option maxHeartbeats 4000000
/-! Mir, part N: told. -/
namespace Mir
open PySem PySem.Spec PyProof.Rows L2 HotX L2H LamX
def wordD (cl : Str) : D := .tup [.str "refused", .str cl]
/-- what is wished of an exception out of the lambda: the word is told -/
def EW (K : PySem.W.Frag) (T : List (Addr × Str)) (errs : List Str) (Q : VK) : XK := fun cls d H' => ∃ cl, cl ∈ errs ∧ cls = clsV K cl ∧ d = none ∧ ∃ g' st', WF K T g' H' st' ∧ ∀ v g'' H'', Ext g' H' g'' H'' → WF K T g'' H'' st' → Rep K g'' v (wordD cl) → Q v H''
def TTo (K : PySem.W.Frag) (T : List (Addr × Str)) (errs : List Str) : (XK → Hp → VK → Prop) → Hp → VK → Prop := fun tl H Q => tl (EW K T errs Q) H Q
structure Told (P : Program) (w : World) (K : PySem.W.Frag) (mg : Str → Option Value) (base : Heap) (T : List (Addr × Str)) (errs : List Str) (x : Str) (k : Nat) : Prop where
  ex : ∃ (g : Addr) (pg : Arguments) (bg : List Stmt) (sg : Scope) (Ng : List Str) (a : Str) (dV kV doc pm cdv ct oc : Value) (an od : Option Addr) (osl : Array (Option Value)),
    mg x = some (.ref g) ∧ PySem.W.keepIn K (.ref g) = true ∧ K.lookup g = some ⟨oc, od, .func (PySem.W.fnOf x x pg bg sg dV kV doc pm an cdv ct), osl⟩ ∧ PySem.W.codeIn K cdv x = true ∧ L2.Binds K (PySem.W.fnOf x x pg bg sg dV kV doc pm an cdv ct) [a] [] ∧ FnScope Ng [a] sg ∧ Ng[0]? = some a ∧ Vis sg a ∧
    (a == ("__debug__" : Str)) = false ∧ (a == ("__classdict__" : Str)) = false ∧ ∀ X : Cx, X.prog = P → X.w = w → X.K = K → X.mg = mg → X.base = base → Room (k + 1) X.A → ∀ q, GivesToN X Ng x sg g cdv bg a q (TTo K T errs)
theorem takes0N {X : Cx} : L2N.Takes X (fun _ _ _ _ => False) := fun _ _ x => by
  obtain ⟨_, _, _, _, _, _, _, _, _, _, _, _, _, _, _, _, z⟩ := x
  exact z.elim
theorem told_gives {X : Cx} {T : List (Addr × Str)} {errs : List Str} {Ng : List Str} {x a e n y q : Str} {sg : Scope} {g : Addr} {cdg : Value} {k : Nat} {p1 p2 p3 p4 p5 p6 p7 p8 p9 p10 : Pos} {Fw : Addr → Str → FD} (hr : Room (k + 1) X.A) (hN : Ng.Nodup) (hn : Ng[1]? = some n) (hln : sg.names.lookup n = some .local)
    (hge : sg.names.lookup e = some .globalImplicit) (hme : X.mg e = some (.ref (He.ga X.K e))) (hde : (e == ("__debug__" : Str)) = false) (h0 : ∀ f : Addr, (L2.start Ng [V.ref f])[0]? = some (some (V.ref f))) 
    (hgy : sg.names.lookup y = some .globalImplicit) (hdy : (y == ("__debug__" : Str)) = false) (hd : (n == ("__debug__" : Str)) = false) (hcd : (n == ("__classdict__" : Str)) = false)
    (hexm : ∀ cl ∈ errs, PySem.W.exmOne X.K (clsV X.K cl) (.ref (He.ga X.K e)) = some true)
    (hw : ∀ cl ∈ errs, ∀ (b : Addr) (oe : Obj), L2N.Zn (clsV X.K cl) none oe → (∃ vs, oe.data = .fields vs) → Hot X.prog X.w X.K X.mg X.base T y k (b, oe) (Fw b cl))
    (hv : ∀ cl ∈ errs, ∀ b st, Fw b cl [.exc b] st = .ok (wordD cl) st) :
    GivesToN X Ng x sg g cdg [.Try [.Return (some (.Call (.Name a p1) [] [] p2)) p3] [.ExceptHandler (some (.Name e p4)) (some n) [.Return (some (.Call (.Name y p9) [.Name n p10] [] p5)) p6] p7] [] [] p8] a q (TTo X.K T errs) := by
  intro f c' s H Q tl act hc h
  have hgl : Gl (cxOf C8.CX0 X.prog X.w X.K X.mg X.base Ng x sg g cdg X.A X.stack s H C8.E0).nox e := hge
  refine ⟨_, pss_one (L2N.ps_try_as (X := (cxOf C8.CX0 X.prog X.w X.K X.mg X.base Ng x sg g cdg X.A X.stack s H C8.E0).nox) (c := .ref (He.ga X.K e)) (i := 1) (Wout := fun _ _ _ _ => False)
      (tb := fun W D σ H => ∃ Ech : XK, (∀ cls d σ' H', Ech cls d H' → W cls d σ' H') ∧ σ[0]? = some (some (.ref f)) ∧ H c' = some (CodeO c' q) ∧ tl Ech H D.rt)
      (ts := fun b cls d D σ H => ∃ cl, cl ∈ errs ∧ cls = clsV X.K cl ∧ d = none ∧ (1 < σ.length → ∃ v, σ[1]? = some (some v) ∧ spOf X.K T (Fw b cl) [v] H D.rt C8.E0))
      rfl rfl hN hn hln ⟨hgl, hde, .inl hme⟩ takes0N (fun W pn xe tk _ => ?_) (fun b oe cls d pn hz hf => ?_)), ?_⟩
  · refine ⟨fun pins s' σ H' D I h' => ?_⟩
    obtain ⟨Ech, hW, h1, h2, h3⟩ := h'
    have hp := act W pn xe Ech p1 p2 tk hW
    have hq := pss_one (ps_ret (pos := p3) hp)
    exact hq.run pins s' σ H' D I ⟨h1, h2, h3⟩
  · refine ⟨fun pins s' σ H' D I h' => ?_⟩
    obtain ⟨cl, hcl, rfl, rfl, hh⟩ := h'
    have W := hw cl hcl b oe hz hf
    obtain ⟨vs, hvs⟩ := hf
    have hot : Hot1 ((cxOf C8.CX0 X.prog X.w X.K X.mg X.base Ng x sg g cdg X.A X.stack s H C8.E0).nox.suite b ((b, oe) :: pn)).A (b, oe) := ⟨rfl, vs, hvs, hz.2.2 vs hvs⟩
    have hr2 := hr.deeper (envOfC x sg s.heap.objs.size g cdg)
    have hq := pss_one (ps_ret (pos := p6) (pe_hot (X := (cxOf C8.CX0 X.prog X.w X.K X.mg X.base Ng x sg g cdg X.A X.stack s H C8.E0).nox.suite b ((b, oe) :: pn)) (T := T) (i := 1) (q := p9) (p1 := p10) (pos := p5) W ⟨hr2.dp, hr2.un⟩ hot List.mem_cons_self hgy hn (.inl hln) hdy hd hcd rfl))
    have l1 : 1 < Ng.length := (List.getElem?_eq_some_iff.mp hn).1
    have l2 : σ.length = Ng.length := I.len
    exact hq.run pins s' σ H' D I (hh (by omega))
  · refine ⟨EW X.K T errs Q, fun cls d σ' H' ⟨cl, hcl, e1, e2, g', st', w', hk⟩ => ⟨true, ?_, fun _ b _ => ⟨cl, hcl, e1, e2, fun hl => ⟨.ref b, ?_, g', st', [.exc b], w',   .cons .exc .nil, ?_⟩⟩, fun z => Bool.noConfusion z⟩, h0 f, hc, h⟩
    · rw [e1]; exact hexm cl hcl
    · exact List.getElem?_set_self (by rw [List.length_set] at hl; exact hl)
    · rw [hv cl hcl b st']
      exact hk
theorem told_mk {P : Program} {w : World} {K : PySem.W.Frag} {mg : Str → Option Value} {base : Heap} {T : List (Addr × Str)} {errs : List Str} {x a e n y : Str} {pg : Arguments} {sg : Scope} {g : Addr} {fd : FuncData} {k : Nat} {p1 p2 p3 p4 p5 p6 p7 p8 p9 p10 : Pos} {Fw : Addr → Str → FD}
    (F : FunD K x x pg [.Try [.Return (some (.Call (.Name a p1) [] [] p2)) p3] [.ExceptHandler (some (.Name e p4)) (some n) [.Return (some (.Call (.Name y p9) [.Name n p10] [] p5)) p6] p7] [] [] p8] sg [] [] g fd) (hm : mg x = some (.ref g)) (hb : Binds K fd [a] []) (S : FnScope [a, n] [a] sg) (hva : Vis sg a) (hln : sg.names.lookup n = some .local)
    (hge : sg.names.lookup e = some .globalImplicit) (hme : mg e = some (.ref (He.ga K e))) (hgy : sg.names.lookup y = some .globalImplicit)
    (hexm : ∀ cl ∈ errs, PySem.W.exmOne K (clsV K cl) (.ref (He.ga K e)) = some true)
    (hw : ∀ cl ∈ errs, ∀ (b : Addr) (oe : Obj), L2N.Zn (clsV K cl) none oe → (∃ vs, oe.data = .fields vs) → Hot P w K mg base T y k (b, oe) (Fw b cl))
    (hv : ∀ cl ∈ errs, ∀ b st, Fw b cl [.exc b] st = .ok (wordD cl) st)
    (hda : (a == ("__debug__" : Str)) = false := by decide) (hca : (a == ("__classdict__" : Str)) = false := by decide) (hde : (e == ("__debug__" : Str)) = false := by decide) (hdy : (y == ("__debug__" : Str)) = false := by decide) (hd : (n == ("__debug__" : Str)) = false := by decide) (hcd : (n == ("__classdict__" : Str)) = false := by decide) : Told P w K mg base T errs x k := by
  obtain ⟨oc, od, dV, kV, doc, pm, an, cdv, ct, osl, efd, lk, hcg, _, _⟩ := F.ex
  subst efd
  refine ⟨g, pg, _, sg, [a, n], a, dV, kV, doc, pm, cdv, ct, oc, an, od, osl, hm, F.kp, lk, hcg, hb, S, rfl, hva, hda, hca, fun X e1 e2 e3 e4 e5 hr q => ?_⟩
  subst e1 e2 e3 e4 e5
  exact told_gives hr S.nd rfl hln hge hme hde (fun f => rfl) hgy hdy hd hcd hexm hw hv
/-- _law_told(lambda: e) -/
def eTold (errs : List Str) (f : ED) : ED := fun τ s => match f τ s with
  | .ok d s' => .ok d s'
  | .exc cl s' => if cl ∈ errs then .ok (wordD cl) s' else .no
  | .no => .no
theorem wf_lam {K : PySem.W.Frag} {T : List (Addr × Str)} {g : Gh} {H H1 : Hp} {s : Sto} (w : WF K T g H s) (e : ExtN H H1) (t : Tabs T H1) : WF K T g H1 s where
  sub := fun a o h => e a o (w.sub a o h) (fun ps z => w.notab a ps (by rw [h, z]))
  inj := w.inj
  out := w.out
  sto := fun n o h => by
    obtain ⟨a, h1, h2⟩ := w.sto n o h
    obtain ⟨u, hu, nt⟩ := h2.there
    exact ⟨a, h1, h2.move (Le.refl g) ((e a u hu nt).trans hu.symm)⟩
  nxt := w.nxt
  tab := t
  notab := w.notab
theorem ext_lam {g : Gh} {H H1 : Hp} (e : ExtN H H1) (d : ∀ b, H b ≠ none → H1 b ≠ none) : Ext g H g H1 := ⟨Le.refl g, fun a o h _ nt => e a o h nt, fun _ _ => rfl, fun _ _ h => .inl h, d⟩
theorem de_told {c : Ctx} {errs : List Str} {x : Str} {k : Nat} {cc PT : Addr} {params : Arguments} {body : Expr} {scope : Scope} {fb : ED} {p lpos pos : Pos} (h : Told c.X.prog c.X.w c.X.K c.X.mg c.X.base c.T errs x k) (TB : TabB c.X.base c.X.mg cc PT) (hcode : c.X.env.code = .ref cc) (hT : c.T = [(PT, c.X.env.qual ++ "<lambda>")]) (hr : Room (k + 2) c.X.A)
    (hbody : ∀ (A : Around) (outer : List Env) (s : Shared) (H : Hp) (E : XK) (f c' : Addr), Room k (A.deeper (lamEnv c.X scope s.heap.objs.size f c')) → DE .z ⟨lamCxN c.X A outer s H E scope f c', c.T, E, c.O⟩ body fb)
    (L : lamSB c.X.env.scope scope = true := by kernel_rfl) (hdef : defaultsOf params c.X.env = ([], []) := by rfl)
    (hbind : ∀ (q : Str) (cl : List (Str × Addr)) (pm cv ctv : Value), bindArgs (PySem.W.kla_fn "<lambda>" q params body scope cl pm cv ctv) ⟨[], []⟩ = pure [] := by intro _ _ _ _ _; rfl)
    (hg : Gl c.X x := by rfl) (hdb : (x == ("__debug__" : Str)) = false := by decide) :
    DE .z c (.Call (.Name x p) [.Lambda params body scope lpos] [] pos) (eTold errs fb) := by
  obtain ⟨g, pg, bg, sg, Ng, a, dV, kV, doc, pm, cdv, ct, oc, an, od, osl, hm, hk, lk, hcg, hb, S, h0, hva, hda, hca, hG⟩ := h.ex
  refine de_mk (pe_lamcallN (T := c.T) (t := fun E => tEK .z c.X.K c.T E c.O fb) hg hm hk lk hcg hb S h0 hva (hG c.X rfl rfl rfl rfl rfl (hr.mono (by omega)) _) TB hcode (by rw [hT]; exact List.mem_cons_self) (fun q hq _ => ?_) hr (lamS_by L) hdef hbind (fun A outer s H E f c' hr' => (hbody A outer s H E f c' hr').can) hdb hda hca) fun g H s σ τ Q o h => ?_
  · rw [hT] at hq
    have : q = (PT, c.X.env.qual ++ "<lambda>") := by simpa using hq
    rw [this]
  · refine ⟨o.wf.tab, fun H1 eN dN tN => ?_⟩
    have w1 := wf_lam o.wf eN tN
    have e1 : Ext g H g H1 := ext_lam eN dN
    refine ⟨g, s, τ, w1, o.sl.ext e1, ?_⟩
    unfold eTold at h
    cases z : fb τ s with
    | ok d s' =>
      rw [z] at h
      exact fun g' H' e' w' v rv => h g' H' (e1.trans e') w' v rv
    | exc cl s' =>
      rw [z] at h
      have h : Pg c g H _ (if cl ∈ errs then R.ok (wordD cl) s' else R.no) := h
      by_cases hc : cl ∈ errs
      · rw [if_pos hc] at h
        exact fun g' H' e' w' => ⟨cl, hc, rfl, rfl, g', s', w', fun v g'' H'' e'' w'' r'' => h g'' H'' ((e1.trans e').trans e'') w'' v r''⟩
      · rw [if_neg hc] at h
        exact h.elim
    | no => rw [z] at h; exact h
theorem lam_tk {X : Cx} {A : Around} {outer : List Env} {s : Shared} {H : Hp} {E : XK} {scope : Scope} {f c' : Addr} : L2N.Takes (lamCxN X A outer s H E scope f c') (fun cls d _ H => E cls d H) := L2N.takes_of (X := lamCxN X A outer s H E scope f c') (E := E) rfl rfl rfl rfl
theorem lam_hx {X : Cx} {A : Around} {outer : List Env} {s : Shared} {H : Hp} {E : XK} {scope : Scope} {f c' : Addr} : Passes (L2N.CX X.prog X.w) (lamCxN X A outer s H E scope f c') E := L2N.passes_call (X := lamCxN X A outer s H E scope f c') lam_tk fun _ _ _ _ h => h
/-! ### the law's def, whose code object has a table -/
theorem fn_mkT {P : Program} {w : World} {K : PySem.W.Frag} {mg : Str → Option Value} {base : Heap} {T : List (Addr × Str)} {x qual : Str} {params : Arguments} {body : List Stmt} {scope : Scope} {f : Addr} {fd : FuncData} {kws : List (Str × V)} {N ps : List Str} {k : Nat} {b : SD} (O : Nat → Bool) (F : FunD K x qual params body scope [] kws f fd) (S : FnScope N ps scope) (hf : f = He.fAd K (x, none))
    (hbody : ∀ (A : Around) (outer : List Env) (s : Shared) (H : Hp) (E : XK), Room k (A.deeper (envOfC qual scope s.heap.objs.size f (.ref (He.codeOf K (x, none))))) →
      Passes (L2N.CX P w) (cxD P w K mg base T N qual scope f (.ref (He.codeOf K (x, none))) A outer s H E O).X E → (L2N.Takes (cxD P w K mg base T N qual scope f (.ref (He.codeOf K (x, none))) A outer s H E O).X fun cls d _ H => E cls d H) → PassesOwn (model P w) (cxD P w K mg base T N qual scope f (.ref (He.codeOf K (x, none))) A outer s H E O).X.A (cxD P w K mg base T N qual scope f (.ref (He.codeOf K (x, none))) A outer s H E O).X.env (cxD P w K mg base T N qual scope f (.ref (He.codeOf K (x, none))) A outer s H E O).X.xe →
      DSs (cxD P w K mg base T N qual scope f (.ref (He.codeOf K (x, none))) A outer s H E O) body b) (hO : (List.range ps.length).all (fun i => !O i) = true := by rfl) : FnOk P w K mg base (L2N.CX P w) (k + 1) f fd ps (spOf K T (fnM ps.length N.length b)) := by
  obtain ⟨oc, od, dV, kV, doc, pm, an, cdv, ct, osl, efd, lk, hcd, hx1, hx2⟩ := F.ex
  obtain ⟨cc, ec⟩ := He.codeIn_ref hcd
  have e1 : cdv = .ref (He.codeOf K (x, none)) := by
    rw [ec, He.codeOf_eq (K := K) (p := (x, none)) (fd := fd) (by rw [← hf]; exact lk) (by rw [efd]; exact ec)]
  subst efd
  refine fn_of lk hcd S (fun vs H Q E h => ?_) fun A outer s H vs Q E hr h => ?_
  · obtain ⟨g, st, ds, w1, r, h⟩ := h
    rw [r.length]
    unfold fnM at h
    by_cases q : ds.length = ps.length
    · exact q
    · rw [if_neg q] at h; exact h.elim
  · have tk := L2N.takes_of (X := cxOf (L2N.CX P w) P w K mg base N qual scope f (.ref (He.codeOf K (x, none))) A outer s H E) (E := E) rfl rfl rfl rfl
    rw [e1] at hr ⊢
    obtain ⟨t, p, q⟩ := hbody A outer s H E hr (L2N.passes_call tk fun _ _ _ _ h => h) tk (passes_of (X := cxOf (L2N.CX P w) P w K mg base N qual scope f (.ref (He.codeOf K (x, none))) A outer s H E) rfl)
    refine ⟨t, p, ?_⟩
    obtain ⟨g, st, ds, w1, r, h⟩ := h
    obtain ⟨hl, h2⟩ := body_end (c := cxD P w K mg base T N qual scope f (.ref (He.codeOf K (x, none))) A outer s H E O) (N := N) (np := ps.length) h fun _ _ _ z => z
    exact q g H g H st (L2.start N vs) _ _ (SOk.start (c := cxD P w K mg base T N qual scope f (.ref (He.codeOf K (x, none))) A outer s H E O) (N := N) (np := ps.length) w1 r hl fun i hi => by
      have := List.all_eq_true.mp hO i (List.mem_range.mpr hi)
      simpa using this) h2
end Mir

set_option Elab.async false
set_option linter.all false
set_option maxRecDepth 100000
set_option maxHeartbeats 4000000
/-! Mir, part P: enumerate of a text; tuple targets. -/
namespace Mir
open PySem PySem.Spec PyProof.Rows L2
theorem striter_ty (x : Str) : strIterType x = "str_ascii_iterator" ∨ strIterType x = "str_iterator" := by
  unfold strIterType
  split
  · exact .inl rfl
  · exact .inr rfl
def IteS (x : Str) : It := ⟨fun i _ => i < x.cps.size, fun i H v H' => ∃ T c, x.cps[i]? = some c ∧ v = .ref T ∧ H T = none ∧ H' = upd H T (.tup [.int (i : Nat), .str ⟨#[c]⟩]), fun i _ => x.cps.size ≤ i⟩
theorem draws_str {prog : Program} {w : World} {A : Around} (hh : A.handled = none) (it : Addr) (x : Str) (t : Tok) :
    Draws prog w A it [it] x.cps.size (fun i v => ∃ c u, x.cps[i]? = some c ∧ v = .str ⟨#[c]⟩ u) (fun i h => h.IsStrIter it (strIterType x) x t i) := by
  rcases striter_ty x with e | e
  · rw [e]; exact Draws.strAscii hh it x t
  · rw [e]; exact Draws.strWide hh it x t
theorem turn_enumS {P : Program} {w : World} {K : PySem.W.Frag} {elts : List Expr} {kk : Nat} {tpos : Pos} (e it : Addr) (x : Str) (t : Tok) :
    Turn P w K (.Tuple elts kk tpos) (IteS x) [e, it] e (fun i h => (∃ old, IsEnum h e it ((i : Nat) : Int) old) ∧ h.IsStrIter it (strIterType x) x t i ∧ e ≠ it ∧ i ≤ x.cps.size) where
  mem := by simp
  obj := fun i h st b hb => by
    obtain ⟨⟨old, he⟩, ⟨o, ho, hc, hd⟩, _⟩ := st
    have e' : b = e ∨ b = it := by simpa using hb
    rcases e' with z | z
    · rw [z]; exact ⟨_, he, fun v q => nomatch q⟩
    · rw [z]; exact ⟨o, ho, fun v q => by rw [hd] at q; cases q⟩
  keep := fun i h h' st k => let ⟨⟨old, he⟩, ⟨o, ho, r⟩, hne⟩ := st; ⟨⟨old, k e (by simp) _ he⟩, ⟨o, k it (by simp) o ho, r⟩, hne⟩
  item := by
    intro X hP hw hK hc i pins s σ H E I hf st hg
    subst hP hw hK
    obtain ⟨⟨old, he⟩, hit, hne, hle⟩ := st
    have hel : e < s.heap.objs.size := Heap.lt_size he
    have hil : it < s.heap.objs.size := by obtain ⟨_, q, _⟩ := hit; exact Heap.lt_size q
    have D : Draws X.prog X.w X.A.in1 it [it] x.cps.size (fun i v => ∃ c u, x.cps[i]? = some c ∧ v = .str ⟨#[c]⟩ u) (fun i h => h.IsStrIter it (strIterType x) x t i) := draws_str (A := X.A.in1) (I.ok.hd hc) it x t
    refine wpAny_pyNext_enum_itemD D he hit hg hne (by simpa using hne) fun u h' tk hu ho hit' hT hsz hk => ?_
    obtain ⟨c, ut, hcx, rfl⟩ := hu
    refine ⟨_, rfl, wpAny_letOwnedTupleGo_enum (s := { s with heap := h', toks := tk + 1 }) ho fun h'' he' sb => ?_⟩
    have hT2 : h''.get? s.heap.objs.size = some { cls := .type "tuple", data := .seq #[.int i tk, .str ⟨#[c]⟩ ut] } := (sb.2 _ (Nat.ne_of_gt hel)).trans hT
    have new : ObjOk X.prog X.w (upd H s.heap.objs.size (.tup [.int (i : Nat), .str ⟨#[c]⟩])) h'' s.heap.objs.size (.tup [.int (i : Nat), .str ⟨#[c]⟩]) :=
      ⟨by show 2 ≤ sizeLine; decide, [.int i tk, .str ⟨#[c]⟩ ut], .cons ⟨_, rfl⟩ (.cons ⟨_, rfl⟩ .nil), ⟨_, hT2, rfl, _, rfl⟩⟩
    have I1 : Inv X pins σ (upd H s.heap.objs.size (.tup [.int (i : Nat), .str ⟨#[c]⟩])) { s with heap := h'', toks := tk + 1 } :=
      I.turnedNew (ch := [e, it]) (fun b ob hb q => (sb.2 b (fun z => hb (by simp [z]))).trans (hk b ob (fun z => hb (by simp [z])) (fun z => hb (by simp [z])) q)) hf (Nat.le_refl _) new
    refine ⟨.ref s.heap.objs.size, _, I1, rfl, ⟨_, c, hcx, rfl, I.hok.fresh (Nat.le_refl _), rfl⟩, ⟨⟨.str ⟨#[c]⟩ ut, ?_⟩, ?_, hne, hg⟩, fun b hb => ?_⟩
    · have e1 : ((i + 1 : Nat) : Int) = (i : Int) + 1 := by omega
      rw [e1]; exact he'
    · obtain ⟨o, q, r⟩ := hit'
      exact ⟨o, (sb.2 it (Ne.symm hne)).trans q, r⟩
    · have hb' : b < s.heap.objs.size := by
        have e' : b = e ∨ b = it := by simpa using hb
        rcases e' with z | z
        · rw [z]; exact hel
        · rw [z]; exact hil
      rw [upd_ne (Nat.ne_of_lt hb')]
      exact (hf b hb).1
  done := by
    intro X hP hw hK hc i pins s σ H E I hf st hg
    subst hP hw hK
    obtain ⟨⟨old, he⟩, hit, hne, hle⟩ := st
    have hi : i = x.cps.size := Nat.le_antisymm hle hg
    subst hi
    obtain ⟨f0, f1, f2, f3, f4, f5⟩ := hf it (by simp)
    have D : Draws X.prog X.w X.A.in1 it [it] x.cps.size (fun i v => ∃ c u, x.cps[i]? = some c ∧ v = .str ⟨#[c]⟩ u) (fun i h => h.IsStrIter it (strIterType x) x t i) := draws_str (A := X.A.in1) (I.ok.hd hc) it x t
    exact wpAny_pyNext_enum_endD D he hit fun h' eb => ⟨rfl, I.turned (t' := s.toks) (fun b o hb q => eb b o hb q) f0 f1 f3 f4 f5⟩
  self := fun A i s Q E st h => let ⟨⟨_, he⟩, _⟩ := st; wpAny_pyIter_enum he h
def iEnumS (ta : TA) : TI := fun σ H R => ta σ H fun vs H1 => ∃ x, vs = [.str x] ∧ R (IteS x) H1
theorem pi_enumS {X : Cx} {e : Expr} {ta : TA} {p pos tpos : Pos} {elts : List Expr} {kk : Nat} (hg : Gl X "enumerate") (hm : X.mg "enumerate" = none) (ha : PA X [e] ta) (hs : starEach [e] X.env = [(false, eval e X.env)] := by rfl) :
    PI X (.Tuple elts kk tpos) (.Call (.Name "enumerate" p) [e] [] pos) (iEnumS ta) := by
  refine ⟨fun pins s σ H R I h => ?_⟩
  refine Call_ (ld_blt I hg hm boot_enumerate (PyProof.Rows.callWith_type1 (thn (ha.run pos pins s σ H _ I h) fun us s1 ⟨vs, H1, I1, r1, q1⟩ => ?_) hs rfl))
  obtain ⟨x, ex, q⟩ := q1
  subst ex
  cases r1 with
  | cons r rr =>
    cases rr
    obtain ⟨t, rfl⟩ := r
    refine call_enumerate_str fun h' he hit hsz hk => wpAny_pyIter_enum he ?_
    have I2 : Inv X pins σ H1 { s1 with heap := h' } := I1.kept (t' := s1.toks) hk
    refine ⟨s1.heap.objs.size + 1, [s1.heap.objs.size + 1, s1.heap.objs.size], _, _, H1, rfl, I2, turn_enumS (s1.heap.objs.size + 1) s1.heap.objs.size x t, ⟨⟨.none, he⟩, hit, Nat.succ_ne_self _, Nat.zero_le _⟩, fun b hb => ?_, q⟩
    have e' : b = s1.heap.objs.size + 1 ∨ b = s1.heap.objs.size := by simpa using hb
    have hle : s1.heap.objs.size ≤ b := by
      rcases e' with z | z
      · rw [z]; exact Nat.le_add_right _ _
      · rw [z]; exact Nat.le_refl _
    exact I1.fpOk hle (I1.hok.fresh hle)
section
variable {c : Ctx}
def enumSD : List D → Option (List D)
  | [.str x] => some (enumFrom 0 (x.cps.toList.map fun k => .str ⟨#[k]⟩))
  | _ => none
theorem di_enumS {e : Expr} {f : AD} {elts : List Expr} {kk : Nat} {p pos tpos : Pos} (ha : DA .z c [e] f) (hm : c.X.mg "enumerate" = none) (hg : Gl c.X "enumerate" := by rfl)
    (hs : starEach [e] c.X.env = [(false, eval e c.X.env)] := by rfl) : DI c (.Tuple elts kk tpos) (.Call (.Name "enumerate" p) [e] [] pos) (iN enumSD f) := by
  obtain ⟨t, pt, qt⟩ := ha
  refine ⟨iEnumS t, pi_enumS hg hm pt hs, fun g H s σ τ R o h => qt g H s σ τ _ o (Pg.seq h fun xs s1 g1 H1 er e1 w1 h1 vs rs => ?_)⟩
  clear er
  obtain ⟨b, eb, k⟩ := h1.opt
  unfold enumSD at eb
  split at eb
  · rename_i x
    cases eb
    obtain ⟨v, rfl, r1⟩ := rs.one
    have r1 : Rep c.X.K g1 v (.str x) := r1
    cases r1
    refine ⟨x, rfl, k g1 H1 (Ext.refl _ _) w1 _ ⟨fun i d hd g2 H2 s2 l2 w2 => ?_, fun g2 H2 s2 l2 w2 => ?_⟩⟩
    · obtain ⟨y, hy, rfl⟩ := enum_get _ 0 i d hd
      rw [List.getElem?_map] at hy
      cases hc : x.cps.toList[i]? with
      | none => rw [hc] at hy; cases hy
      | some kc =>
        rw [hc] at hy
        cases hy
        have hc' : x.cps[i]? = some kc := by rw [← Array.getElem?_toList]; exact hc
        refine ⟨(Array.getElem?_eq_some_iff.mp hc').1, fun z H3 hz => ?_⟩
        obtain ⟨T, c1, h1, rfl, hT, e3⟩ := hz
        rw [hc'] at h1; cases h1
        rw [Nat.zero_add]
        exact gives_new (g1 := g1) (g3 := g1) w2 hT (.cons (.int _) (.cons (.str _) .nil)) e3
    · show x.cps.size ≤ _
      rw [enum_len, List.length_map, Array.length_toList]
      exact Nat.le_refl _
  · cases eb
/-! ### a, b = e -/
def sAsg (f : ED) (tg : D → Ev → Option Ev) : SD := fun τ s => (f τ s).bind fun d => match tg d τ with
  | some τ1 => M.ret (.nx τ1)
  | none => fun _ => .no
theorem ds_asg {tg e : Expr} {f : ED} {ws : List Nat} {fg : D → Ev → Option Ev} {pos : Pos} (he : DE .z c e f) (hg : DG c tg ws fg) (hO : ws.all (fun i => !c.O i) = true := by rfl) (hs : swapsWithSole [tg] e pos.line c.X.env = pure false := by rfl) (hw : swappedStores [tg] e c.X.env = pure none := by rfl)
    (h1 : (assignEach [tg] c.X.env).map (·.2) = [assign tg c.X.env] := by rfl) : DS c (.Assign [tg] e pos) (sAsg f fg) := by
  obtain ⟨t, pt, qt⟩ := he
  obtain ⟨u, pg, qg⟩ := hg
  have hO : ∀ i ∈ ws, c.O i = false := fun i hi => by
    have := List.all_eq_true.mp hO i hi
    simpa using this
  refine ⟨_, ps_asg pt pg hs hw h1, fun g0 H0 g H s σ τ Dn o h => qt g H s σ τ _ o.ok (Ps.seq o h fun d s1 g1 H1 _ e1 w1 o1 h6 v rv => ?_)⟩
  cases z : fg d τ with
  | none => rw [z] at h6; exact h6.elim
  | some τ1 =>
    rw [z] at h6
    exact qg g1 H1 s1 σ τ v d τ1 _ w1 rv z fun σ1 a => h6 g1 H1 σ1 (Le.refl _) (o1.wr hO a)
end
end Mir

set_option Elab.async false
set_option linter.all false
set_option maxRecDepth 100000
set_option maxHeartbeats 4000000
/-! Mir, part Q: what the generated text leans on. -/
theorem L2H.RoomH.units {k : Nat} {A : PySem.Around} (r : L2H.RoomH k A) : A.units + 64 < PySem.cLine := by have := r.un; omega
namespace Mir
open PySem PySem.Spec PyProof.Rows L2
structure WordF (K : PySem.W.Frag) (errs : List Str) : Prop where
  c : ∀ cl ∈ errs, ExcC K (He.ga K cl)
  k : ∀ cl ∈ errs, ∀ x ∈ errs, PySem.W.kitOne K (.ref (He.ga K cl)) (.ref (He.ga K x)) = some (cl == x)
  v : ∀ cl ∈ errs, PySem.W.kitOne K (.ref (He.ga K cl)) (.type "ValueError") = some true
theorem Told.mono {P : Program} {w : World} {K : PySem.W.Frag} {mg : Str → Option Value} {base : Heap} {T : List (Addr × Str)} {errs : List Str} {x : Str} {j k : Nat} (h : Told P w K mg base T errs x j) (hj : j ≤ k) : Told P w K mg base T errs x k := by
  obtain ⟨g, pg, bg, sg, Ng, a, dV, kV, doc, pm, cdv, ct, oc, an, od, osl, hm, hk, lk, hcg, hb, S, h0, hva, hda, hca, hG⟩ := h.ex
  exact ⟨g, pg, bg, sg, Ng, a, dV, kV, doc, pm, cdv, ct, oc, an, od, osl, hm, hk, lk, hcg, hb, S, h0, hva, hda, hca, fun X e1 e2 e3 e4 e5 hr q => hG X e1 e2 e3 e4 e5 (hr.mono (by omega)) q⟩
theorem eIsE_here (a : Addr) (b : Bool) (τ : Ev) (s : Sto) : eIsE 0 a b (some (.exc a) :: τ) s = .ok (.bl b) s := by simp [eIsE]
end Mir
namespace Mir
open PySem PySem.Spec PyProof.Rows L2
theorem passLN {X : Cx} : Passes (L2N.CX X.prog X.w) X W0 := fun pins σ H s e s' I c => by
  obtain ⟨_, _, _, _, _, _, _, _, _, _, _, _, z⟩ := c
  exact z.elim
end Mir
namespace Mir
open PySem PySem.Spec PyProof.Rows L2 LamX
theorem lamD_hx {X : Cx} {A : Around} {outer : List Env} {s : Shared} {H : Hp} {E : XK} {scope : Scope} {f c' : Addr} {T : List (Addr × Str)} {O : Nat → Bool} : Passes (L2N.CX (Ctx.mk (lamCxN X A outer s H E scope f c') T E O).X.prog (Ctx.mk (lamCxN X A outer s H E scope f c') T E O).X.w) (Ctx.mk (lamCxN X A outer s H E scope f c') T E O).X (Ctx.mk (lamCxN X A outer s H E scope f c') T E O).W := lam_hx (X := X) (A := A) (outer := outer) (s := s) (H := H) (E := E) (scope := scope) (f := f)
end Mir
namespace Mir
open PySem PySem.Spec PyProof.Rows L2
theorem eIsE_at (i : Nat) (a : Addr) (b : Bool) (τ : Ev) (s : Sto) (h : τ[i]? = some (some (.exc a))) : eIsE i a b τ s = .ok (.bl b) s := by
  unfold eIsE
  rw [h]
  simp
theorem seqE {a b : SD} {τ τ' : Ev} {s s' : Sto} {r : R Fl} (h : a τ s = .ok (.nx τ') s') (h2 : b τ' s' = r) : sSeq a b τ s = r := by
  unfold sSeq
  rw [h]
  exact h2
theorem isEok (a : Addr) (b : Bool) (x y z : Option D) (s : Sto) : eIsE 0 a b [some (D.exc a), x, y, z] s = .ok (.bl b) s := eIsE_at 0 a b _ s rfl
end Mir
namespace Mir
open PySem PySem.Spec PyProof.Rows L2
theorem notIsE (a : Addr) (b : Bool) (x y z : Option D) : tNotD (tB1 (eIsE 0 a b)) [some (D.exc a), x, y, z] = fun s => .ok (!b) s := funext fun s => by
  simp only [tNotD, tB1, isEok]
  rfl
end Mir

set_option Elab.async false
set_option linter.all false
set_option maxRecDepth 100000
set_option maxHeartbeats 4000000
/-! Mir, part R: the end. -/
namespace Mir
open PySem PySem.Spec PyProof.Rows L2 LamX
def wordB1 (K : PySem.W.Frag) (D : Addr) : Bool := He.eqO (PySem.W.findIn K (.ref D) "__getattribute__") (some (some (.builtin "BaseException.__getattribute__"))) && (He.eqO (PySem.W.findIn K (.ref D) "__getattr__") (some none) && (decide (PySem.W.subIn K (.ref D) (.type "BaseException") = some true) && (PySem.W.hasDictIn K D && (He.eqO (PySem.W.findIn K (.ref D) "__class__") (some (some (.builtin "object.__class__"))) && (He.eqO (PySem.W.specialIn K (.builtin "object.__class__") "__get__") (some (some (.builtin "getset_descriptor.__get__"))) && (decide (PySem.W.takesIn K (.builtin "object.__class__") = some true) && decide (PySem.W.mroIn K D (.type "object") = some true)))))))
theorem wordB1_ok {K : PySem.W.Frag} {D : Addr} (h : wordB1 K D = true) : ExcC K D := by
  obtain ⟨h1, h⟩ := He.ba h
  obtain ⟨h2, h⟩ := He.ba h
  obtain ⟨h3, h⟩ := He.ba h
  obtain ⟨h4, h⟩ := He.ba h
  obtain ⟨h5, h⟩ := He.ba h
  obtain ⟨h6, h⟩ := He.ba h
  obtain ⟨h7, h8⟩ := He.ba h
  exact ⟨He.eqO_ok h1, He.eqO_ok h2, of_decide_eq_true h3, h4, He.eqO_ok h5, He.eqO_ok h6, of_decide_eq_true h7, of_decide_eq_true h8⟩
def wordB (errs : List Str) (K : PySem.W.Frag) : Bool := errs.all fun cl => wordB1 K (He.ga K cl) && ((errs.all fun x => decide (PySem.W.kitOne K (.ref (He.ga K cl)) (.ref (He.ga K x)) = some (cl == x))) && decide (PySem.W.kitOne K (.ref (He.ga K cl)) (.type "ValueError") = some true))
theorem wordB_ok {errs : List Str} {K : PySem.W.Frag} (h : wordB errs K = true) : WordF K errs := by
  have key : ∀ cl ∈ errs, _ := fun cl hcl => He.ba (List.all_eq_true.mp h cl hcl)
  exact ⟨fun cl hcl => wordB1_ok (key cl hcl).1, fun cl hcl x hx => of_decide_eq_true (List.all_eq_true.mp (He.ba (key cl hcl).2).1 x hx), fun cl hcl => of_decide_eq_true (He.ba (key cl hcl).2).2⟩
theorem excF_ok {K : PySem.W.Frag} {h : Heap} {mg : Str → Option Value} {x : Str} (X : K.In h) (G : h.Ns mainGlobals mg) (a : (He.Fa.glo x).ok K = true) (b : (He.Fa.exc x).ok K = true) : ExcF K mg x := by
  obtain ⟨h1, h2, h3, h4⟩ := He.exc_ok b
  exact ⟨He.glo_ok X G a, h1, h2, h3, h4⟩
/-- the law's promise, at its script -/
theorem law_sp {K : PySem.W.Frag} {T : List (Addr × Str)} {F : FD} {H : Hp} {a : Addr} {ns : List Int} (hT : Tabs T H) (hs : SqL K H a (ns.map V.int)) (hF : ∃ s', F [.scr ns] [] = .ok (.bl true) s') : spOf K T F [.ref a] H (fun v _ => v = .bl true) fun _ _ _ => False := by
  obtain ⟨s', hF⟩ := hF
  have key : ∃ G : Hp, (∀ b o, G b = some o → H b = some o) ∧ (∀ b ps, G b ≠ some (.tbl ps)) ∧ SqL K G a (ns.map V.int) := by
    rcases hs with (hs | ⟨o, hs⟩) | hs
    · refine ⟨fun b => if b = a then some (.lst (ns.map V.int)) else none, fun b o e => ?_, fun b ps e => ?_, .inl (.inl (if_pos rfl))⟩
      · by_cases z : b = a
        · subst z; simp only [if_true] at e; cases e; exact hs
        · simp only [if_neg z] at e; cases e
      · by_cases z : b = a
        · simp only [if_pos z] at e; cases e
        · simp only [if_neg z] at e; cases e
    · refine ⟨fun b => if b = a then some (.frz o (.lst (ns.map V.int))) else none, fun b o e => ?_, fun b ps e => ?_, .inl (.inr ⟨o, if_pos rfl⟩)⟩
      · by_cases z : b = a
        · subst z; simp only [if_true] at e; cases e; exact hs
        · simp only [if_neg z] at e; cases e
      · by_cases z : b = a
        · simp only [if_pos z] at e; cases e
        · simp only [if_neg z] at e; cases e
    · exact ⟨fun _ => none, fun _ _ e => (by cases e), fun _ _ e => (by cases e), .inr hs⟩
  obtain ⟨G, h1, h2, h3⟩ := key
  refine ⟨⟨G, fun _ => none⟩, [], [.scr ns], ⟨h1, fun _ _ _ e => (by cases e), fun _ _ e => (by cases e), fun n o e => ?_, fun _ _ e => (by cases e), hT, h2⟩, .cons (.scr h3) .nil, ?_⟩
  · simp at e
  · rw [hF]
    intro v g' H' _ _ r
    cases r
    rfl
end Mir

set_option Elab.async false
set_option linter.all false
set_option maxRecDepth 100000
set_option maxHeartbeats 4000000
/-! Mir, part O: objects of the store. -/
namespace Mir
open PySem PySem.Spec PyProof.Rows L2
/-! ### the store grows, an object of it changes -/
def Gh.addR (g : Gh) (n : Nat) (p : Addr) : Gh := { g with r := fun m => if m = n then some p else g.r m }
section
variable {K : PySem.W.Frag} {T : List (Addr × Str)} {g g' g0 : Gh} {H H' H0 : Hp} {s : Sto}
theorem Gh.addR_at {n : Nat} {p : Addr} : (g.addR n p).r n = some p := if_pos rfl
theorem WF.addR_le (w : WF K T g H s) {p : Addr} : Le g (g.addR s.length p) := ⟨fun _ _ h => h, fun n a h => by
  have := w.nxt n a h
  show (if n = s.length then some p else g.r n) = some a
  rw [if_neg (by omega)]; exact h⟩
theorem WF.push (w : WF K T g H s) {p : Addr} {ob : Ob} (hp : g.G p = none) (hr : ∀ n, g.r n ≠ some p) (ok : ObOk K g H p ob) : WF K T (g.addR s.length p) H (s ++ [ob]) where
  sub := w.sub
  inj := fun n m a h1 h2 => by
    have h1 : (if n = s.length then some p else g.r n) = some a := h1
    have h2 : (if m = s.length then some p else g.r m) = some a := h2
    by_cases e1 : n = s.length <;> by_cases e2 : m = s.length
    · rw [e1, e2]
    · rw [if_pos e1] at h1; cases h1; rw [if_neg e2] at h2; exact absurd h2 (hr m)
    · rw [if_pos e2] at h2; cases h2; rw [if_neg e1] at h1; exact absurd h1 (hr n)
    · rw [if_neg e1] at h1; rw [if_neg e2] at h2; exact w.inj n m a h1 h2
  out := fun n a h o ho => by
    have h : (if n = s.length then some p else g.r n) = some a := h
    have ho : g.G a = some o := ho
    by_cases e : n = s.length
    · rw [if_pos e] at h; cases h; rw [hp] at ho; cases ho
    · rw [if_neg e] at h; exact w.out n a h o ho
  sto := fun n o h => by
    by_cases e : n < s.length
    · rw [List.getElem?_append_left e] at h
      obtain ⟨a, h1, h2⟩ := w.sto n o h
      exact ⟨a, w.addR_le.r n a h1, h2.move w.addR_le rfl⟩
    · have hl := (List.getElem?_eq_some_iff.mp h).1
      rw [List.length_append, List.length_singleton] at hl
      have en : n = s.length := by omega
      subst en
      rw [List.getElem?_append_right (Nat.le_refl _), Nat.sub_self] at h
      cases h
      exact ⟨p, Gh.addR_at, ok.move w.addR_le rfl⟩
  nxt := fun n a h => by
    have h : (if n = s.length then some p else g.r n) = some a := h
    rw [List.length_append, List.length_singleton]
    by_cases e : n = s.length
    · omega
    · rw [if_neg e] at h; have := w.nxt n a h; omega
  tab := w.tab
  notab := w.notab
theorem Ext.push (e : Ext g0 H0 g H) (w : WF K T g H s) {p : Addr} (hp : H0 p = none) : Ext g0 H0 (g.addR s.length p) H where
  le := e.le.trans w.addR_le
  keep := e.keep
  newG := e.newG
  newR := fun n a h => by
    have h : (if n = s.length then some p else g.r n) = some a := h
    by_cases q : n = s.length
    · rw [if_pos q] at h; cases h; exact .inr hp
    · rw [if_neg q] at h; exact e.newR n a h
  dom := e.dom
theorem WF.gfree (w : WF K T g H s) {n : Nat} {a : Addr} {ob : Ob} (hn : s[n]? = some ob) (ha : g.r n = some a) (hl : ∀ kds, ob ≠ .lck kds) : g.G a = none := by
  cases hq : g.G a with
  | none => rfl
  | some o =>
    obtain ⟨od, kvs, rfl⟩ := w.out n a ha o hq
    have hH := w.sub a _ hq
    obtain ⟨b, hb, k⟩ := w.sto n ob hn
    rw [ha] at hb; cases hb
    cases k with
    | lst h1 _ => rw [hH] at h1; cases h1
    | dct h1 _ => rw [hH] at h1; cases h1
    | ins h1 _ => rw [hH] at h1; cases h1
    | lck _ _ _ => exact absurd rfl (hl _)
theorem WF.setAt (w : WF K T g H s) {n : Nat} {a : Addr} {u' : HO} {ob ob' : Ob} (hn : s[n]? = some ob) (ha : g.r n = some a) (ok : ObOk K g (upd H a u') a ob') (hl : ∀ kds, ob ≠ .lck kds := by intro _ h; cases h) : WF K T g (upd H a u') (s.set n ob') where
  sub := fun b o h => by
    rw [upd_ne (fun q => by subst q; rw [w.gfree hn ha hl] at h; cases h)]; exact w.sub b o h
  inj := w.inj
  out := w.out
  sto := fun m o h => by
    by_cases e : n = m
    · subst e
      have hl := (List.getElem?_eq_some_iff.mp hn).1
      rw [List.getElem?_set_self hl] at h
      cases h
      exact ⟨a, ha, ok⟩
    · rw [List.getElem?_set_ne e] at h
      obtain ⟨b, h1, h2⟩ := w.sto m o h
      exact ⟨b, h1, h2.move (Le.refl g) (upd_ne fun q => by subst q; exact e (w.inj n m _ ha h1))⟩
  nxt := fun m b h => by rw [List.length_set]; exact w.nxt m b h
  tab := fun q hq => by
    obtain ⟨ps, h1, h2, h3⟩ := w.tab q hq
    obtain ⟨b, hb, k⟩ := w.sto n ob hn
    rw [ha] at hb; cases hb
    obtain ⟨u, hu, su⟩ := k.stb
    have n1 : q.1 ≠ a := fun z => by rw [z, hu] at h1; exact su.ntbl ps (Option.some.inj h1)
    refine ⟨ps, by rw [upd_ne n1]; exact h1, h2, fun pos cv hc => ?_⟩
    obtain ⟨c, e1, e2⟩ := h3 pos cv hc
    refine ⟨c, e1, ?_⟩
    rw [upd_ne fun z => ?_]
    · exact e2
    · rw [z, hu] at e2; exact su.ncode _ _ (Option.some.inj e2)
  notab := w.notab
theorem Ext.setAt {n : Nat} {a : Addr} {u' : HO} (ha : g.r n = some a) : Ext g H g (upd H a u') where
  le := Le.refl g
  keep := fun b o h k _ => by rw [upd_ne (fun q => by subst q; exact k n ha)]; exact h
  newG := fun _ _ => rfl
  newR := fun _ _ h => .inl h
  dom := fun b h => by
    by_cases q : b = a
    · subst q; rw [upd_same]; simp
    · rw [upd_ne q]; exact h
/-- what is new and one's own goes into the store -/
def obOf : D → Option Ob
  | .lst xs => some (.lst xs)
  | .dct kvs => some (.dct kvs)
  | _ => none
theorem KR.zip {κ : Type} : ∀ {ks : List κ} {xs : List V} {ds : List D}, Reps K g xs ds → KR K g (ks.zip xs) (ks.zip ds)
  | [], _, _, _ => by simp only [List.zip_nil_left]; exact .nil
  | _ :: _, _, _, .nil => by simp only [List.zip_nil_right]; exact .nil
  | k :: ks, _, _, .cons h r => by
    simp only [List.zip_cons_cons]
    exact .cons h (KR.zip r)
theorem KR.unzip {κ : Type} : ∀ {kvs : List (κ × V)} {kds : List (κ × D)}, KR K g kvs kds → ∃ (ks : List κ) (xs : List V) (ds : List D), kvs = ks.zip xs ∧ kds = ks.zip ds ∧ ks.length = xs.length ∧ Reps K g xs ds
  | _, _, .nil => ⟨[], [], [], rfl, rfl, rfl, .nil⟩
  | _, _, .cons (k := k) (v := v) (d := d) h r => by
    obtain ⟨ks, xs, ds, e1, e2, e3, e4⟩ := KR.unzip r
    exact ⟨k :: ks, v :: xs, d :: ds, by rw [e1]; rfl, by rw [e2]; rfl, by simp [e3], .cons h e4⟩
theorem RK.sto {v : V} {d : D} {ob : Ob} (e : Ext g H g' H') (w : WF K T g' H' s) (h : RK .o K g' H H' v d) (hb : obOf d = some ob) : ∃ g2, Ext g H g2 H' ∧ WF K T g2 H' (s ++ [ob]) ∧ Rep K g2 v (.obj s.length) := by
  rcases h with ⟨hc, _⟩ | ⟨h, p, hp, hn⟩
  · cases d <;> first | (cases hc; done) | (cases hb; done)
  · subst hp
    cases h with
    | lst h1 h2 h3 h4 =>
      cases hb
      exact ⟨_, e.push w hn, w.push h1 h2 (.lst h3 h4), .obj Gh.addR_at⟩
    | dct h1 h2 h3 l h4 =>
      cases hb
      exact ⟨_, e.push w hn, w.push h1 h2 (.dct h3 (KR.zip h4)), .obj Gh.addR_at⟩
end
section
variable {c : Ctx}
def eSto (f : ED) : ED := fun τ s => (f τ s).bind fun d s => match obOf d with
  | some ob => .ok (.obj s.length) (s ++ [ob])
  | none => .no
theorem de_sto {e : Expr} {f : ED} (h : DE .o c e f) : DE .z c e (eSto f) := by
  obtain ⟨t, p, q⟩ := h
  refine ⟨t, p, fun g H s σ τ Q o h => q g H s σ τ Q o ?_⟩
  unfold eSto at h
  cases r : f τ s with
  | ok d s' =>
    rw [r] at h
    have h : Pg c g H (fun d _ g' H' => ∀ v, RK Kd.z c.X.K g' H H' v d → Q v H') (match obOf d with | some ob => R.ok (D.obj s'.length) (s' ++ [ob]) | none => R.no) := h
    intro g' H' e' w' v hv
    cases hb : obOf d with
    | none => rw [hb] at h; exact h.elim
    | some ob =>
      rw [hb] at h
      obtain ⟨g2, e2, w2, r2⟩ := hv.sto e' w' hb
      exact h g2 H' e2 w2 v r2
  | exc cl s' => rw [r] at h; exact h
  | no => rw [r] at h; exact h
/-! ### fields -/
def fldO (cs : List Str) (f : Str) (s : Sto) : D → Option D
  | .obj n => match s[n]? with
    | some (.ins cl fs) => if cl ∈ cs then fs.lookup f else none
    | _ => none
  | _ => none
def eFld (cs : List Str) (f : Str) (a : ED) : ED := fun τ s => (a τ s).bind fun x s => M.opt (fldO cs f s x) s
structure FldF (K : PySem.W.Frag) (cs : List Str) (f : Str) : Prop where
  c : ∀ cl ∈ cs, Cls K (He.ga K cl)
  n : ∀ cl ∈ cs, NoAttr K (He.ga K cl) f
theorem KR.lookup {K : PySem.W.Frag} {g : Gh} {f : Str} {d : D} : ∀ {fs : List (Str × V)} {fds : List (Str × D)}, KR K g fs fds → fds.lookup f = some d → ∃ v, fs.lookup f = some v ∧ Rep K g v d
  | _, _, .nil, e => by cases e
  | _, _, .cons (k := k) (v := v) (d := d') (r := r) (r' := r') h q, e => by
    rw [List.lookup_cons] at e ⊢
    cases z : f == k with
    | true => rw [z] at e; cases e; exact ⟨v, rfl, h⟩
    | false => rw [z] at e; obtain ⟨u, h1, h2⟩ := KR.lookup q e; exact ⟨u, h1, h2⟩
theorem KR.lookupN {K : PySem.W.Frag} {g : Gh} {f : Str} : ∀ {fs : List (Str × V)} {fds : List (Str × D)}, KR K g fs fds → fds.lookup f = none → fs.lookup f = none
  | _, _, .nil, _ => rfl
  | _, _, .cons (k := k) (r := r) (r' := r') h q, e => by
    rw [List.lookup_cons] at e ⊢
    cases z : f == k with
    | true => rw [z] at e; cases e
    | false => rw [z] at e; exact KR.lookupN q e
theorem Rep.obj_at {K : PySem.W.Frag} {T : List (Addr × Str)} {g : Gh} {H : Hp} {s : Sto} {v : V} {n : Nat} {ob : Ob} (w : WF K T g H s) (h : Rep K g v (.obj n)) (hs : s[n]? = some ob) : ∃ a, v = .ref a ∧ g.r n = some a ∧ ObOk K g H a ob := by
  cases h with
  | @obj a _ hr =>
    obtain ⟨b, h1, h2⟩ := w.sto n ob hs
    rw [hr] at h1; cases h1
    exact ⟨_, rfl, hr, h2⟩
theorem de_fld {e : Expr} {f : Str} {fe : ED} {k : Kd} {cs : List Str} {pos : Pos} (F : FldF c.X.K cs f) (he : DE k c e fe) (hb : attributeBase e f c.X.env (eval e c.X.env) = eval e c.X.env := by rfl) : DE .z c (.Attribute e f pos) (eFld cs f fe) := by
  obtain ⟨t, p, q⟩ := he
  refine de_mk (pe_fld p hb) fun g H s σ τ Q o h => q g H s σ τ _ o (Pg.seq h fun x s1 g1 H1 _ e1 w1 h1 v rx => ?_)
  obtain ⟨d, ed, k1⟩ := h1.opt
  unfold fldO at ed
  split at ed
  · rename_i n
    split at ed
    · rename_i cl fs hs
      split at ed
      · rename_i hc
        obtain ⟨a, rfl, hr, ok⟩ := Rep.obj_at w1 rx.rep hs
        cases ok with
        | @ins _ dx fv _ ha kr =>
          obtain ⟨u, l1, l2⟩ := kr.lookup ed
          exact ⟨a, _, dx, fv, u, rfl, ha, F.c cl hc, F.n cl hc, l1, k1 g1 H1 (Ext.refl _ _) w1 u l2⟩
      · cases ed
    · cases ed
  · cases ed
def putFD (f : Str) (d : D) : List (Str × D) → List (Str × D)
  | [] => [(f, d)]
  | (g, x) :: r => if g = f then (g, d) :: r else (g, x) :: putFD f d r
theorem KR.putF {K : PySem.W.Frag} {g : Gh} {f : Str} {v : V} {d : D} (h : Rep K g v d) : ∀ {fs : List (Str × V)} {fds : List (Str × D)}, KR K g fs fds → KR K g (L2.putF f v fs) (putFD f d fds)
  | _, _, .nil => .cons h .nil
  | _, _, .cons (k := k) h' q => by
    unfold L2.putF putFD
    by_cases e : k = f
    · rw [if_pos e, if_pos e]; exact .cons h q
    · rw [if_neg e, if_neg e]; exact .cons h' (KR.putF h q)
theorem KR.length {κ : Type} {K : PySem.W.Frag} {g : Gh} : ∀ {fs : List (κ × V)} {fds : List (κ × D)}, KR K g fs fds → fs.length = fds.length
  | _, _, .nil => rfl
  | _, _, .cons _ q => congrArg (· + 1) (KR.length q)
/-- the store behind x.f = v -/
def setFld (cs : List Str) (f : Str) (v : D) (s : Sto) : D → Option Sto
  | .obj n => match s[n]? with
    | some (.ins cl fs) => if cl ∈ cs then (if fs.length < 1000 then some (s.set n (.ins cl (putFD f v fs))) else none) else none
    | _ => none
  | _ => none
def sFldSet (cs : List Str) (f : Str) (a v : ED) : SD := fun τ s => (v τ s).bind fun y s => (a τ s).bind fun x s => match setFld cs f y s x with
  | some s' => .ok (.nx τ) s'
  | none => .no
theorem ds_fld {o value : Expr} {f : Str} {fa fv : ED} {k : Kd} {cs : List Str} {pos pos' : Pos} (F : FldF c.X.K cs f) (ho : DE k c o fa) (hv : DE .z c value fv) (hs : swapsWith value (some (.Attribute o f pos')) pos.line c.X.env = pure false := by rfl) :
    DS c (.Assign [.Attribute o f pos'] value pos) (sFldSet cs f fa fv) := by
  obtain ⟨t, p, q⟩ := ho
  obtain ⟨t', p', q'⟩ := hv
  refine ⟨sFld c.X.K t t' f, ps_fld p p' hs, fun g0 H0 g H s σ τ Dn o h => q' g H s σ τ _ o.ok (Ps.seq o h fun y s1 g1 H1 _ e1 w1 o1 h1 u ru => q g1 H1 s1 σ τ _ o1.ok (Ps.seq o1 h1 fun x s2 g2 H2 _ e2 w2 o2 h2 v rx => ?_))⟩
  have ru2 : Rep c.X.K g2 u y := Rep.mono e2.le ru
  unfold setFld at h2
  obtain ⟨n, rfl⟩ : ∃ n, x = .obj n := by
    cases x <;> first | exact h2.elim | exact ⟨_, rfl⟩
  dsimp only at h2
  cases hs2 : s2[n]? with
  | none => rw [hs2] at h2; exact h2.elim
  | some ob =>
    rw [hs2] at h2
    cases ob <;> first | exact h2.elim | skip
    rename_i cl fs
    dsimp only at h2
    by_cases hc : cl ∈ cs
    · rw [if_pos hc] at h2
      by_cases hl : fs.length < 1000
      · rw [if_pos hl] at h2
        obtain ⟨a, rfl, hr, ok⟩ := Rep.obj_at w2 rx.rep hs2
        cases ok with
        | @ins _ dx fv' _ ha kr =>
          refine ⟨a, _, dx, fv', rfl, ha, F.c cl hc, F.n cl hc, by rw [kr.length]; exact hl, ?_⟩
          exact h2 g2 _ σ (Le.refl _) (o2.ext' (Ext.setAt hr) (w2.setAt hs2 hr (.ins upd_same (kr.putF ru2))))
      · rw [if_neg hl] at h2; exact h2.elim
    · rw [if_neg hc] at h2; exact h2.elim
/-! ### methods, new instances -/
structure HasM (P : Program) (w : World) (K : PySem.W.Frag) (mg : Str → Option Value) (base : Heap) (T : List (Addr × Str)) (C m : Str) (k : Nat) (F : FD) : Prop where
  c : Cls K (He.ga K C)
  ex : ∃ f fd ps, Meth K (He.ga K C) m f ∧ Binds K fd ps [] ∧ FnOk P w K mg base (L2N.CX P w) k f fd ps (spOf K T F)
structure HasN (P : Program) (w : World) (K : PySem.W.Frag) (mg : Str → Option Value) (base : Heap) (T : List (Addr × Str)) (C : Str) (k : Nat) (F : FD) : Prop where
  g : mg C = some (.ref (He.ga K C))
  ex : ∃ f fd ps, Mk K (He.ga K C) f ∧ Binds K fd ps [] ∧ FnOk P w K mg base (L2N.CX P w) k f fd ps (spOf K T F)
abbrev HasMX (c : Ctx) (C m : Str) (k : Nat) (F : FD) : Prop := HasM c.X.prog c.X.w c.X.K c.X.mg c.X.base c.T C m k F
abbrev HasNX (c : Ctx) (C : Str) (k : Nat) (F : FD) : Prop := HasN c.X.prog c.X.w c.X.K c.X.mg c.X.base c.T C k F
/-- x is an instance of C without an attribute m of its own -/
def isIns (C m : Str) (s : Sto) : D → Bool
  | .obj n => match s[n]? with
    | some (.ins cl fs) => decide (cl = C) && (fs.lookup m).isNone
    | _ => false
  | _ => false
theorem isIns_ok {K : PySem.W.Frag} {T : List (Addr × Str)} {g : Gh} {H : Hp} {s : Sto} {v : V} {x : D} {C m : Str} (w : WF K T g H s) (r : Rep K g v x) (h : isIns C m s x = true) : ∃ a dx fs, v = .ref a ∧ H a = some (.ins (He.ga K C) dx fs) ∧ fs.lookup m = none := by
  unfold isIns at h
  split at h
  · rename_i n
    split at h
    · rename_i cl fs hs
      obtain ⟨h1, h2⟩ := Bool.and_eq_true_iff.mp h
      have h1 := of_decide_eq_true h1
      subst h1
      obtain ⟨a, rfl, hr, ok⟩ := Rep.obj_at w r hs
      cases ok with
      | @ins _ dx fv _ ha kr =>
        refine ⟨a, dx, fv, rfl, ha, kr.lookupN ?_⟩
        cases z : fs.lookup m with
        | none => rfl
        | some d => rw [z] at h2; cases h2
    · cases h
  · cases h
def eMeth (C m : Str) (F : FD) (a : ED) (fs : AD) : ED := fun τ s => (a τ s).bind fun x s => if isIns C m s x then (fs τ s).bind fun xs => F (x :: xs) else .no
theorem evs_meth {C m : Str} {F : FD} {fa : ED} {fs : AD} {ta : TE} {t : TA} (qa : Evs .z c ta fa) (qt : Eva .z c t fs) : Evs .z c (tMeth (He.ga c.X.K C) m (spOf c.X.K c.T F) [] c.W ta t) (eMeth C m F fa fs) := fun g H s σ τ Q o h =>
  qa g H s σ τ _ o (Pg.seq h fun x s1 g1 H1 _ e1 w1 h1 v rx => by
    by_cases hi : isIns C m s1 x = true
    · rw [if_pos hi] at h1
      have rx : Rep c.X.K g1 v x := rx
      obtain ⟨a, dx, fv, rfl, ha, hl⟩ := isIns_ok w1 rx hi
      refine ⟨a, dx, fv, rfl, ha, hl, qt g1 H1 s1 σ τ _ (o.ext e1 w1) (Pg.seq h1 fun xs s2 g2 H2 _ e2 w2 h2 vs rs => ?_)⟩
      show spOf c.X.K c.T F (V.ref a :: (vs ++ [])) H2 Q c.W
      rw [List.append_nil]
      exact h2.sp w2 (.cons (rx.mono e2.le) rs.reps) fun d s' v g' H' e' w' r' k => k v r'
    · rw [if_neg hi] at h1; exact h1.elim)
theorem de_meth {o e : Expr} {es : List Expr} {C m : Str} {j k : Nat} {F : FD} {fa : ED} {fs : AD} {pl : Sem Bool} {apos pos : Pos} (h : HasMX c C m j F) (hr : Room k c.X.A) (hx : Passes (L2N.CX c.X.prog c.X.w) c.X c.W) (ho : DE .z c o fa) (ha : DA .z c (e :: es) fs) (hjk : j ≤ k := by decide)
    (hst : starEach (e :: es) c.X.env = (false, eval e c.X.env) :: starEach es c.X.env := by rfl) (hpl : (backTo pos (starEach es c.X.env)).any (·.1) = false := by rfl)
    (ht : eval (.Call (.Attribute o m apos) (e :: es) [] pos) c.X.env = (do
      let ov ← eval o c.X.env
      standAt apos.atName
      let (f, first) ← holding [ov] (getMethod ov m pl)
      callWith pos f first (backTo pos (starEach (e :: es) c.X.env)) (backToKw pos (keywordEach [] c.X.env))) := by rfl) : DE .z c (.Call (.Attribute o m apos) (e :: es) [] pos) (eMeth C m F fa fs) := by
  obtain ⟨f, fd, ps, hm, hb, hf⟩ := h.ex
  obtain ⟨ta, pa, qa⟩ := ho
  obtain ⟨t, pt, qt⟩ := ha
  exact de_mk (pe_meth pa h.c hm hf (hr.mono hjk) hb .nil hx pt hst hpl ht) (evs_meth qa qt)
theorem eva_nil {k : Kd} : Eva k c tNil aNil := fun g H s σ τ Q o h => Pg.now h o.wf [] .nil
theorem de_meth0 {o : Expr} {C m : Str} {j k : Nat} {F : FD} {fa : ED} {pl : Sem Bool} {apos pos : Pos} (h : HasMX c C m j F) (hr : Room k c.X.A) (hx : Passes (L2N.CX c.X.prog c.X.w) c.X c.W) (ho : DE .z c o fa) (hjk : j ≤ k := by decide)
    (ht : eval (.Call (.Attribute o m apos) [] [] pos) c.X.env = (do
      let ov ← eval o c.X.env
      standAt apos.atName
      let (f, first) ← holding [ov] (getMethod ov m pl)
      callWith pos f first (backTo pos (starEach [] c.X.env)) (backToKw pos (keywordEach [] c.X.env))) := by rfl) : DE .z c (.Call (.Attribute o m apos) [] [] pos) (eMeth C m F fa aNil) := by
  obtain ⟨f, fd, ps, hm, hb, hf⟩ := h.ex
  obtain ⟨ta, pa, qa⟩ := ho
  exact de_mk (pe_meth0 pa h.c hm hf (hr.mono hjk) hb .nil hx ht) (evs_meth qa eva_nil)
/-- C(..) -/
def newF (C : Str) (F : FD) (xs : List D) : M D := fun s => (F (.obj s.length :: xs) (s ++ [.ins C []])).bind fun r s' => match r with
  | .non => .ok (.obj s.length) s'
  | _ => .no
def eNew (C : Str) (F : FD) (fs : AD) : ED := fun τ s => (fs τ s).bind (newF C F)
theorem evs_new {C : Str} {F : FD} {fs : AD} {t : TA} (qt : Eva .z c t fs) : Evs .z c (tMake (He.ga c.X.K C) (spOf c.X.K c.T F) [] c.W t) (eNew C F fs) := fun g H s σ τ Q o h =>
  qt g H s σ τ _ o (Pg.seq h fun xs s1 g1 H1 _ e1 w1 h1 vs rs => by
    intro x dx hx hdx hne
    rw [List.append_nil]
    have wd := w1.new (o := .own x) hdx
    have ed : Ext g1 H1 g1 (upd H1 dx (.own x)) := Ext.new hdx
    have hx1 : (upd H1 dx (.own x)) x = none := by rw [upd_ne (Ne.symm hne)]; exact hx
    have wx := wd.new (o := .ins (He.ga c.X.K C) dx []) hx1
    have ex : Ext g1 H1 g1 (upd (upd H1 dx (.own x)) x (.ins (He.ga c.X.K C) dx [])) := ed.trans (Ext.new hx1)
    have wp := wx.push (p := x) (ob := .ins C []) (wd.gne hx1) (fun n => wd.rne hx1) (.ins upd_same .nil)
    have ep := ex.push wx hx
    refine ⟨_, s1 ++ [.ins C []], .obj s1.length :: xs, wp, .cons (.obj Gh.addR_at) (rs.reps.mono wx.addR_le), ?_⟩
    unfold newF at h1
    cases r : F (.obj s1.length :: xs) (s1 ++ [.ins C []]) with
    | ok d s' =>
      rw [r] at h1
      intro v g' H' e' w' r'
      cases d <;> first | exact h1.elim | skip
      cases r'
      exact ⟨rfl, h1 g' H' (ep.trans e') w' _ (.obj (e'.le.r _ _ Gh.addR_at))⟩
    | exc cl s' => rw [r] at h1; exact fun g' H' e' w' => h1 g' H' (ep.trans e') w'
    | no => rw [r] at h1; exact h1)
theorem de_new {e : Expr} {es : List Expr} {C : Str} {j k : Nat} {F : FD} {fs : AD} {p pos : Pos} (h : HasNX c C j F) (hr : Room k c.X.A) (hx : Passes (L2N.CX c.X.prog c.X.w) c.X c.W) (ha : DA .z c (e :: es) fs) (hjk : j + 1 ≤ k := by decide) (hg : Gl c.X C := by rfl) (hdb : (C == ("__debug__" : Str)) = false := by decide)
    (he : starEach (e :: es) c.X.env = (false, eval e c.X.env) :: starEach es c.X.env := by rfl) (hpl : (backTo pos (starEach es c.X.env)).any (·.1) = false := by rfl) : DE .z c (.Call (.Name C p) (e :: es) [] pos) (eNew C F fs) := by
  obtain ⟨f, fd, ps, hm, hb, hf⟩ := h.ex
  obtain ⟨t, pt, qt⟩ := ha
  exact de_mk (pe_make hm hf (hr.mono hjk) hg h.g hb .nil hx pt hdb he hpl) (evs_new qt)
theorem de_new0 {C : Str} {j k : Nat} {F : FD} {p pos : Pos} (h : HasNX c C j F) (hr : Room k c.X.A) (hx : Passes (L2N.CX c.X.prog c.X.w) c.X c.W) (hjk : j + 1 ≤ k := by decide) (hg : Gl c.X C := by rfl) (hdb : (C == ("__debug__" : Str)) = false := by decide) : DE .z c (.Call (.Name C p) [] [] pos) (eNew C F aNil) := by
  obtain ⟨f, fd, ps, hm, hb, hf⟩ := h.ex
  exact de_mk (pe_make0 hm hf (hr.mono hjk) hg h.g hb .nil hx hdb) (evs_new eva_nil)
end
end Mir

set_option Elab.async false
set_option linter.all false
set_option maxRecDepth 100000
set_option maxHeartbeats 4000000
/-! Mir, part I: dicts and lists of the store read and changed; what is never reached. -/
namespace Mir
open PySem PySem.Spec PyProof.Rows L2
section
variable {c : Ctx}
/-! ### what is never reached: no promise -/
def eNo : ED := fun _ _ => .no
def sNo : SD := fun _ _ => .no
theorem de_no {k : Kd} {e : Expr} : DE k c e eNo := ⟨fun _ _ _ => False, ⟨fun _ _ _ _ _ _ h => h.elim⟩, fun _ _ _ _ _ _ _ h => h⟩
theorem ds_no {st : Stmt} : DS c st sNo := ⟨fun _ _ _ => False, ⟨fun _ _ _ _ _ _ h => h.elim⟩, fun _ _ _ _ _ _ _ _ _ h => h⟩
theorem dss_no {sts : List Stmt} : DSs c sts sNo := ⟨fun _ _ _ => False, ⟨fun _ _ _ _ _ _ h => h.elim⟩, fun _ _ _ _ _ _ _ _ _ h => h⟩
/-! ### either reading -/
theorem pe_or {X : Cx} {e : Expr} {t t' : TE} (h : PE X e t) (h' : PE X e t') : PE X e (fun σ H Q => t σ H Q ∨ t' σ H Q) := ⟨fun pins s σ H Q I q => q.elim (h.run pins s σ H Q I) (h'.run pins s σ H Q I)⟩
theorem ps_or {X : Cx} {st : Stmt} {t t' : TS} (h : PS X st t) (h' : PS X st t') : PS X st (fun D σ H => t D σ H ∨ t' D σ H) := ⟨fun pins s σ H D I q => q.elim (h.run pins s σ H D I) (h'.run pins s σ H D I)⟩
/-! ### dicts -/
def keyD : D → Option Key
  | .int i => some (.inl i)
  | .str x => some (.inr x)
  | _ => none
theorem keyD_ok {K : PySem.W.Frag} {g : Gh} {H0 H : Hp} {k : Kd} {v : V} {d : D} {q : Key} (r : RK k K g H0 H v d) (h : keyD d = some q) : v = kV q := by
  cases d <;> first | (cases h; done) | skip
  · cases h; exact r.int
  · cases h; exact r.str
def dGet (kvs : List (Key × D)) (k : Key) : Option D := (kvs.find? fun kv => decide (kv.1 = k)).map (·.2)
def dPut (kvs : List (Key × D)) (k : Key) (d : D) : List (Key × D) := if (kvs.any fun kv => decide (kv.1 = k)) = true then kvs.map (fun kv => if kv.1 = k then (kv.1, d) else kv) else kvs ++ [(k, d)]
def dDrop (kvs : List (Key × D)) (k : Key) : List (Key × D) := kvs.filter fun kv => decide (kv.1 ≠ k)
section
variable {K : PySem.W.Frag} {g : Gh} {k : Key}
theorem KR.val : ∀ {kvs : List (Key × V)} {kds : List (Key × D)}, KR K g kvs kds → (dGet kds k = none ∧ valV kvs k = none) ∨ ∃ d v, dGet kds k = some d ∧ valV kvs k = some v ∧ Rep K g v d
  | _, _, .nil => .inl ⟨rfl, rfl⟩
  | _, _, .cons (k := q) (v := v) (d := d) (r := r0) (r' := r') h r => by
    by_cases e : q = k
    · exact .inr ⟨d, v, by simp [dGet, List.find?_cons, e], valV_pos e, h⟩
    · rw [valV_neg e]
      have e2 : dGet ((q, d) :: r') k = dGet r' k := by unfold dGet; rw [List.find?_cons]; simp [e]
      rw [e2]
      exact KR.val r
theorem KR.any : ∀ {kvs : List (Key × V)} {kds : List (Key × D)}, KR K g kvs kds → (kvs.any fun kv => decide (kv.1 = k)) = (kds.any fun kv => decide (kv.1 = k))
  | _, _, .nil => rfl
  | _, _, .cons _ r => by rw [List.any_cons, List.any_cons, KR.any r]
theorem KR.app : ∀ {kvs kvs' : List (Key × V)} {kds kds' : List (Key × D)}, KR K g kvs kds → KR K g kvs' kds' → KR K g (kvs ++ kvs') (kds ++ kds')
  | _, _, _, _, .nil, q => q
  | _, _, _, _, .cons h r, q => .cons h (KR.app r q)
theorem KR.map {v : V} {d : D} (h : Rep K g v d) : ∀ {kvs : List (Key × V)} {kds : List (Key × D)}, KR K g kvs kds → KR K g (kvs.map fun kv => if kv.1 = k then (kv.1, v) else kv) (kds.map fun kv => if kv.1 = k then (kv.1, d) else kv)
  | _, _, .nil => .nil
  | _, _, .cons (k := q) h' r => by
    rw [List.map_cons, List.map_cons]
    by_cases e : q = k
    · rw [if_pos e, if_pos e]; exact .cons h (KR.map h r)
    · rw [if_neg e, if_neg e]; exact .cons h' (KR.map h r)
theorem KR.put {v : V} {d : D} (h : Rep K g v d) {kvs : List (Key × V)} {kds : List (Key × D)} (r : KR K g kvs kds) : KR K g (putK kvs k v) (dPut kds k d) := by
  unfold putK dPut
  rw [KR.any r]
  by_cases e : (kds.any fun kv => decide (kv.1 = k)) = true
  · rw [if_pos e, if_pos e]; exact KR.map h r
  · rw [if_neg e, if_neg e]; exact KR.app r (.cons h .nil)
theorem KR.drop : ∀ {kvs : List (Key × V)} {kds : List (Key × D)}, KR K g kvs kds → KR K g (dropK kvs k) (dDrop kds k)
  | _, _, .nil => .nil
  | _, _, .cons (k := q) h r => by
    unfold dropK dDrop
    rw [List.filter_cons, List.filter_cons]
    by_cases e : q = k
    · simp only [e, ne_eq, not_true, decide_false]; exact KR.drop r
    · simp only [e, ne_eq, not_false_iff, decide_true]; exact .cons h (KR.drop r)
theorem KR.keys : ∀ {kvs : List (Key × V)} {kds : List (Key × D)}, KR K g kvs kds → kvs.map (·.1) = kds.map (·.1)
  | _, _, .nil => rfl
  | _, _, .cons _ r => by rw [List.map_cons, List.map_cons, KR.keys r]
end
/-- the dict that a value is: to be read -/
def dctAt (s : Sto) : D → Option (List (Key × D))
  | .obj n => match s[n]? with
    | some (.dct kvs) => some kvs
    | some (.lck kvs) => some kvs
    | _ => none
  | .dct kvs => some kvs
  | _ => none
theorem dctAt_ok {K : PySem.W.Frag} {T : List (Addr × Str)} {g : Gh} {H0 H : Hp} {s : Sto} {v : V} {d : D} {kds : List (Key × D)} (w : WF K T g H s) (r : RK .b K g H0 H v d) (h : dctAt s d = some kds) : ∃ a kvs, v = .ref a ∧ Rd H a (.dK kvs) ∧ KR K g kvs kds := by
  unfold dctAt at h
  split at h
  · rename_i n
    split at h
    · rename_i kvs hs
      cases h
      obtain ⟨a, rfl, hr, ok⟩ := Rep.obj_at w r.rep hs
      cases ok with
      | dct h1 h2 => exact ⟨a, _, rfl, .inl h1, h2⟩
    · rename_i kvs hs
      cases h
      obtain ⟨a, rfl, hr, ok⟩ := Rep.obj_at w r.rep hs
      cases ok with
      | lck h1 _ h2 => exact ⟨a, _, rfl, .inr ⟨_, h1⟩, h2⟩
    · cases h
  · cases h
    obtain ⟨a, ks, xs, ds, rfl, e1, h1, hl, rs⟩ := r.dct w
    exact ⟨a, _, rfl, .inl h1, by rw [e1]; exact KR.zip rs⟩
  · cases h
def lstAt (s : Sto) : D → Option (List D)
  | .obj n => match s[n]? with
    | some (.lst xs) => some xs
    | _ => none
  | _ => none
theorem lstAt_ok {K : PySem.W.Frag} {T : List (Addr × Str)} {g : Gh} {H0 H : Hp} {s : Sto} {v : V} {d : D} {ds : List D} (w : WF K T g H s) (r : RK .b K g H0 H v d) (h : lstAt s d = some ds) : ∃ a xs, v = .ref a ∧ H a = some (.lst xs) ∧ Reps K g xs ds := by
  unfold lstAt at h
  split at h
  · rename_i n
    split at h
    · rename_i kvs hs
      cases h
      obtain ⟨a, rfl, hr, ok⟩ := Rep.obj_at w r.rep hs
      cases ok with
      | lst h1 h2 => exact ⟨a, _, rfl, h1, h2⟩
    · cases h
  · cases h
/-! ### operations that look at the store -/
def e2S (op : Sto → D → D → Option D) (a b : ED) : ED := fun τ s => (a τ s).bind fun x s => (b τ s).bind fun y s => M.opt (op s x y) s
def eNS (op : Sto → List D → Option D) (a : AD) : ED := fun τ s => (a τ s).bind fun xs s => M.opt (op s xs) s
def ixS (s : Sto) (x y : D) : Option D := match dctAt s x with
  | some kvs => (keyD y).bind (dGet kvs)
  | none => match lstAt s x, y with
    | some xs, .int i => atI xs i
    | _, _ => ixD x y
theorem de_ixS {a b : Expr} {fa fb : ED} {pos : Pos} (hu : c.X.A.units + 64 < cLine) (ha : DE .b c a fa) (hb : DE .b c b fb) (hs : PlainIx b := by intro _ _; rfl) (hs2 : NoSl b := by intro _ _; rfl) : DE .z c (.Subscript a b pos) (e2S ixS fa fb) := by
  obtain ⟨t1, p1, q1⟩ := de_ix (pos := pos) ha hb hs
  obtain ⟨ta, pa, qa⟩ := ha
  obtain ⟨tb, pb, qb⟩ := hb
  refine de_mk (pe_or p1 (pe_or (pe_dget (by omega) pa pb hs2) (pe_ix ix_seq pa pb hs))) fun g H s σ τ Q o h => ?_
  have qd : ∀ x s1 y s2, fa τ s = .ok x s1 → fb τ s1 = .ok y s2 → dctAt s2 x ≠ none → tDGet ta tb σ H Q := fun x s1 y s2 ea eb hd => by
    refine qa g H s σ τ _ o (Pg.seq h fun x' s1' g1 H1 er e1 w1 h1 v rx0 => qb g1 H1 s1' σ τ _ (o.ext e1 w1) (Pg.seq h1 fun y' s2' g2 H2 er' e2 w2 h2 u ry => ?_))
    rw [ea] at er; cases er
    rw [eb] at er'; cases er'
    have rx := rx0.extB (H1 := H1) e2
    clear rx0
    obtain ⟨d, ed, k⟩ := h2.opt
    unfold ixS at ed
    cases z : dctAt s2 x with
    | none => exact absurd z hd
    | some kvs =>
      rw [z] at ed
      cases z2 : keyD y with
      | none => rw [z2] at ed; cases ed
      | some q =>
        rw [z2] at ed
        have ed : dGet kvs q = some d := ed
        obtain ⟨p, kv, rfl, hp, kr⟩ := dctAt_ok w2 rx z
        have ey := keyD_ok ry z2
        subst ey
        rcases kr.val (k := q) with ⟨z3, _⟩ | ⟨d', v', z3, z4, r⟩
        · rw [ed] at z3; cases z3
        · rw [ed] at z3; cases z3
          exact ⟨p, v', rfl, .inl ⟨kv, q, hp, rfl, z4.symm⟩, k g2 H2 (Ext.refl _ _) w2 v' r⟩
  cases ea : fa τ s with
  | exc cl s1 => exact .inl (q1 g H s σ τ Q o (by unfold e2S at h; unfold Mir.e2; rw [ea] at h ⊢; exact h))
  | no => unfold e2S at h; rw [ea] at h; exact h.elim
  | ok x s1 =>
    cases eb : fb τ s1 with
    | exc cl s2 => exact .inl (q1 g H s σ τ Q o (by unfold e2S at h; unfold Mir.e2; rw [ea] at h ⊢; show Pg c g H _ ((fb τ s1).bind _); have h : Pg c g H _ ((fb τ s1).bind _) := h; rw [eb] at h ⊢; exact h))
    | no => unfold e2S at h; rw [ea] at h; have h : Pg c g H _ ((fb τ s1).bind _) := h; rw [eb] at h; exact h.elim
    | ok y s2 =>
      by_cases hd : dctAt s2 x = none
      · by_cases hl : lstAt s2 x = none
        · refine .inl (q1 g H s σ τ Q o ?_)
          unfold e2S at h; unfold Mir.e2
          rw [ea] at h ⊢
          have h : Pg c g H _ ((fb τ s1).bind fun y s => M.opt (ixS s x y) s) := h
          show Pg c g H _ ((fb τ s1).bind fun y => M.opt (ixD x y))
          rw [eb] at h ⊢
          have h : Pg c g H _ (M.opt (ixS s2 x y) s2) := h
          show Pg c g H _ (M.opt (ixD x y) s2)
          have e : ixS s2 x y = ixD x y := by unfold ixS; rw [hd, hl]
          rw [e] at h
          exact h
        · refine .inr (.inr (qa g H s σ τ _ o (Pg.seq h fun x' s1' g1 H1 er e1 w1 h1 v rx0 => qb g1 H1 s1' σ τ _ (o.ext e1 w1) (Pg.seq h1 fun y' s2' g2 H2 er' e2 w2 h2 u ry => ?_))))
          rw [ea] at er; cases er
          rw [eb] at er'; cases er'
          have rx := rx0.extB (H1 := H1) e2
          clear rx0
          obtain ⟨d, ed, k⟩ := h2.opt
          unfold ixS at ed
          rw [hd] at ed
          cases z : lstAt s2 x with
          | none => exact absurd z hl
          | some xs =>
            rw [z] at ed
            have hx : ∃ n, x = .obj n := by
              unfold lstAt at z
              split at z
              · exact ⟨_, rfl⟩
              · cases z
            obtain ⟨n, rfl⟩ := hx
            cases y <;> first | (cases ed; done) | skip
            rename_i i
            have ed : atI xs i = some d := ed
            obtain ⟨p, us, rfl, hp, rs⟩ := lstAt_ok w2 rx z
            obtain ⟨v', z4, r⟩ := rs.atI ed
            exact .inl ⟨p, us, i, v', rfl, ry.int, SqL.of hp, z4, k g2 H2 (Ext.refl _ _) w2 v' r⟩
      · exact .inr (.inl (qd x s1 y s2 ea eb hd))
/-! ### in -/
def inS2 (neg : Bool) (s : Sto) (x y : D) : Option D := match dctAt s y with
  | some kvs => (keyD x).map fun k => .bl (if neg then !(dGet kvs k).isSome else (dGet kvs k).isSome)
  | none => if neg then notInD x y else inD x y
theorem evs_inS {neg : Bool} {fa fb : ED} {ta tb t1 : TE} {f : D → D → Option D} (hf : ∀ x y, (if neg then notInD x y else inD x y) = f x y) (qa : Evs .b c ta fa) (qb : Evs .b c tb fb) (q1 : Evs .o c t1 (e2 f fa fb)) :
    Evs .o c (fun σ H Q => t1 σ H Q ∨ (fun σ H Q => ta σ H fun y H1 => tb σ H1 fun x H2 => ∃ a o, x = .ref a ∧ DGet H2 a y o ∧ Q (.bl (if neg then !o.isSome else o.isSome)) H2) σ H Q) (e2S (inS2 neg) fa fb) := fun g H s σ τ Q o h => by
  cases ea : fa τ s with
  | exc cl s1 => exact .inl (q1 g H s σ τ Q o (by unfold e2S at h; unfold Mir.e2; rw [ea] at h ⊢; exact h))
  | no => unfold e2S at h; rw [ea] at h; exact h.elim
  | ok x s1 =>
    cases eb : fb τ s1 with
    | exc cl s2 => exact .inl (q1 g H s σ τ Q o (by unfold e2S at h; unfold Mir.e2; rw [ea] at h ⊢; show Pg c g H _ ((fb τ s1).bind _); have h : Pg c g H _ ((fb τ s1).bind _) := h; rw [eb] at h ⊢; exact h))
    | no => unfold e2S at h; rw [ea] at h; have h : Pg c g H _ ((fb τ s1).bind _) := h; rw [eb] at h; exact h.elim
    | ok y s2 =>
      by_cases hd : dctAt s2 y = none
      · refine .inl (q1 g H s σ τ Q o ?_)
        unfold e2S at h; unfold Mir.e2
        rw [ea] at h ⊢
        have h : Pg c g H _ ((fb τ s1).bind fun y s => M.opt (inS2 neg s x y) s) := h
        show Pg c g H _ ((fb τ s1).bind fun y => M.opt (f x y))
        rw [eb] at h ⊢
        have h : Pg c g H _ (M.opt (inS2 neg s2 x y) s2) := h
        show Pg c g H _ (M.opt (f x y) s2)
        have e : inS2 neg s2 x y = f x y := by unfold inS2; rw [hd]; exact hf x y
        rw [e] at h
        exact h
      · refine .inr (qa g H s σ τ _ o (Pg.seq h fun x' s1' g1 H1 er e1 w1 h1 v rx0 => qb g1 H1 s1' σ τ _ (o.ext e1 w1) (Pg.seq h1 fun y' s2' g2 H2 er' e2 w2 h2 u ry => ?_)))
        rw [ea] at er; cases er
        rw [eb] at er'; cases er'
        have rx := rx0.extB (H1 := H1) e2
        clear rx0
        obtain ⟨d, ed, k⟩ := h2.opt
        unfold inS2 at ed
        cases z : dctAt s2 y with
        | none => exact absurd z hd
        | some kvs =>
          rw [z] at ed
          cases z2 : keyD x with
          | none => rw [z2] at ed; cases ed
          | some q =>
            rw [z2] at ed
            cases ed
            obtain ⟨p, kv, rfl, hp, kr⟩ := dctAt_ok w2 ry z
            have ey := keyD_ok rx z2
            subst ey
            refine ⟨p, valV kv q, rfl, .inl ⟨kv, q, hp, rfl, rfl⟩, ?_⟩
            have e : (valV kv q).isSome = (dGet kvs q).isSome := by
              rcases kr.val (k := q) with ⟨z3, z4⟩ | ⟨d', v', z3, z4, r⟩
              · rw [z3, z4]; rfl
              · rw [z3, z4]; rfl
            rw [e]
            exact k g2 H2 (Ext.refl _ _) w2 _ (.of (.bl _))
theorem de_inS {a b : Expr} {fa fb : ED} {pos : Pos} (hu : c.X.A.units + 64 < cLine) (ha : DE .b c a fa) (hb : DE .b c b fb) (hm : behindInMarks .In b = false := by first | exact nomark _ | rfl) : DE .o c (.Compare a [.In] [b] pos) (e2S (inS2 false) fa fb) := by
  obtain ⟨t1, p1, q1⟩ := de_cmp (pos := pos) od_in ha hb hm
  obtain ⟨ta, pa, qa⟩ := ha
  obtain ⟨tb, pb, qb⟩ := hb
  exact de_mk (pe_or p1 (pe_cmp (pc_din (by omega) pa pb) hm)) (evs_inS (neg := false) (fun _ _ => rfl) qa qb q1)
theorem de_notInS {a b : Expr} {fa fb : ED} {pos : Pos} (hu : c.X.A.units + 64 < cLine) (ha : DE .b c a fa) (hb : DE .b c b fb) (hm : behindInMarks .NotIn b = false := by first | exact nomark _ | rfl) : DE .o c (.Compare a [.NotIn] [b] pos) (e2S (inS2 true) fa fb) := by
  obtain ⟨t1, p1, q1⟩ := de_cmp (pos := pos) od_notIn ha hb hm
  obtain ⟨ta, pa, qa⟩ := ha
  obtain ⟨tb, pb, qb⟩ := hb
  exact de_mk (pe_or p1 (pe_cmp (pc_dnotin (by omega) pa pb) hm)) (evs_inS (neg := true) (fun _ _ => rfl) qa qb q1)
theorem pc_op {X : Cx} {op : CmpOp} {a b : Expr} {ta tb : TE} {r : R2} (ho : OpR X (compareOp op) r) (ha : PE X a ta) (hb : PE X b tb) : PC X op a b (tOp r ta tb) :=
  ⟨fun pins s σ H Q I h => thn (ha.run pins s σ H _ I h) fun v s1 ⟨x, H1, I1, r1, q1⟩ => thn (hb.run pins s1 σ H1 _ I1 q1) fun u s2 ⟨y, H2, I2, r2, q2⟩ => ho pins s2 σ H2 x y v u _ I2 r1 r2 q2⟩
theorem pc_or {X : Cx} {op : CmpOp} {a b : Expr} {t t' : TE} (h : PC X op a b t) (h' : PC X op a b t') : PC X op a b (fun σ H Q => t σ H Q ∨ t' σ H Q) := ⟨fun pins s σ H Q I q => q.elim (h.run pins s σ H Q I) (h'.run pins s σ H Q I)⟩
theorem evt_tb {k : Kd} {f : ED} {t : TE} (q : Evs k c t f) : Evt c (tB t) (tB1 f) := fun g H s σ τ Q o h => q g H s σ τ _ o (Pg.seq h fun x s1 g1 H1 _ e1 w1 h1 v rx => by
  cases x with
  | bl b => exact ⟨b, rx.bl, Pg.now h1 w1⟩
  | _ => exact h1.elim)
theorem dt_inS {a b : Expr} {fa fb : ED} {pos : Pos} (hu : c.X.A.units + 64 < cLine) (ha : DE .b c a fa) (hb : DE .b c b fb) (hm : behindInMarks .In b = false := by first | exact nomark _ | rfl) : DT c (.Compare a [.In] [b] pos) (tB1 (e2S (inS2 false) fa fb)) := by
  obtain ⟨r, pr, qr⟩ := od_in (c := c)
  obtain ⟨ta, pa, qa⟩ := ha
  obtain ⟨tb, pb, qb⟩ := hb
  exact dt_mk (pt_cmp (pc_or (pc_op pr pa pb) (pc_din (by omega) pa pb)) hm) (evt_tb (evs_inS (neg := false) (fun _ _ => rfl) qa qb (evs_op2 qr qa qb)))
theorem dt_notInS {a b : Expr} {fa fb : ED} {pos : Pos} (hu : c.X.A.units + 64 < cLine) (ha : DE .b c a fa) (hb : DE .b c b fb) (hm : behindInMarks .NotIn b = false := by first | exact nomark _ | rfl) : DT c (.Compare a [.NotIn] [b] pos) (tB1 (e2S (inS2 true) fa fb)) := by
  obtain ⟨r, pr, qr⟩ := od_notIn (c := c)
  obtain ⟨ta, pa, qa⟩ := ha
  obtain ⟨tb, pb, qb⟩ := hb
  exact dt_mk (pt_cmp (pc_or (pc_op pr pa pb) (pc_dnotin (by omega) pa pb)) hm) (evt_tb (evs_inS (neg := true) (fun _ _ => rfl) qa qb (evs_op2 qr qa qb)))
/-! ### calls of built-ins that look at the store -/
def CallS (c : Ctx) (f : Value) (op : Sto → List D → Option D) : Prop := ∃ r, CallR c.X f r ∧ ∀ g H s xs ds d Q, WF c.X.K c.T g H s → RKs .b c.X.K g H H xs ds → op s ds = some d → Wt c g H s d Q → r xs H Q
def orS (f g : Sto → List D → Option D) : Sto → List D → Option D := fun s x => match f s x with
  | some d => some d
  | none => g s x
theorem CallD.s {f : Value} {op : List D → Option D} (h : CallD c f op) : CallS c f (fun _ => op) := by
  obtain ⟨r, p, q⟩ := h
  exact ⟨r, p, fun g H s xs ds d Q w rs e k => q g H s xs ds d Q w rs e k⟩
theorem CallS.or {fn : Value} {f f' : Sto → List D → Option D} (h : CallS c fn f) (h' : CallS c fn f') : CallS c fn (orS f f') := by
  obtain ⟨r, p, q⟩ := h
  obtain ⟨r', p', q'⟩ := h'
  refine ⟨_, p.or p', fun g H s xs ds d Q w rx e k => ?_⟩
  unfold orS at e
  cases z : f s ds with
  | some d' => rw [z] at e; cases e; exact .inl (q g H s xs ds _ Q w rx z k)
  | none => rw [z] at e; exact .inr (q' g H s xs ds d Q w rx e k)
theorem de_callBS {e : Expr} {es : List Expr} {x : Str} {id : String} {op : Sto → List D → Option D} {fs : AD} {p pos : Pos} (ho : CallS c (.builtin id) op) (ha : DA .b c (e :: es) fs) (hm : c.X.mg x = none) (hv : bootBuiltins x = some (.builtin id)) (hg : Gl c.X x := by rfl) (hn : x ≠ "__name__" := by decide) (hdb : (x == ("__debug__" : Str)) = false := by decide)
    (he : starEach (e :: es) c.X.env = (false, eval e c.X.env) :: starEach es c.X.env := by rfl) (hpl : (backTo pos (starEach es c.X.env)).any (·.1) = false := by rfl) : DE .o c (.Call (.Name x p) (e :: es) [] pos) (eNS op fs) := by
  obtain ⟨r, pr, qr⟩ := ho
  obtain ⟨t, pt, qt⟩ := ha
  refine de_mk (pe_callB pr hg hm hv pt hn hdb he hpl) fun g H s σ τ Q o h => qt g H s σ τ _ o (Pg.seq h fun xs s1 g1 H1 _ e1 w1 h1 vs rs => ?_)
  obtain ⟨d, ed, k⟩ := h1.opt
  exact qr g1 H1 s1 vs xs d Q w1 (rs.extB (Ext.refl _ _)) ed fun v' g' H' e' w' r' => k g' H' e' w' v' (r'.ext (Ext.refl _ _) fun p q => e1.fresh q)
theorem RKs.one1 {K : PySem.W.Frag} {g : Gh} {H0 H : Hp} {k : Kd} {xs : List V} {d : D} (h : RKs k K g H0 H xs [d]) : ∃ v, xs = [v] ∧ RK k K g H0 H v d := by
  cases h with
  | cons h r => cases r; exact ⟨_, rfl, h⟩
/-- len of a dict, of a list of the store -/
def dctW (s : Sto) : D → Option (List (Key × D))
  | .obj n => match s[n]? with
    | some (.dct kvs) => some kvs
    | _ => none
  | .dct kvs => some kvs
  | _ => none
theorem dctW_ok {K : PySem.W.Frag} {T : List (Addr × Str)} {g : Gh} {H0 H : Hp} {s : Sto} {v : V} {d : D} {kds : List (Key × D)} (w : WF K T g H s) (r : RK .b K g H0 H v d) (h : dctW s d = some kds) : ∃ a kvs, v = .ref a ∧ H a = some (.dK kvs) ∧ KR K g kvs kds := by
  unfold dctW at h
  split at h
  · rename_i n
    split at h
    · rename_i kvs hs
      cases h
      obtain ⟨a, rfl, hr, ok⟩ := Rep.obj_at w r.rep hs
      cases ok with
      | dct h1 h2 => exact ⟨a, _, rfl, h1, h2⟩
    · cases h
  · cases h
    obtain ⟨a, ks, xs, ds, rfl, e1, h1, hl, rs⟩ := r.dct w
    exact ⟨a, _, rfl, h1, by rw [e1]; exact KR.zip rs⟩
  · cases h
def lenDS (s : Sto) : List D → Option D
  | [d] => (dctW s d).map fun kvs => .int kvs.length
  | _ => none
theorem cs_lenD : CallS c (.builtin "len") lenDS := by
  refine ⟨_, call_lenD, fun g H s xs ds d Q w rs e k => ?_⟩
  unfold lenDS at e
  split at e
  · rename_i d'
    obtain ⟨v, rfl, r⟩ := rs.one1
    cases z : dctW s d' with
    | none => rw [z] at e; cases e
    | some kvs =>
      rw [z] at e
      cases e
      obtain ⟨a, kv, rfl, h1, kr⟩ := dctW_ok w r z
      refine ⟨a, kv, rfl, h1, ?_⟩
      rw [kr.length]
      exact k.here w (.int _)
  · cases e
def lenS : Sto → List D → Option D := orS (fun _ => lenD) lenDS
theorem cs_len : CallS c (.builtin "len") lenS := (CallD.s cd_len).or cs_lenD
/-! ### sorted -/
def insI (i : Int) : List Int → List Int
  | [] => [i]
  | j :: r => if i ≤ j then i :: j :: r else j :: insI i r
def sortI : List Int → List Int
  | [] => []
  | i :: r => insI i (sortI r)
theorem insI_perm (i : Int) : ∀ l : List Int, (insI i l).Perm (i :: l)
  | [] => .refl _
  | j :: r => by
    unfold insI
    split
    · exact .refl _
    · exact ((insI_perm i r).cons j).trans (.swap i j r)
theorem sortI_perm : ∀ l : List Int, (sortI l).Perm l
  | [] => .refl _
  | i :: r => (insI_perm i (sortI r)).trans ((sortI_perm r).cons i)
theorem insI_rises {i : Int} : ∀ {l : List Int}, l.Pairwise (· ≤ ·) → (insI i l).Pairwise (· ≤ ·)
  | [], _ => by unfold insI; exact List.pairwise_singleton _ _
  | j :: r, h => by
    obtain ⟨h1, h2⟩ := List.pairwise_cons.mp h
    unfold insI
    split
    · rename_i hij
      refine List.pairwise_cons.mpr ⟨fun x hx => ?_, h⟩
      rcases List.mem_cons.mp hx with z | z
      · rw [z]; exact hij
      · exact Int.le_trans hij (h1 x z)
    · rename_i hij
      refine List.pairwise_cons.mpr ⟨fun x hx => ?_, insI_rises h2⟩
      rcases List.mem_cons.mp ((insI_perm i r).mem_iff.mp hx) with z | z
      · rw [z]; omega
      · exact h1 x z
theorem sortI_rises : ∀ l : List Int, (sortI l).Pairwise (· ≤ ·)
  | [] => .nil
  | i :: r => insI_rises (sortI_rises r)
theorem sortI_uniq {ys l : List Int} (h : ys.Perm l) (h2 : ys.Pairwise (· ≤ ·)) : ys = sortI l :=
  List.Perm.eq_of_pairwise (fun _ _ _ _ a b => Int.le_antisymm a b) h2 (sortI_rises l) (h.trans (sortI_perm l).symm)
def intKeys : List Key → Option (List Int)
  | [] => some []
  | .inl i :: r => (intKeys r).map (i :: ·)
  | _ => none
theorem intKeys_ok : ∀ {ks : List Key} {is : List Int}, intKeys ks = some is → ks = is.map Sum.inl
  | [], _, h => by cases h; rfl
  | .inl i :: r, is, h => by
    unfold intKeys at h
    cases z : intKeys r with
    | none => rw [z] at h; cases h
    | some js => rw [z] at h; cases h; rw [intKeys_ok z]; rfl
  | .inr _ :: _, _, h => by cases h
theorem Reps.ints {K : PySem.W.Frag} {g : Gh} : ∀ (l : List Int), Reps K g (l.map V.int) (l.map D.int)
  | [] => .nil
  | i :: l => .cons (.int i) (Reps.ints l)
/-- sorted(d), d a dict of fewer than 64 ints -/
def sortDI (s : Sto) : List D → Option D
  | [d] => (dctAt s d).bind fun kvs => (intKeys (kvs.map (·.1))).bind fun is => if is.length < 64 then some (.lst ((sortI is).map D.int)) else none
  | _ => none
theorem cs_sortDI (hc : c.X.calm = true := by rfl) : CallS c (.builtin "sorted") sortDI := by
  refine ⟨_, call_sortedDI hc, fun g H s xs ds d Q w rs e k => ?_⟩
  unfold sortDI at e
  split at e
  · rename_i d'
    obtain ⟨v, rfl, r⟩ := rs.one1
    cases z : dctAt s d' with
    | none => rw [z] at e; cases e
    | some kvs =>
      rw [z] at e
      have e : (intKeys (kvs.map (·.1))).bind _ = _ := e
      cases z2 : intKeys (kvs.map (·.1)) with
      | none => rw [z2] at e; cases e
      | some is =>
        rw [z2] at e
        have e : (if is.length < 64 then some (D.lst ((sortI is).map D.int)) else none) = some d := e
        split at e
        · rename_i hl
          cases e
          obtain ⟨a, kv, rfl, h1, kr⟩ := dctAt_ok w r z
          refine ⟨a, kv, is, rfl, h1, by rw [kr.keys]; exact intKeys_ok z2, hl, fun ys p hp hs hn => ?_⟩
          rw [sortI_uniq hp hs]
          exact k.lst w (Reps.ints _) hn
        · cases e
  · cases e
end
end Mir

set_option Elab.async false
set_option linter.all false
set_option maxRecDepth 100000
set_option maxHeartbeats 4000000
/-! Mir, part J: tables of the top, dict displays, items stored. -/
namespace Mir
open PySem PySem.Spec PyProof.Rows L2
/-! ### a table of the top: text keys, ints -/
structure TabF (K : PySem.W.Frag) (w : World) (mg : Str → Option Value) (x : Str) (kvs : List (Str × Int)) : Prop where
  g : mg x = some (.ref (He.ga K x))
  d : ∃ es n, KDict K w (He.ga K x) es n
  v : ∀ z i, kvs.lookup z = some i → ∃ t, PySem.W.nsIn K (He.ga K x) z = some (some (.int i t))
  n : ∀ z, kvs.lookup z = none → PySem.W.nsIn K (He.ga K x) z = some none
theorem nsIn_none {K : PySem.W.Frag} {P : Params} {a : Addr} {ks : List Str} {z : Str} (h : He.dicW K a = some (He.keysIn P ks)) (hz : z ∉ ks) : PySem.W.nsIn K a z = some none := by
  unfold He.dicW at h
  split at h
  · rename_i c es n sl hl
    split at h
    · have h := Option.some.inj h
      have hk : ∀ e ∈ es.toList, ∃ k t, k ∈ ks ∧ e.key = .str k t := fun e he => by
        have hm : He.keyOf e ∈ He.keysIn P ks := by rw [← h]; exact List.mem_map.mpr ⟨e, he, rfl⟩
        unfold He.keysIn at hm
        obtain ⟨k, hk, e1⟩ := List.mem_map.mp hm
        unfold He.keyOf at e1
        split at e1
        · rename_i y t q
          have e2 := Option.some.inj e1
          obtain ⟨e3, _⟩ := Prod.mk.inj e2
          exact ⟨k, t, hk, by rw [q, e3]⟩
        · cases e1
      unfold PySem.W.nsIn
      rw [hl]
      show (match es.toList.find? (·.key.isStr z) with
        | some e => some (some e.val)
        | none => if es.toList.any (·.refKey) then none else some none) = some none
      have f : es.toList.find? (·.key.isStr z) = none := by
        rw [List.find?_eq_none]
        intro e he q
        obtain ⟨k, t, hk1, hk2⟩ := hk e he
        rw [hk2] at q
        have q : (k == z) = true := q
        exact hz (by rw [← beq_iff_eq.mp q]; exact hk1)
      have r : es.toList.any (·.refKey) = false := by
        rw [List.any_eq_false]
        intro e he q
        obtain ⟨k, t, hk1, hk2⟩ := hk e he
        unfold DictEntry.refKey at q
        rw [hk2] at q
        cases q
      rw [f, r]
      rfl
    · cases h
  · cases h
def tabB (x : Str) (kvs : List (Str × Int)) (K : PySem.W.Frag) : Bool := He.valsB K (He.ga K x) (kvs.map fun p => (p.1, He.Dv.int p.2))
theorem lookup_mem {α : Type} {z : Str} {i : α} : ∀ {kvs : List (Str × α)}, kvs.lookup z = some i → (z, i) ∈ kvs
  | [], h => by cases h
  | (k, v) :: r, h => by
    rw [List.lookup_cons] at h
    cases q : z == k with
    | true => rw [q] at h; cases h; rw [beq_iff_eq.mp q]; exact List.mem_cons_self
    | false => rw [q] at h; exact List.mem_cons_of_mem _ (lookup_mem h)
theorem lookup_none {α : Type} {z : Str} : ∀ {kvs : List (Str × α)}, kvs.lookup z = none → z ∉ kvs.map (·.1)
  | [], _ => by simp
  | (k, v) :: r, h => by
    rw [List.lookup_cons] at h
    cases q : z == k with
    | true => rw [q] at h; cases h
    | false =>
      rw [q] at h
      intro hm
      rcases List.mem_cons.mp hm with e | e
      · rw [e] at q; simp at q
      · exact lookup_none h e
theorem tabF_ok {fa : List He.Fa} {fn : List He.DefD} {ts : List He.Tab} {w : World} {K : PySem.W.Frag} {mg : Str → Option Value} {h : Heap} {x : Str} {kvs : List (Str × Int)} (X : K.In h) (G : h.Ns mainGlobals mg) (hg : (He.Fa.glo x).ok K = true) (c : He.SaysT fa fn ts w K) (i : Nat) (ht : ts[i]? = some ((fun K => He.ga K x), kvs.map (·.1))) (hv : tabB x kvs K = true) : TabF K w mg x kvs := by
  have e : ts.map (fun t => He.dicW K (t.1 K)) = ts.map fun t => some (He.keysIn w.params t.2) := congrArg (fun z : He.AlT => z.2) c
  have e2 : (ts.map fun t => He.dicW K (t.1 K))[i]? = (ts.map fun t => some (He.keysIn w.params t.2))[i]? := by rw [e]
  rw [List.getElem?_map, List.getElem?_map, ht] at e2
  have e3 : He.dicW K (He.ga K x) = some (He.keysIn w.params (kvs.map (·.1))) := Option.some.inj e2
  refine ⟨He.glo_ok X G hg, He.dicW_ok e3, fun z i hz => ?_, fun z hz => nsIn_none e3 (lookup_none hz)⟩
  obtain ⟨u, h1, h2⟩ := He.valsB_ok hv (List.mem_map.mpr ⟨(z, i), lookup_mem hz, rfl⟩)
  obtain ⟨t, rfl⟩ := h2
  exact ⟨t, h1⟩
section
variable {c : Ctx}
def inT (kvs : List (Str × Int)) : D → Option D
  | .str z => some (.bl (kvs.lookup z).isSome)
  | _ => none
theorem de_inT {a : Expr} {x : Str} {kvs : List (Str × Int)} {fa : ED} {p pos : Pos} (F : TabF c.X.K c.X.w c.X.mg x kvs) (ha : DE .b c a fa) (hg : Gl c.X x := by rfl) (hd : (x == ("__debug__" : Str)) = false := by decide) (hm : behindInMarks .In (.Name x p) = false := by first | exact nomark _ | rfl) : DE .o c (.Compare a [.In] [.Name x p] pos) (e1 (inT kvs) fa) := by
  obtain ⟨es, n, D⟩ := F.d
  obtain ⟨t, pt, qt⟩ := ha
  refine de_mk (pe_cmpR (op_in_kd D) pt (pe_glob (v := .ref (He.ga c.X.K x)) hg F.g rfl hd) hm) fun g H s σ τ Q o h => qt g H s σ τ _ o (Pg.seq h fun y s1 g1 H1 _ e1 w1 h1 v rx => ?_)
  obtain ⟨d, ed, k⟩ := h1.opt
  obtain ⟨z, rfl⟩ : ∃ z, y = .str z := by cases y <;> first | exact ⟨_, rfl⟩ | (cases ed; done)
  have ed : inT kvs (.str z) = some d := ed
  unfold inT at ed
  refine Classical.byCases (fun (_ : True) => ?_) (fun h => absurd trivial h)
  · skip
    cases ed
    have ev := rx.str
    subst ev
    cases q : kvs.lookup z with
    | none => exact ⟨z, none, rfl, rfl, F.n z q, k g1 H1 (Ext.refl _ _) w1 _ (.of (by rw [q]; exact .bl _))⟩
    | some i =>
      obtain ⟨t, ht⟩ := F.v z i q
      exact ⟨z, _, rfl, rfl, ht, k g1 H1 (Ext.refl _ _) w1 _ (.of (by rw [q]; exact .bl _))⟩
def ixT (kvs : List (Str × Int)) : D → Option D
  | .str z => (kvs.lookup z).map D.int
  | _ => none
theorem de_ixT {b : Expr} {x : Str} {kvs : List (Str × Int)} {fb : ED} {p pos : Pos} (F : TabF c.X.K c.X.w c.X.mg x kvs) (hb : DE .b c b fb) (hg : Gl c.X x := by rfl) (hd : (x == ("__debug__" : Str)) = false := by decide) (hs : PlainIx b := by intro _ _; rfl) : DE .o c (.Subscript (.Name x p) b pos) (e1 (ixT kvs) fb) := by
  obtain ⟨es, n, D⟩ := F.d
  obtain ⟨t, pt, qt⟩ := hb
  refine de_mk (pe_ix ix_kdict (pe_glob (v := .ref (He.ga c.X.K x)) hg F.g rfl hd) pt hs) fun g H s σ τ Q o h => qt g H s σ τ _ o (Pg.seq h fun y s1 g1 H1 _ e1 w1 h1 v rx => ?_)
  obtain ⟨d, ed, k⟩ := h1.opt
  obtain ⟨z, rfl⟩ : ∃ z, y = .str z := by cases y <;> first | exact ⟨_, rfl⟩ | (cases ed; done)
  have ed : (kvs.lookup z).map Mir.D.int = some d := ed
  refine Classical.byCases (fun (_ : True) => ?_) (fun h => absurd trivial h)
  · skip
    cases q : kvs.lookup z with
    | none => rw [q] at ed; cases ed
    | some i =>
      rw [q] at ed
      cases ed
      have ev := rx.str
      subst ev
      obtain ⟨t, ht⟩ := F.v z i q
      exact ⟨_, z, .int i, rfl, rfl, ⟨es, n, _, D.at_, D.lit, ht, ⟨t, rfl⟩⟩, k g1 H1 (Ext.refl _ _) w1 _ (.of (.int _))⟩
/-! ### dict displays -/
theorem de_dict0 {pos : Pos} : DE .o c (.Dict [] [] pos) (eC (.dct [])) := by
  refine de_mk pe_dnewK fun g H s σ τ Q o h p hp => ?_
  have own : Own c.X.K g (upd H p (.dK [])) (.ref p) (.dct []) := Own.dct (ks := []) (xs := []) (ds := []) (o.wf.gne hp) (fun n => o.wf.rne hp) upd_same rfl .nil
  exact h g _ (Ext.new hp) (o.wf.new hp) (.ref p) (Or.inr ⟨own, p, rfl, hp⟩)
/-- the values of a display with text keys -/
def DP (c : Ctx) (pos : Pos) (keys : List (Option Expr)) (vals : List Expr) (ks : List Str) (f : AD) : Prop := ∃ trs, PPs c.X pos keys vals trs ∧ keys.length = ks.length ∧ keys.all (·.isSome) = true ∧ keys.length = vals.length ∧
  ∀ g H s σ τ (R : List (V × V) → Hp → Prop), Ok c g H s σ τ → Pg c g H (fun ds _ g' H' => ∀ vs, RKs .z c.X.K g' H H' vs ds → vs.length = ks.length → R ((ks.zip vs).map (fun kv => (V.str kv.1, kv.2))) H') (f τ s) → tPairs trs σ H R
theorem dp_nil {pos : Pos} : DP c pos [] [] [] aNil := ⟨[], pps_nil, rfl, rfl, rfl, fun g H s σ τ R o h => Pg.now h o.wf [] .nil rfl⟩
theorem dp_cons {pos : Pos} {keys : List (Option Expr)} {vals : List Expr} {ks : List Str} {v : Expr} {x : Str} {j} {p : Pos} {fv : ED} {fs : AD} (hv : DE .z c v fv) (hr : DP c pos keys vals ks fs) : DP c pos (some (.Constant (.str x) j p) :: keys) (v :: vals) (x :: ks) (aCons fv fs) := by
  obtain ⟨t, pt, qt⟩ := hv
  obtain ⟨trs, pr, l1, l2, l3, qr⟩ := hr
  refine ⟨_, pps_cons pe_str pt pr, by simp [l1], by simp [l2], by simp [l3], fun g H s σ τ R o h => ?_⟩
  show t σ H _
  refine qt g H s σ τ _ o (Pg.seq h fun d s1 g1 H1 _ e1 w1 h1 u ru => ?_)
  refine qr g1 H1 s1 σ τ (fun ps H' => R ((.str x, u) :: ps) H') (o.ext e1 w1) (Pg.seq h1 fun ds s2 g2 H2 _ e2 w2 h2 vs rs hl => ?_)
  exact Pg.now h2 w2 (u :: vs) (.cons (Rep.mono e2.le ru) (rs.ext (Ext.refl _ _) fun p q => e1.fresh q)) (by simp [hl])
def mergeD (kvs : List (Key × D)) : List (Key × D) := kvs.foldl (fun acc kv => dPut acc kv.1 kv.2) []
def eDisp (ks : List Str) (f : AD) : ED := fun τ s => (f τ s).bind fun ds => M.ret (.dct (mergeD ((ks.map Sum.inr).zip ds)))
theorem KR.merge {K : PySem.W.Frag} {g : Gh} : ∀ {more : List (Key × V)} {mored : List (Key × D)} {kvs : List (Key × V)} {kds : List (Key × D)}, KR K g more mored → KR K g kvs kds → KR K g (more.foldl (fun acc kv => putK acc kv.1 kv.2) kvs) (mored.foldl (fun acc kv => dPut acc kv.1 kv.2) kds)
  | _, _, _, _, .nil, q => q
  | _, _, _, _, .cons (k := k) h r, q => by
    have := KR.merge r (KR.put (k := k) h q)
    exact this
theorem de_disp {keys : List (Option Expr)} {vals : List Expr} {ks : List Str} {fs : AD} {pos : Pos} (hp : DP c pos keys vals ks fs) (h0 : keys ≠ [] := by simp) (h15 : keys.length ≤ 15 := by decide) : DE .o c (.Dict keys vals pos) (eDisp ks fs) := by
  obtain ⟨trs, pr, l1, l2, l3, qr⟩ := hp
  refine de_mk (pe_disp pr l2 l3 h0 h15) fun g H s σ τ Q o h p hp => ?_
  have w0 := o.wf.new (o := .dK []) hp
  have e0 : Ext g H g (upd H p (.dK [])) := Ext.new hp
  refine qr g (upd H p (.dK [])) s σ τ _ (o.ext e0 w0) ?_
  unfold eDisp at h
  cases r : fs τ s with
  | exc cl s1 => rw [r] at h; exact fun g1 H1 e1 w1 => h g1 H1 (e0.trans e1) w1
  | no => rw [r] at h; exact h
  | ok ds s1 =>
    rw [r] at h
    intro g1 H1 e1 w1 vs rs hl
    have k1 : H1 p = some (.dK []) := e1.keep p _ upd_same (fun n => o.wf.rne hp) (fun ps => by simp)
    have gp : g1.G p = none := (e1.newG p (by rw [upd_same]; simp)).trans (o.wf.gne hp)
    have rp : ∀ n, g1.r n ≠ some p := fun n q => by
      rcases e1.newR n p q with z | z
      · exact o.wf.rne hp z
      · rw [upd_same] at z; cases z
    refine ⟨k1, (ks.map Sum.inr).zip vs, ?_, ?_, ?_⟩
    · rw [List.zip_map_left, List.map_map]
      refine List.map_congr_left fun q _ => rfl
    · rw [List.length_zip, List.length_map, ← l1]; omega
    · have kr : KR c.X.K g1 (mergeK [] ((ks.map Sum.inr).zip vs)) (mergeD ((ks.map Sum.inr).zip ds)) := KR.merge (KR.zip rs.reps) .nil
      obtain ⟨k', xs', ds', z1, z2, z3, z4⟩ := kr.unzip
      have h : ∀ g' H', Ext g H g' H' → WF c.X.K c.T g' H' s1 → ∀ v, RK .o c.X.K g' H H' v (.dct (mergeD ((ks.map Sum.inr).zip ds))) → Q v H' := h
      refine h g1 _ ((e0.trans e1).mut hp) (w1.mut k1 (.inr ⟨_, rfl⟩) gp rp) (.ref p) (.inr ⟨?_, p, rfl, hp⟩)
      rw [z1, z2]
      exact .dct gp rp upd_same z3 z4
/-! ### o[i] = v in the store -/
theorem PSet.or {X : Cx} {t t' : TSet} (h : PSet X t) (h' : PSet X t') : PSet X (fun o i v H Q => t o i v H Q ∨ t' o i v H Q) := fun pins s σ H o i v ov iv u Q I ro ri rv q => q.elim (h pins s σ H o i v ov iv u Q I ro ri rv) (h' pins s σ H o i v ov iv u Q I ro ri rv)
/-- the store behind x[y] = v -/
def setS (s : Sto) (x y v : D) : Option Sto := match x with
  | .obj n => match s[n]? with
    | some (.dct kvs) => (keyD y).bind fun k => if kvs.length < 16777216 then some (s.set n (.dct (dPut kvs k v))) else none
    | some (.lst xs) => match y with
      | .int i => (ixN xs.length i).map fun j => s.set n (.lst (xs.set j v))
      | _ => none
    | _ => none
  | _ => none
def sSetS (o i v : ED) : SD := fun τ s => (v τ s).bind fun d s => (o τ s).bind fun x s => (i τ s).bind fun y s => match setS s x y d with
  | some s' => .ok (.nx τ) s'
  | none => .no
theorem ds_setS {o i e : Expr} {fo fi f : ED} {pos pos' : Pos} (hu : c.X.A.units + 64 < cLine) (ho : DE .b c o fo) (hi : DE .b c i fi) (he : DE .z c e f) (hs : swapsWithSole [.Subscript o i pos'] e pos.line c.X.env = pure false := by rfl) (hw : swappedStores [.Subscript o i pos'] e c.X.env = pure none := by rfl)
    (h1 : (assignEach [.Subscript o i pos'] c.X.env).map (·.2) = [assign (.Subscript o i pos') c.X.env] := by rfl)
    (ha : ∀ v, assign (.Subscript o i pos') c.X.env v = (do
      let ov ← holding [v] (eval o c.X.env)
      let iv ← holding [v, ov] (eval i c.X.env)
      standAt pos'
      holding [v, ov, iv] (setItem ov iv v)
      release [v, ov, iv] []) := by intro _; rfl) : DS c (.Assign [.Subscript o i pos'] e pos) (sSetS fo fi f) := by
  obtain ⟨t, pt, qt⟩ := he
  obtain ⟨to, po, qo⟩ := ho
  obtain ⟨ti, pi, qi⟩ := hi
  refine ⟨_, ps_asg pt (pg_sub po pi (PSet.or set_list (set_dict (by omega))) ha) hs hw h1, fun g0 H0 g H s σ τ Dn o h => qt g H s σ τ _ o.ok (Ps.seq o h fun d s1 g1 H1 er1 e1 w1 o1 h1 v rv => qo g1 H1 s1 σ τ _ o1.ok (Ps.seq o1 h1 fun x s2 g2 H2 er2 e2 w2 o2 h2 u rx0 => qi g2 H2 s2 σ τ _ o2.ok (Ps.seq o2 h2 fun y s3 g3 H3 er3 e3 w3 o3 h3 z ry => ?_)))⟩
  clear er1 er2 er3
  have rx := rx0.extB (H1 := H2) e3
  have rv3 : Rep c.X.K g3 v d := Rep.mono (e2.le.trans e3.le) rv
  cases hset : setS s3 x y d with
  | none => rw [hset] at h3; exact h3.elim
  | some s' =>
    rw [hset] at h3
    unfold setS at hset
    split at hset
    · rename_i n
      split at hset
      · rename_i kvs hn
        cases hk : keyD y with
        | none => rw [hk] at hset; cases hset
        | some k =>
          rw [hk] at hset
          have hset : (if kvs.length < 16777216 then some (s3.set n (.dct (dPut kvs k d))) else none) = some s' := hset
          split at hset
          · rename_i hl
            cases hset
            obtain ⟨a, rfl, hr, ok⟩ := Rep.obj_at w3 rx.rep hn
            cases ok with
            | dct k1 k2 =>
              have ey := keyD_ok ry hk
              subst ey
              refine .inr ⟨a, _, rfl, DPut.k k1 (by rw [k2.length, sizeLine_eq]; exact hl), ?_⟩
              exact h3 g3 _ σ (Le.refl _) (o3.ext' (Ext.setAt hr) (w3.setAt hn hr (.dct upd_same (k2.put rv3))))
          · cases hset
      · rename_i xs hn
        split at hset
        · rename_i i
          cases hj : ixN xs.length i with
          | none => rw [hj] at hset; cases hset
          | some j =>
            rw [hj] at hset
            cases hset
            obtain ⟨a, rfl, hr, ok⟩ := Rep.obj_at w3 rx.rep hn
            cases ok with
            | @lst us _ k1 k2 =>
              refine .inl ⟨a, us, i, j, rfl, ry.int, k1, by rw [k2.length]; exact hj, ?_⟩
              exact h3 g3 _ σ (Le.refl _) (o3.ext' (Ext.setAt hr) (w3.setAt hn hr (.lst upd_same (k2.set rv3 j))))
        · cases hset
      · cases hset
    · cases hset
end
end Mir

set_option Elab.async false
set_option linter.all false
set_option maxRecDepth 100000
set_option maxHeartbeats 4000000
/-! Mir, part K: try: f(..) / except X: suite. -/
namespace Mir
open PySem PySem.Spec PyProof.Rows L2
theorem takesN_of {X : Cx} {W : WX} (t : L2.Takes X W) : L2N.Takes X W := fun u s' x => by
  obtain ⟨a, B, sI, pins, σ, H, cls, d, e, I, nb, up, sky, na, os, ag, w⟩ := x
  refine t u s' ⟨a, B, sI, pins, σ, H, cls, d, e, I, nb, up, ?_, na, os, ag, w⟩
  have tr : ∀ fl, HandSPX.TracedZ s'.heap B a (L2N.Zn cls d) fl → HandSPX.TracedZ s'.heap B a (Zc cls d) fl := fun fl h => by
    obtain ⟨oe, vs, T, oT, ts, h1, h2, h3⟩ := h
    exact ⟨oe, vs, T, oT, ts, h1, h2.zc, h3⟩
  rcases sky with ⟨h1, h2, h3, oe, vs, h4, h5, h6⟩ | ⟨h1, h2, h3, h4⟩ | ⟨h1, h2, h3, h4⟩
  · exact .inl ⟨h1, h2, h3, oe, vs, h4, h5.zc, h6⟩
  · exact .inr (.inl ⟨h1, h2, h3, tr _ h4⟩)
  · exact .inr (.inr ⟨h1, h2, h3, tr _ h4⟩)
theorem takes0L {X : Cx} : L2.Takes X (fun _ _ _ _ => False) := fun _ _ x => by
  obtain ⟨_, _, _, _, _, _, _, _, _, _, _, _, _, _, _, _, z⟩ := x
  exact z.elim
/-- the same def, where nothing may be raised, in another context of the machine -/
def Ctx.at_ (c : Ctx) (X : Cx) : Ctx := ⟨X, c.T, fun _ _ _ => False, c.O⟩
def rdA (c : Ctx) (f : AD) : TA := fun σ H Q => ∃ g s τ, Ok c g H s σ τ ∧ Pg (c.at_ c.X) g H (fun ds _ g' H' => ∀ vs, RKs .z c.X.K g' H H' vs ds → Q vs H') (f τ s)
def rdS (c : Ctx) (f : SD) : TS := fun D σ H => ∃ g0 H0 g s τ, SOk c g0 H0 g H s σ τ ∧ Ps c g0 H0 g D (match f τ s with | .exc _ _ => .no | r => r)
section
variable {c : Ctx}
theorem SOk.of_at {X' : Cx} {g0 g : Gh} {H0 H : Hp} {s : Sto} {σ : St} {τ : Ev} (hK : X'.K = c.X.K) (o : SOk (c.at_ X') g0 H0 g H s σ τ) : SOk c g0 H0 g H s σ τ := by
  obtain ⟨⟨wf, sl⟩, ext, fr⟩ := o
  have wf : WF X'.K c.T g H s := wf
  have sl : Sl X'.K g H c.O σ τ := sl
  rw [hK] at wf sl
  exact ⟨⟨wf, sl⟩, ext, fr⟩
theorem SOk.to_at {X' : Cx} {g0 g : Gh} {H0 H : Hp} {s : Sto} {σ : St} {τ : Ev} (hK : X'.K = c.X.K) (o : SOk c g0 H0 g H s σ τ) : SOk (c.at_ X') g0 H0 g H s σ τ := by
  obtain ⟨⟨wf, sl⟩, ext, fr⟩ := o
  rw [← hK] at wf sl
  exact ⟨⟨wf, sl⟩, ext, fr⟩
theorem Ps.to_at {X' : Cx} {g0 g : Gh} {H0 : Hp} {D : Ends} {r : R Fl} (hK : X'.K = c.X.K) (h : Ps c g0 H0 g D (match r with | .exc _ _ => .no | r => r)) : Ps (c.at_ X') g0 H0 g D r := by
  cases r with
  | no => exact h
  | exc cl s => exact h.elim
  | ok fl s =>
    cases fl with
    | nx τ => exact fun g' H' σ' l o => h g' H' σ' l (o.of_at hK)
    | bk τ => exact fun g' H' σ' l o => h g' H' σ' l (o.of_at hK)
    | ct τ => exact fun g' H' σ' l o => h g' H' σ' l (o.of_at hK)
    | rt d => exact fun g' H' v e w r => h g' H' v e (by rw [← hK]; exact w) (by rw [← hK]; exact r)
def sTryC (F : FD) (fs : AD) (cl : Str) (q : SD) : SD := fun τ s => (noX (fs τ s)).bind fun xs s1 => match F xs s1 with
  | .ok _ s2 => .ok (.nx τ) s2
  | .exc cl' s2 => if cl' = cl then (match q τ s2 with
    | .exc _ _ => .no
    | r => r) else .no
  | .no => .no
theorem ds_tryCall {e : Expr} {es : List Expr} {x ex : Str} {j k : Nat} {F : FD} {fs : AD} {fq : SD} {b₀ : Stmt} {suite : List Stmt} {p p1 p2 p3 p4 np : Pos} (h : HasX c x j F) (hr : Room k c.X.A) (hcl : c.X.mg ex = some (.ref (He.ga c.X.K ex))) (hexm : PySem.W.exmOne c.X.K (clsV c.X.K ex) (.ref (He.ga c.X.K ex)) = some true)
    (ha : ∀ pn xe, DA .z (c.at_ (c.X.tr pn xe)) (e :: es) fs) (hq : ∀ a pn, DSs (c.at_ (c.X.suite a pn)) (b₀ :: suite) fq) (hjk : j ≤ k := by decide) (hg : Gl c.X x := by rfl) (hge : Gl c.X ex := by rfl) (hdx : (ex == ("__debug__" : Str)) = false := by decide)
    (hst : c.X.stack = c.X.env :: c.X.outer := by rfl) (hfr : c.X.env.frame = some c.X.env.locals := by rfl) (hdb : (x == ("__debug__" : Str)) = false := by decide)
    (he : starEach (e :: es) c.X.env = (false, eval e c.X.env) :: starEach es c.X.env := by rfl) (hpl : (backTo p1 (starEach es c.X.env)).any (·.1) = false := by rfl) (hs : swapsWith (.Call (.Name x p) (e :: es) [] p1) none p2.line c.X.env = pure false := by rfl) :
    DS c (.Try [.Expr (.Call (.Name x p) (e :: es) [] p1) p2] [.ExceptHandler (some (.Name ex np)) none (b₀ :: suite) p3] [] [] p4) (sTryC F fs ex fq) := by
  obtain ⟨f, fd, ps, hm, hk, hb, hf⟩ := h.ex
  refine ⟨_, ps_try_only (X := c.X) (c := .ref (He.ga c.X.K ex)) (Wout := fun _ _ _ _ => False) (tb := fun W => tDrop (tCallS (spOf c.X.K c.T F) (WE W) (rdA c fs))) (ts := fun _ _ _ => rdS c fq) hst hfr ⟨hge, hdx, .inl hcl⟩ takes0L (fun W pn xe tk _ => ?_) (fun a oe cls d pn _ _ => ?_), fun g0 H0 g H s σ τ Dn o h => ?_⟩
  · have pa : PA (c.X.tr pn xe) (e :: es) (rdA c fs) := by
      obtain ⟨t, pt, qt⟩ := ha pn xe
      exact ⟨fun pos pins s σ H Q I h => by
        obtain ⟨g, st, τ, o, h⟩ := h
        exact pt.run pos pins s σ H Q I (qt g H st σ τ Q ⟨o.wf, o.sl⟩ h)⟩
    exact pss_one (ps_expr (pe_callS (X := c.X.tr pn xe) hf (hr.mono hjk) hg hm hk hb (fun σ => L2N.passAt (takesN_of tk) σ) pa hdb he hpl) hs)
  · obtain ⟨t, pt, qt⟩ := hq a ((a, oe) :: pn)
    exact ⟨fun pins s σ H D I h => by
      obtain ⟨g0, H0, g, st, τ, o, h⟩ := h
      exact pt.run pins s σ H D I (qt g0 H0 g H st σ τ D (o.to_at rfl) (h.to_at rfl))⟩
  · unfold sTryC at h
    refine ⟨g, s, τ, o.ok, ?_⟩
    cases ea : fs τ s with
    | exc cl s1 => rw [ea] at h; exact h.elim
    | no => rw [ea] at h; exact h.elim
    | ok xs s1 =>
      rw [ea] at h
      intro g1 H1 e1 w1 vs rs
      refine ⟨g1, s1, xs, w1, rs.reps, ?_⟩
      have h : Ps c g0 H0 g Dn (match F xs s1 with
        | .ok _ s2 => .ok (.nx τ) s2
        | .exc cl' s2 => if cl' = ex then (match fq τ s2 with
          | .exc _ _ => .no
          | r => r) else .no
        | .no => .no) := h
      cases ef : F xs s1 with
      | no => rw [ef] at h; exact h
      | ok d s2 =>
        rw [ef] at h
        intro v g2 H2 e2 w2 r2
        exact h g2 H2 σ (e1.le.trans e2.le) ((o.ext' e1 w1).ext' e2 w2)
      | exc cl s2 =>
        rw [ef] at h
        intro g2 H2 e2 w2
        have h : Ps c g0 H0 g Dn (if cl = ex then (match fq τ s2 with
          | .exc _ _ => .no
          | r => r) else .no) := h
        by_cases hc : cl = ex
        · subst hc
          rw [if_pos rfl] at h
          refine ⟨true, hexm, fun _ a na => ⟨g0, H0, g2, s2, τ, (o.ext' e1 w1).ext' e2 w2, ?_⟩, fun z => Bool.noConfusion z⟩
          exact Ps.mono (e1.le.trans e2.le) h
        · rw [if_neg hc] at h; exact h.elim
end
end Mir

set_option Elab.async false
set_option linter.all false
set_option maxRecDepth 100000
set_option maxHeartbeats 4000000
/-! Mir, part Y: more operations. -/
namespace Mir
open PySem PySem.Spec PyProof.Rows L2
section
variable {c : Ctx}
def strSD : List D → Option D
  | [.str x] => some (.str x)
  | _ => none
theorem cd_strS : CallD c (.type "str") strSD := by
  refine ⟨_, SkE.call_str_str, fun g H s xs ds d Q w rs e k => ?_⟩
  unfold strSD at e
  split at e
  · cases e
    obtain ⟨v, rfl, r⟩ := rs.one
    exact ⟨_, by rw [r.str], k.here w (.str _)⟩
  · cases e
def strAD : List D → Option D := or1 strOfD strSD
theorem cd_strA : CallD c (.type "str") strAD := cd_str.or cd_strS
def find3D : D → List D → Option D
  | .str x, [.str y, .int i] => some (.int (Txt.find3 x y i))
  | _, _ => none
theorem md_find3 : MtD c "str.find" find3D := by
  refine ⟨_, mt_find3, fun g H s x xs dx ds d Q w rx rs e k => ?_⟩
  unfold find3D at e
  split at e
  · cases e
    cases rs with
    | cons r1 rs =>
      cases rs with
      | cons r2 rs =>
        cases rs
        exact ⟨_, _, _, rx.str, by rw [r1.str, r2.int], k.here w (.int _)⟩
  · cases e
end
end Mir

set_option Elab.async false
set_option linter.all false
set_option maxRecDepth 100000
set_option maxHeartbeats 4000000
/-! Mir, part Re: a if x op 1 else o.replace(y, z). -/
namespace Mir
open PySem PySem.Spec PyProof.Rows L2
theorem ptu_cmpR {X : Cx} {a : Expr} {ta : TE} {op : CmpOp} {r : R2} {i : Int} {j : Nat} {p pos : Pos} (ho : OpR X (compareOp op) r) (ha : PE X a ta) (hm : behindInMarks op (.Constant (.int i) j p) = false)
    (pins : List (Addr × Obj)) (s : Shared) (σ : St) (H : Hp) (Q : Bool → Hp → Prop) (I : Inv X pins σ H s) (h : tTest (tOp r ta (tC (.int i))) σ H Q) :
    wpAny (model X.prog X.w) X.A (isTrue (.Compare a [op] [.Constant (.int i) j p] pos) X.env (eval (.Compare a [op] [.Constant (.int i) j p] pos) X.env)) (fun d s' => 1 ≤ s'.toks ∧ TP X pins σ Q d s') X.xe s := by
  refine wpAny_isTrue_Compare1 (thn (ha.run pins s σ H _ I h) fun v s1 ⟨x, H1, I1, r1, q1⟩ => wpAny_Constant_int ?_) hm
  have hw := ho pins { s1 with toks := s1.toks + 1 } σ H1 x (.int i) v (.int i s1.toks) _ (I1.tok _) r1 ⟨_, rfl⟩ q1
  refine wpAny_mono (PySem.wpAny_toks_of (n := 1) (by show 1 ≤ s1.toks + 1; omega) hw) (fun c s3 hq => ?_) fun _ _ z => z.2
  obtain ⟨ht, z, H3, I3, r3, k, e, q3⟩ := hq
  subst e
  cases r3
  exact wpAny_truthy_bool ⟨ht, H3, I3, q3⟩
def replD (y z : Str) : D → Option D
  | .str x => if decide (x.length + (x.length + 1) * z.length ≤ 16777216) then some (.str (Txt.replace x y z)) else none
  | _ => none
section
variable {c : Ctx}
theorem de_ifRepl {k : Kd} {a e o : Expr} {op : CmpOp} {f : D → D → Option D} {fa fe fo : ED} {i : Int} {y z : Str} {j j0 j1 : Nat} {p pos c0 c1 apos cpos ipos : Pos} (ho : OpD c (compareOp op) f) (ha : DE .b c a fa) (he : DE k c e fe) (hoo : DE .b c o fo)
    (hm : behindInMarks op (.Constant (.int i) j p) = false := by first | exact nomark _ | rfl)
    (hyz : (y == z) = false := by decide)
    (hst : starEach [.Constant (.str y) j0 c0, .Constant (.str z) j1 c1] c.X.env = [(false, eval (.Constant (.str y) j0 c0) c.X.env), (false, eval (.Constant (.str z) j1 c1) c.X.env)] := by rfl)
    (hbase : attributeBase o "replace" c.X.env (eval o c.X.env) = eval o c.X.env := by rfl) (hline : (apos.endLine == cpos.line) = true := by rfl) (hk : ∀ g H x H', RK k c.X.K g H H' (.str x) (.str x) := by intro _ _ _ _; first | exact Rep.str _ | exact .of (.str _) | exact .inl (.str _)) :
    DE k c (.IfExp (.Compare a [op] [.Constant (.int i) j p] pos) e (.Call (.Attribute o "replace" apos) [.Constant (.str y) j0 c0, .Constant (.str z) j1 c1] [] cpos) ipos)
      (eIf (tB1 (e2 f fa (eC (.int i)))) fe (e1 (replD y z) fo)) := by
  obtain ⟨r, pr, qr⟩ := ho
  obtain ⟨ta, pa, qa⟩ := ha
  obtain ⟨te, pe, qe⟩ := he
  obtain ⟨to, po, qo⟩ := hoo
  have hb : Evs .b c (tC (.int i)) (eC (.int i)) := by
    have : Evs .o c (tC (.int i)) (eC (.int i)) := evs_c (fun _ _ _ q => q) fun _ => .int i
    exact fun g H s σ τ Q o h => this g H s σ τ Q o (h.imp fun d s1 g1 H1 e1 w1 k v hv => k v hv.ob)
  have ht : Evt c (tTest (tOp r ta (tC (.int i)))) (tB1 (e2 f fa (eC (.int i)))) := evt_test (evs_op2 qr qa hb)
  refine ⟨tIf (tTest (tOp r ta (tC (.int i)))) te (CwR.tReplC to y z), ⟨fun pins s σ H Q I h => ?_⟩, fun g H s σ τ Q o h => ht g H s σ τ _ o (Pg.seq h fun x s1 g1 H1 _ e1 w1 h1 => ?_)⟩
  · refine wpAny_IfExp (wpAny_mono (ptu_cmpR pr pa hm pins s σ H _ I h) (fun d s1 hq => ?_) fun _ _ z => z)
    obtain ⟨h0, H1, I1, q1⟩ := hq
    cases d with
    | true => exact pe.run pins s1 σ H1 Q I1 q1
    | false => exact CwR.pet_replC po hyz hst hbase hline pins s1 σ H1 Q h0 I1 q1
  · cases x with
    | true => rw [if_pos rfl]; exact qe g1 H1 s1 σ τ Q (o.ext e1 w1) (h1.back e1)
    | false =>
      rw [if_neg Bool.false_ne_true]
      refine qo g1 H1 s1 σ τ _ (o.ext e1 w1) (Pg.seq (h1.back e1) fun x s2 g2 H2 hx_ e2 w2 h2 v rx => ?_)
      obtain ⟨d, ed, k⟩ := h2.opt
      clear hx_
      unfold replD at ed
      split at ed
      · rename_i x
        split at ed
        · rename_i hz
          cases ed
          refine ⟨x, rx.str, of_decide_eq_true hz, ?_⟩
          exact k g2 H2 (Ext.refl _ _) w2 _ (hk _ _ _ _)
        · cases ed
      · cases ed
end
end Mir

set_option Elab.async false
set_option linter.all false
set_option maxRecDepth 100000
set_option maxHeartbeats 1000000
/-! Mir, part S: what a mirror computes, told without the store. -/
namespace Mir
open PySem
def V1 (f : ED) (τ : Ev) (d : D) : Prop := ∀ s, f τ s = .ok d s
def VA (f : AD) (τ : Ev) (ds : List D) : Prop := ∀ s, f τ s = .ok ds s
def VT (f : TD) (τ : Ev) (b : Bool) : Prop := ∀ s, f τ s = .ok b s
def VO (f : OD) (τ : Ev) (o : Option Int) : Prop := ∀ s, f τ s = .ok o s
def VS (f : SD) (τ : Ev) (fl : Fl) : Prop := ∀ s, f τ s = .ok fl s
def VF (F : FD) (ds : List D) (d : D) : Prop := ∀ s, F ds s = .ok d s
section
variable {τ τ' : Ev} {d x y : D} {ds xs : List D} {f a b : ED} {fs : AD} {t u : TD}
theorem V1.var {i : Nat} (h : τ[i]? = some (some d)) : V1 (eVar i) τ d := fun s => by unfold eVar; rw [h]; rfl
theorem V1.c : V1 (eC d) τ d := fun _ => rfl
theorem V1.e1 {op : D → Option D} (h : V1 a τ x) (e : op x = some d) : V1 (Mir.e1 op a) τ d := fun s => by unfold Mir.e1; rw [h s]; show M.opt (op x) s = _; rw [e]; rfl
theorem V1.e2 {op : D → D → Option D} (h : V1 a τ x) (k : V1 b τ y) (e : op x y = some d) : V1 (Mir.e2 op a b) τ d := fun s => by
  unfold Mir.e2; rw [h s]; show (b τ s).bind _ = _; rw [k s]; show M.opt (op x y) s = _; rw [e]; rfl
theorem VA.nil : VA aNil τ [] := fun _ => rfl
theorem VA.cons (h : V1 a τ x) (k : VA fs τ xs) : VA (aCons a fs) τ (x :: xs) := fun s => by
  unfold aCons; rw [h s]; show (fs τ s).bind _ = _; rw [k s]; rfl
theorem VA.one (h : V1 a τ x) : VA (aCons a aNil) τ [x] := VA.cons h VA.nil
theorem V1.eN {op : List D → Option D} (h : VA fs τ xs) (e : op xs = some d) : V1 (Mir.eN op fs) τ d := fun s => by unfold Mir.eN; rw [h s]; show M.opt (op xs) s = _; rw [e]; rfl
theorem VA.iN {op : List D → Option (List D)} (h : VA fs τ xs) (e : op xs = some ds) : VA (Mir.iN op fs) τ ds := fun s => by unfold Mir.iN; rw [h s]; show M.opt (op xs) s = _; rw [e]; rfl
theorem VA.lst (h : V1 a τ (.lst xs)) : VA (iLst a) τ xs := fun s => by unfold iLst; rw [h s]; rfl
theorem VA.tpl (h : V1 a τ (.tup xs)) : VA (iTpl a) τ xs := fun s => by unfold iTpl; rw [h s]; rfl
theorem VA.str {z : Str} (h : V1 a τ (.str z)) : VA (iStrD a) τ (z.cps.toList.map fun k => .str ⟨#[k]⟩) := fun s => by unfold iStrD; rw [h s]; rfl
theorem V1.call {F : FD} (h : VA fs τ xs) (k : VF F xs d) : V1 (eCall F fs) τ d := fun s => by unfold eCall; rw [h s]; exact k s
theorem V1.mt {T : String} {op : D → List D → Option D} (h : V1 a τ x) (k : VA fs τ xs) (ht : isTy T x = true) (e : op x xs = some d) : V1 (eMt T op a fs) τ d := fun s => by
  unfold eMt; rw [h s]; show (if isTy T x = true then _ else _) = _; rw [if_pos ht, k s]; show M.opt (op x xs) s = _; rw [e]; rfl
theorem VO.non : VO oNone τ none := fun _ => rfl
theorem VO.som {i : Int} (h : V1 a τ (.int i)) : VO (oSome a) τ (some i) := fun s => by unfold oSome; rw [h s]; rfl
theorem V1.sl {lo hi : OD} {l u : Option Int} (h : V1 a τ x) (k : VO lo τ l) (m : VO hi τ u) (e : slD x l u = some d) : V1 (eSl a lo hi) τ d := fun s => by
  unfold eSl; rw [h s]; show (lo τ s).bind _ = _; rw [k s]; show (hi τ s).bind _ = _; rw [m s]; show M.opt (slD x l u) s = _; rw [e]; rfl
theorem VT.v {v : Bool} (h : V1 a τ (.bl v)) : VT (tB1 a) τ v := fun s => by unfold tB1; rw [h s]; rfl
theorem VT.yes : VT tYesD τ true := fun _ => rfl
theorem VT.not {v : Bool} (h : VT t τ v) : VT (tNotD t) τ (!v) := fun s => by unfold tNotD; rw [h s]; rfl
theorem VT.andF (h : VT t τ false) : VT (tAndD t u) τ false := fun s => by unfold tAndD; rw [h s]; rfl
theorem VT.andT {v : Bool} (h : VT t τ true) (k : VT u τ v) : VT (tAndD t u) τ v := fun s => by unfold tAndD; rw [h s]; exact k s
theorem VT.orT (h : VT t τ true) : VT (tOrD t u) τ true := fun s => by unfold tOrD; rw [h s]; rfl
theorem VT.orF {v : Bool} (h : VT t τ false) (k : VT u τ v) : VT (tOrD t u) τ v := fun s => by unfold tOrD; rw [h s]; exact k s
theorem V1.andF (h : V1 a τ (.bl false)) : V1 (eAndD a b) τ (.bl false) := fun s => by unfold eAndD; rw [h s]; rfl
theorem V1.andT (h : V1 a τ (.bl true)) (k : V1 b τ d) : V1 (eAndD a b) τ d := fun s => by unfold eAndD; rw [h s]; exact k s
theorem V1.orT (h : V1 a τ (.bl true)) : V1 (eOrD a b) τ (.bl true) := fun s => by unfold eOrD; rw [h s]; rfl
theorem V1.orF (h : V1 a τ (.bl false)) (k : V1 b τ d) : V1 (eOrD a b) τ d := fun s => by unfold eOrD; rw [h s]; exact k s
theorem V1.ifT (h : VT t τ true) (k : V1 a τ d) : V1 (eIf t a b) τ d := fun s => by unfold eIf; rw [h s]; exact k s
theorem V1.ifF (h : VT t τ false) (k : V1 b τ d) : V1 (eIf t a b) τ d := fun s => by unfold eIf; rw [h s]; exact k s
theorem V1.told {errs : List Str} (h : V1 a τ d) : V1 (eTold errs a) τ d := fun s => by unfold eTold; rw [h s]
/-! ### statements -/
variable {p q : SD} {fl : Fl}
theorem VS.next : VS sNext τ (.nx τ) := fun _ => rfl
theorem VS.seq (h : VS p τ (.nx τ')) (k : VS q τ' fl) : VS (sSeq p q) τ fl := fun s => by unfold sSeq; rw [h s]; exact k s
theorem VS.seqR (h : VS p τ (.rt d)) : VS (sSeq p q) τ (.rt d) := fun s => by unfold sSeq; rw [h s]; rfl
theorem VS.set {i : Nat} (h : V1 a τ d) : VS (sSet i a) τ (.nx (τ.set i (some d))) := fun s => by unfold sSet; rw [h s]; rfl
theorem VS.setO {i : Nat} (h : V1 a τ d) (e : isCt d = true) : VS (sSetO i a) τ (.nx (τ.set i (some d))) := fun s => by unfold sSetO; rw [h s]; show (if isCt d = true then M.ret (Fl.nx (τ.set i (some d))) else fun _ => .no) s = _; rw [if_pos e]; rfl
theorem VS.ex (h : V1 a τ d) : VS (sExpr a) τ (.nx τ) := fun s => by unfold sExpr; rw [h s]; rfl
theorem VS.ret (h : V1 a τ d) : VS (sRet a) τ (.rt d) := fun s => by unfold sRet; rw [h s]; rfl
theorem VS.ifT (h : VT t τ true) (k : VS p τ fl) : VS (sIf t p q) τ fl := fun s => by unfold sIf; rw [h s]; exact k s
theorem VS.ifF (h : VT t τ false) (k : VS q τ fl) : VS (sIf t p q) τ fl := fun s => by unfold sIf; rw [h s]; exact k s
theorem VS.app {i : Nat} (h : τ[i]? = some (some (.lst xs))) (k : V1 a τ d) (hz : small (xs.length + 1) = true) : VS (sApp i a) τ (.nx (τ.set i (some (.lst (xs ++ [d]))))) := fun s => by
  unfold sApp; rw [h]; show (a τ s).bind _ = _; rw [k s]; show (if small (xs.length + 1) = true then M.ret (Fl.nx (τ.set i (some (.lst (xs ++ [d]))))) else fun _ => .no) s = _; rw [if_pos hz]; rfl
theorem VS.asg {tg : D → Ev → Option Ev} (h : V1 a τ d) (e : tg d τ = some τ') : VS (sAsg a tg) τ (.nx τ') := fun s => by unfold sAsg; rw [h s]; show (match tg d τ with | some τ1 => M.ret (Fl.nx τ1) | none => fun _ => .no) s = _; rw [e]; rfl
theorem VS.setI {i k : Nat} {j : Int} (h : V1 a τ d) (hx : τ[i]? = some (some (.lst xs))) (hj : V1 b τ (.int j)) (e : L2.ixN xs.length j = some k) : VS (sSetI i b a) τ (.nx (τ.set i (some (.lst (xs.set k d))))) := fun s => by
  unfold sSetI; rw [h s]; show (match τ[i]? with | some (some (.lst xs)) => _ | _ => _) = _; rw [hx]; show (b τ s).bind _ = _; rw [hj s]
  show (match L2.ixN xs.length j with | some k => M.ret (Fl.nx (τ.set i (some (.lst (xs.set k d))))) | none => fun _ => .no) s = _; rw [e]; rfl
theorem VF.mk {np nN : Nat} (hl : ds.length = np) (h : VS p (ds.map some ++ List.replicate (nN - np) none) (.rt d)) : VF (fnM np nN p) ds d := fun s => by unfold fnM; rw [if_pos hl, h s]; rfl
theorem VF.mkN {np nN : Nat} (hl : ds.length = np) (h : VS p (ds.map some ++ List.replicate (nN - np) none) (.nx τ)) : VF (fnM np nN p) ds .non := fun s => by unfold fnM; rw [if_pos hl, h s]; rfl
/-! ### loops -/
theorem forGo_inv {tg : D → Ev → Option Ev} {b : SD} : ∀ (ds : List D) (I : Nat → Ev → Prop) (τ : Ev), I 0 τ →
    (∀ i d τ, ds[i]? = some d → I i τ → ∃ τ1 τ2, tg d τ = some τ1 ∧ (VS b τ1 (.nx τ2) ∨ VS b τ1 (.ct τ2)) ∧ I (i + 1) τ2) → ∃ τ', VS (forGo tg b ds) τ (.nx τ') ∧ I ds.length τ'
  | [], I, τ, h0, _ => ⟨τ, fun _ => rfl, h0⟩
  | d :: ds, I, τ, h0, hs => by
    obtain ⟨τ1, τ2, e1, hb, h1⟩ := hs 0 d τ rfl h0
    obtain ⟨τ', h2, h3⟩ := forGo_inv ds (fun i => I (i + 1)) τ2 h1 fun i d τ hd hi => hs (i + 1) d τ hd hi
    refine ⟨τ', fun s => ?_, h3⟩
    unfold forGo
    rw [e1]
    show (b τ1 s).bind _ = _
    rcases hb with hb | hb
    · rw [hb s]; exact h2 s
    · rw [hb s]; exact h2 s
theorem VS.for_ {it : AD} {tg : D → Ev → Option Ev} {b : SD} (I : Nat → Ev → Prop) (hi : VA it τ ds) (h0 : I 0 τ)
    (hs : ∀ i d τ, ds[i]? = some d → I i τ → ∃ τ1 τ2, tg d τ = some τ1 ∧ (VS b τ1 (.nx τ2) ∨ VS b τ1 (.ct τ2)) ∧ I (i + 1) τ2) : ∃ τ', VS (sFor it tg b) τ (.nx τ') ∧ I ds.length τ' := by
  obtain ⟨τ', h1, h2⟩ := forGo_inv ds I τ h0 hs
  exact ⟨τ', fun s => by unfold sFor; rw [hi s]; exact h1 s, h2⟩
theorem loopW_inv {t : TD} {b : SD} {I : Nat → Ev → Prop} {Post : Fl → Prop} (hs : ∀ m τ, I m τ → (VT t τ false ∧ Post (.nx τ)) ∨ (VT t τ true ∧ ((∃ d, VS b τ (.rt d) ∧ Post (.rt d)) ∨ ∃ τ' m', VS b τ (.nx τ') ∧ m' < m ∧ I m' τ'))) :
    ∀ (n m : Nat) (τ : Ev), m < n → I m τ → ∃ fl, VS (loopW t b n) τ fl ∧ Post fl
  | 0, m, τ, hm, _ => absurd hm (Nat.not_lt_zero _)
  | n + 1, m, τ, hm, hi => by
    rcases hs m τ hi with ⟨h1, h2⟩ | ⟨h1, ⟨d, h2, h3⟩ | ⟨τ', m', h2, h3, h4⟩⟩
    · exact ⟨_, fun s => by unfold loopW; rw [h1 s]; rfl, h2⟩
    · exact ⟨_, fun s => by unfold loopW; rw [h1 s]; show (b τ s).bind _ = _; rw [h2 s]; rfl, h3⟩
    · obtain ⟨fl, h5, h6⟩ := loopW_inv hs n m' τ' (by omega) h4
      exact ⟨fl, fun s => by unfold loopW; rw [h1 s]; show (b τ s).bind _ = _; rw [h2 s]; exact h5 s, h6⟩
theorem VS.while_ {t : TD} {b : SD} {I : Nat → Ev → Prop} {Post : Fl → Prop} (hs : ∀ m τ, I m τ → (VT t τ false ∧ Post (.nx τ)) ∨ (VT t τ true ∧ ((∃ d, VS b τ (.rt d) ∧ Post (.rt d)) ∨ ∃ τ' m', VS b τ (.nx τ') ∧ m' < m ∧ I m' τ')))
    {m : Nat} (hm : m < 1000000) (hi : I m τ) : ∃ fl, VS (sWhile t b) τ fl ∧ Post fl := loopW_inv hs fuel m τ hm hi
theorem lcGo_v {tg : D → Ev → Option Ev} {ts : TD} {el : ED} {τ : Ev} (p : D → Bool) (f : D → D) : ∀ ds : List D, (∀ d ∈ ds, ∃ τ1, tg d τ = some τ1 ∧ VT ts τ1 (p d) ∧ (p d = true → V1 el τ1 (f d))) → ∀ s, lcGo tg ts el τ ds s = .ok ((ds.filter p).map f) s
  | [], _, _ => rfl
  | d :: ds, h, s => by
    obtain ⟨τ1, e1, h1, h2⟩ := h d List.mem_cons_self
    have ih := lcGo_v p f ds (fun d hd => h d (List.mem_cons_of_mem _ hd))
    unfold lcGo
    rw [e1]
    show (ts τ1 s).bind _ = _
    rw [h1 s]
    cases hp : p d with
    | true =>
      show (el τ1 s).bind _ = _
      rw [h2 hp s]
      show (lcGo tg ts el τ ds s).bind _ = _
      rw [ih s, List.filter_cons, if_pos hp]
      rfl
    | false =>
      show lcGo tg ts el τ ds s = _
      rw [ih s, List.filter_cons, if_neg (by rw [hp]; exact Bool.false_ne_true)]
theorem V1.lc {it : AD} {tg : D → Ev → Option Ev} {ts : TD} {el : ED} {vs : List Nat} (p : D → Bool) (f : D → D) (hi : VA it τ ds) (hz : small ds.length = true) (h : ∀ d ∈ ds, ∃ τ1, tg d (wipeD τ vs) = some τ1 ∧ VT ts τ1 (p d) ∧ (p d = true → V1 el τ1 (f d))) :
    V1 (eLc it tg ts el vs) τ (.lst ((ds.filter p).map f)) := fun s => by
  unfold eLc; rw [hi s]; show (if small ds.length = true then fun s => (lcGo tg ts el (wipeD τ vs) ds s).bind fun ys => M.ret (D.lst ys) else fun _ => .no) s = _; rw [if_pos hz]; show (lcGo tg ts el (wipeD τ vs) ds s).bind _ = _; rw [lcGo_v p f ds h s]; rfl
theorem V1.lc0 {it : AD} {tg : D → Ev → Option Ev} {ts : TD} {el : ED} {vs : List Nat} (p : D → Bool) (f : D → D) (hi : VA it τ ds) (hz : small ds.length = true) (h : ∀ d ∈ ds, ∃ τ1, tg d (wipeD τ vs) = some τ1 ∧ VT ts τ1 (p d) ∧ (p d = true → V1 el τ1 (f d))) :
    V1 (eLc0 it tg ts el vs) τ (.lst ((ds.filter p).map f)) := fun s => by
  unfold eLc0; rw [hi s]; show (if small ds.length = true then fun s => noX ((lcGo tg ts el (wipeD τ vs) ds s).bind fun ys => M.ret (D.lst ys)) else fun _ => .no) s = _; rw [if_pos hz]; show noX ((lcGo tg ts el (wipeD τ vs) ds s).bind _) = _; rw [lcGo_v p f ds h s]; rfl
theorem filter_yes : ∀ l : List D, l.filter (fun _ => true) = l
  | [] => rfl
  | d :: l => by rw [List.filter_cons, if_pos rfl, filter_yes l]
/-- .. without a test -/
theorem V1.lcM {it : AD} {tg : D → Ev → Option Ev} {el : ED} {vs : List Nat} (f : D → D) (hi : VA it τ ds) (hz : small ds.length = true) (h : ∀ d ∈ ds, ∃ τ1, tg d (wipeD τ vs) = some τ1 ∧ V1 el τ1 (f d)) : V1 (eLc it tg tYesD el vs) τ (.lst (ds.map f)) := by
  have := V1.lc (ts := tYesD) (fun _ => true) f hi hz fun d hd => by
    obtain ⟨τ1, e, k⟩ := h d hd
    exact ⟨τ1, e, .yes, fun _ => k⟩
  rwa [filter_yes] at this
theorem V1.lc0M {it : AD} {tg : D → Ev → Option Ev} {el : ED} {vs : List Nat} (f : D → D) (hi : VA it τ ds) (hz : small ds.length = true) (h : ∀ d ∈ ds, ∃ τ1, tg d (wipeD τ vs) = some τ1 ∧ V1 el τ1 (f d)) : V1 (eLc0 it tg tYesD el vs) τ (.lst (ds.map f)) := by
  have := V1.lc0 (ts := tYesD) (fun _ => true) f hi hz fun d hd => by
    obtain ⟨τ1, e, k⟩ := h d hd
    exact ⟨τ1, e, .yes, fun _ => k⟩
  rwa [filter_yes] at this
end
end Mir

set_option Elab.async false
set_option linter.all false
set_option maxRecDepth 100000
set_option maxHeartbeats 1000000
/-! Mir, part T: the operations at plain data; the drawing of numbers. -/
namespace Mir
open PySem SX
theorem o_add (i j : Int) : addDT (.int i) (.int j) = some (.int (i + j)) := rfl
theorem o_mod {i j : Int} (h : 0 < j) : modI (.int i) (.int j) = some (.int (i % j)) := by
  show ((if decide (0 < j) = true then some (i % j) else none).map D.int) = _
  rw [if_pos (decide_eq_true h)]; rfl
theorem o_div {i j : Int} (h : divOk j = true) : fdivI (.int i) (.int j) = some (.int (i / j)) := by
  show ((if divOk j = true then some (i / j) else none).map D.int) = _
  rw [if_pos h]; rfl
theorem o_mul {i j : Int} (h : mulOk i j = true) : mulD (.int i) (.int j) = some (.int (i * j)) := by
  have e : mulI (.int i) (.int j) = some (.int (i * j)) := by
    show ((if mulOk i j = true then some (i * j) else none).map D.int) = _
    rw [if_pos h]; rfl
  unfold mulD orO
  rw [e]
theorem mulOk_l {i j : Int} (h1 : -(2 ^ 64) < i) (h2 : i < 2 ^ 64) : mulOk i j = true := by
  unfold mulOk
  rw [decide_eq_true h1, decide_eq_true h2]
  rfl
theorem mulOk_r {i j : Int} (h1 : -(2 ^ 64) < j) (h2 : j < 2 ^ 64) : mulOk i j = true := by
  unfold mulOk
  rw [decide_eq_true h1, decide_eq_true h2]
  simp
theorem log2_lt {n k : Nat} (h : n < 2 ^ k) (hk : 0 < k) : n.log2 < k := by
  by_cases z : n = 0
  · subst z; simpa using hk
  · exact (Nat.log2_lt z).mpr h
theorem mulOk_b {i j : Int} (h1 : 0 ≤ i) (h2 : i < 2 ^ 250) (h3 : 0 ≤ j) (h4 : j < 2 ^ 250) : mulOk i j = true := by
  have a : i.natAbs.log2 < 250 := log2_lt (by omega) (by decide)
  have b : j.natAbs.log2 < 250 := log2_lt (by omega) (by decide)
  unfold mulOk
  have c : decide (i.natAbs.log2 + j.natAbs.log2 < 1000000) = true := decide_eq_true (by omega)
  rw [c]
  simp
theorem orO_l {α β : Type} {f g : α → β → Option D} {x : α} {y : β} {d : D} (h : f x y = some d) : orO f g x y = some d := by unfold orO; rw [h]
theorem orO_r {α β : Type} {f g : α → β → Option D} {x : α} {y : β} {d : D} (h : f x y = none) (k : g x y = some d) : orO f g x y = some d := by unfold orO; rw [h]; exact k
theorem small_of {n : Nat} (h : n ≤ 16777216) : small n = true := decide_eq_true h
theorem o_cat {a b : List Nat} (h : a.length + b.length ≤ 16777216) : addDT (.str (S a)) (.str (S b)) = some (.str (S (a ++ b))) := by
  have e : addS (.str (S a)) (.str (S b)) = some (.str (S (a ++ b))) := by
    show (if small ((S a).length + (S b).length) = true then some (D.str (S a ++ S b)) else none) = _
    rw [if_pos (small_of (by rw [S_len, S_len]; exact h)), S_cat]
  exact orO_l (orO_r rfl (orO_l e))
theorem o_catL {xs ys : List D} (h : xs.length + ys.length ≤ 16777216) : addDT (.lst xs) (.lst ys) = some (.lst (xs ++ ys)) := by
  have e : addL (.lst xs) (.lst ys) = some (.lst (xs ++ ys)) := by
    show (if small (xs.length + ys.length) = true then some (D.lst (xs ++ ys)) else none) = _
    rw [if_pos (small_of h)]
  exact orO_l (orO_r rfl (orO_r rfl e))
/-- xs[i] -/
theorem atI_get {α : Type} {xs : List α} {i : Int} (h0 : 0 ≤ i) (h : i < xs.length) : L2.atI xs i = some (xs[i.toNat]'(by omega)) := by
  unfold L2.atI L2.ixN
  rw [if_pos h0, if_pos h]
  exact List.getElem?_eq_getElem (by omega)
theorem atI_last {α : Type} {xs : List α} {x : α} : L2.atI (xs ++ [x]) (-1) = some x := by
  unfold L2.atI L2.ixN
  rw [if_neg (by decide), if_pos (by simp; omega)]
  show (xs ++ [x])[(-1 + ((xs ++ [x]).length : Int)).toNat]? = some x
  rw [show (-1 + ((xs ++ [x]).length : Int)).toNat = xs.length by simp; omega]
  simp
theorem o_ix {xs : List D} {i : Int} (h0 : 0 ≤ i) (h : i < xs.length) : ixD (.lst xs) (.int i) = some (xs[i.toNat]'(by omega)) := atI_get h0 h
theorem o_ixE {xs : List D} {i : Int} (h0 : 0 ≤ i) (h : i < xs.length) : ∃ d, d ∈ xs ∧ ixD (.lst xs) (.int i) = some d := ⟨_, List.getElem_mem _, o_ix h0 h⟩
theorem o_ixS {l : List Nat} {i : Nat} (h : i < l.length) (hz : l.length ≤ 16777216) : ixD (.str (S l)) (.int i) = some (.str (S [l[i]])) := by
  show (if small (S l).length = true then (L2.atI (S l).cps.toList (i : Int)).map (fun k => D.str ⟨#[k]⟩) else none) = _
  rw [if_pos (small_of (by rw [S_len]; exact hz))]
  have e : L2.atI l (i : Int) = some l[i] := by
    rw [atI_get (by omega) (by omega)]
    rfl
  show (L2.atI l (i : Int)).map _ = _
  rw [e]
  rfl
theorem o_len {l : List Nat} (hz : l.length ≤ 16777216) : lenD [.str (S l)] = some (.int l.length) := by
  show (if small (S l).length = true then some (D.int (S l).length) else none) = _
  rw [S_len, if_pos (small_of hz)]
theorem o_to {l : List Nat} {i : Nat} (hz : l.length ≤ 16777216) : slD (.str (S l)) none (some (i : Int)) = some (.str (S (l.take i))) := by
  show (if small (S l).length = true then some (D.str (L2.cutS (S l) none (some (i : Int)))) else none) = _
  rw [if_pos (small_of (by rw [S_len]; exact hz))]
  unfold L2.cutS
  rw [HT.sIx_nat, HT.sIx_none, S_len]
  show some (D.str (S ((l.drop 0).take (min i l.length - 0)))) = _
  rw [List.drop_zero, Nat.sub_zero, ← List.take_eq_take_min]
theorem o_from {l : List Nat} {i : Nat} (hz : l.length ≤ 16777216) : slD (.str (S l)) (some (i : Int)) none = some (.str (S (l.drop i))) := by
  show (if small (S l).length = true then some (D.str (L2.cutS (S l) (some (i : Int)) none)) else none) = _
  rw [if_pos (small_of (by rw [S_len]; exact hz))]
  unfold L2.cutS
  rw [HT.sIx_nat, HT.sIx_none, S_len]
  show some (D.str (S ((l.drop (min i l.length)).take (l.length - min i l.length)))) = _
  have e : l.drop (min i l.length) = l.drop i := by
    by_cases h : i ≤ l.length
    · rw [Nat.min_eq_left h]
    · rw [Nat.min_eq_right (by omega), List.drop_length, List.drop_eq_nil_of_le (by omega)]
  rw [e, List.take_of_length_le (by rw [List.length_drop]; omega)]
theorem o_eq {a b : List Nat} : eqD (.str (S a)) (.str (S b)) = some (.bl (decide (a = b))) := by
  have e : eqS id (.str (S a)) (.str (S b)) = some (.bl (decide (a = b))) := by
    show some (D.bl (decide (L2.V.str (S a) = L2.V.str (S b)))) = _
    congr 2
    exact decide_eq_decide.mpr ⟨fun h => S_inj (L2.V.str.inj h), fun h => by rw [h]⟩
  unfold eqD orO
  rw [e]
theorem o_ne {a b : List Nat} : neD (.str (S a)) (.str (S b)) = some (.bl (!decide (a = b))) := by
  have e : eqS not (.str (S a)) (.str (S b)) = some (.bl (!decide (a = b))) := by
    show some (D.bl (!decide (L2.V.str (S a) = L2.V.str (S b)))) = _
    congr 3
    exact decide_eq_decide.mpr ⟨fun h => S_inj (L2.V.str.inj h), fun h => by rw [h]⟩
  unfold neD orO
  rw [e]
theorem o_in1 {c : Nat} {l : List Nat} : inD (.str (S [c])) (.str (S l)) = some (.bl (decide (c ∈ l))) := by
  have e : inS (.str (S [c])) (.str (S l)) = some (.bl (decide (c ∈ l))) := by
    show some (D.bl (!(Builtin.Str.occurrences (S l) (S [c]) 0 (S l).length 1).isEmpty)) = _
    rw [in_one]
  unfold inD orO
  rw [e]
theorem o_le1 {a b : Nat} : leD (.str (S [a])) (.str (S [b])) = some (.bl (decide (a ≤ b))) := by
  have e : leS (.str (S [a])) (.str (S [b])) = some (.bl (decide (a ≤ b))) := by
    show some (D.bl (!decide ([b] < [a]))) = _
    congr 2
    rw [StrLaws.lt_cons_cons, StrLaws.lt_nil_nil, Bool.and_false, Bool.or_false]
    by_cases h : a ≤ b
    · rw [decide_eq_true h, decide_eq_false (by omega)]; rfl
    · rw [decide_eq_false h, decide_eq_true (by omega)]; rfl
  exact orO_r rfl e
theorem o_ord {c : Nat} : ordD [.str (S [c])] = some (.int c) := rfl
theorem strs_map (ps : List (List Nat)) : strs' (ps.map fun p => D.str (S p)) = some (ps.map S) := by
  induction ps with
  | nil => rfl
  | cons p ps ih =>
    show (strs' (ps.map fun p => D.str (S p))).map (S p :: ·) = _
    rw [ih]
    rfl
theorem o_join {sep : List Nat} {ps : List (List Nat)} (h : (ps.map (·.length)).sum + ps.length * sep.length ≤ 16777216) : joinD (.str (S sep)) [.lst (ps.map fun p => D.str (S p))] = some (.str (S (TL.joinL sep ps))) := by
  show (match strs' (ps.map fun p => D.str (S p)) with
    | some ys => if decide ((ys.map (fun y : Str => y.length)).sum + ys.length * (S sep).length ≤ 16777216) = true then some (D.str (Txt.join (S sep) ys)) else none
    | none => none) = _
  rw [strs_map]
  show (if decide (((ps.map S).map (·.length)).sum + (ps.map S).length * (S sep).length ≤ 16777216) = true then some (D.str (Txt.join (S sep) (ps.map S))) else none) = _
  rw [lens, List.length_map, S_len, if_pos (decide_eq_true h), join_S]
theorem o_split {l : List Nat} {c : Nat} (hc : c < 256) (hz : l.length + 2 ≤ 16777216) : splitD (.str (S l)) [.str (S [c])] = some (.lst ((TL.spl [c] 0 [] l).map fun p => D.str (S p))) := by
  show (if ((S [c]).length != 0 && small ((S l).length + 2)) = true then some (D.lst ((Txt.split (S l) (S [c])).map D.str)) else none) = _
  rw [S_len l, small_of hz, split_S (by simp) (by simpa using hc), if_pos (by rw [S_len]; rfl), List.map_map]
  rfl
def drawn (cell k : Int) : Int :=
  (fun m : Int => (m % 18446744073709551557 + 1) * (m / 18446744073709551557 + 1) * m % 340282366920938463463374607431768211507) ((fun m : Int => m * m % 340282366920938463463374607431768211297) ((cell * 6364136223846793005 + (k + 1) * 1442695040888963407) % 340282366920938463463374607431768211507))
theorem drawn_lo (cell k : Int) : 0 ≤ drawn cell k := Int.emod_nonneg _ (by decide)
theorem drawn_hi (cell k : Int) : drawn cell k < 340282366920938463463374607431768211507 := Int.emod_lt_of_pos _ (by decide)
end Mir
namespace Mir
open PySem SX
/-! ### == of what is not flat -/
theorem toPs_ints (l : List Int) : toPs (l.map D.int) = some (l.map PyData.int) := by
  induction l with
  | nil => rfl
  | cons a l ih =>
    show (match toP (.int a), toPs (l.map D.int) with | some p, some ps => some (p :: ps) | _, _ => none) = _
    rw [ih]
    rfl
theorem toPs_strs (l : List (List Nat)) : toPs (l.map fun p => D.str (S p)) = some (l.map fun p => PyData.str (S p)) := by
  induction l with
  | nil => rfl
  | cons a l ih =>
    show (match toP (.str (S a)), toPs (l.map fun p => D.str (S p)) with | some p, some ps => some (p :: ps) | _, _ => none) = _
    rw [ih]
    rfl
theorem lay_ints (l : List Int) : PyData.canLayAll0 (l.map PyData.int) = true ∧ PyData.depthAll (l.map PyData.int) = 0 := by
  induction l with
  | nil => exact ⟨by simp [PyData.canLayAll0], by simp [PyData.depthAll]⟩
  | cons a l ih => exact ⟨by simp [PyData.canLayAll0, PyData.canLay0, ih.1], by simp [PyData.depthAll, PyData.depth, ih.2]⟩
theorem eqP_of {f : Bool → Bool} {x y : D} {u v : PyData} (h1 : toP x = some u) (h2 : toP y = some v) (s1 : SeqAt.shaped u = true) (s2 : SeqAt.shaped v = true) : eqP f x y = some (.bl (f (PyData.eqv u v))) := by
  unfold eqP
  rw [h1, h2]
  show (if (SeqAt.shaped u && SeqAt.shaped v) = true then _ else _) = _
  rw [s1, s2]
  rfl
theorem eqv_nil (xs : List PyData) : PyData.eqv (.list xs) (.list []) = xs.isEmpty := by
  cases xs with
  | nil => simp [PyData.eqv, PyData.eqvAll]
  | cons x xs => simp [PyData.eqv, PyData.eqvAll]
theorem shaped_nil : SeqAt.shaped (.list []) = true := by decide +kernel
theorem shaped_list {xs : List PyData} (h1 : PyData.canLayAll0 xs = true) (h2 : PyData.depthAll xs ≤ 63) : SeqAt.shaped (.list xs) = true := by
  unfold SeqAt.shaped
  rw [show PyData.canLay0 (.list xs) = true by rw [PyData.canLay0]; exact h1, decide_eq_true (by rw [PyData.depth]; omega)]
  rfl
theorem shaped_tup {xs : List PyData} (h1 : PyData.canLayAll0 xs = true) (h2 : PyData.depthAll xs ≤ 63) : SeqAt.shaped (.tuple xs) = true := by
  unfold SeqAt.shaped
  rw [show PyData.canLay0 (.tuple xs) = true by rw [PyData.canLay0]; exact h1, decide_eq_true (by rw [PyData.depth]; omega)]
  rfl
theorem toP_lst {xs : List D} {ps : List PyData} (h : toPs xs = some ps) : toP (.lst xs) = some (.list ps) := by
  show (toPs xs).map PyData.list = _
  rw [h]; rfl
theorem toP_tup {xs : List D} {ps : List PyData} (h : toPs xs = some ps) : toP (.tup xs) = some (.tuple ps) := by
  show (toPs xs).map PyData.tuple = _
  rw [h]; rfl
theorem eq_nil {xs : List D} {ps : List PyData} (h : toPs xs = some ps) (h1 : PyData.canLayAll0 ps = true) (h2 : PyData.depthAll ps ≤ 63) : eqD (.lst xs) (.lst []) = some (.bl ps.isEmpty) ∧ neD (.lst xs) (.lst []) = some (.bl (!ps.isEmpty)) := by
  constructor
  · refine orO_r rfl ((eqP_of (toP_lst h) rfl (shaped_list h1 h2) shaped_nil).trans ?_)
    rw [eqv_nil]; rfl
  · refine orO_r rfl ((eqP_of (toP_lst h) rfl (shaped_list h1 h2) shaped_nil).trans ?_)
    rw [eqv_nil]
theorem isEmpty_map {α β : Type} (f : α → β) (l : List α) : (l.map f).isEmpty = l.isEmpty := by cases l <;> rfl
theorem o_eqNilI (l : List Int) : eqD (.lst (l.map D.int)) (.lst []) = some (.bl l.isEmpty) := by
  have := (eq_nil (toPs_ints l) (lay_ints l).1 (by rw [(lay_ints l).2]; decide)).1
  rwa [isEmpty_map] at this
theorem o_neNilI (l : List Int) : neD (.lst (l.map D.int)) (.lst []) = some (.bl (!l.isEmpty)) := by
  have := (eq_nil (toPs_ints l) (lay_ints l).1 (by rw [(lay_ints l).2]; decide)).2
  rwa [isEmpty_map] at this
theorem o_eqScr (l : List Int) : eqD (.scr l) (.lst []) = some (.bl l.isEmpty) := by
  refine orO_r rfl ((eqP_of (x := .scr l) rfl rfl (shaped_list (lay_ints l).1 (by rw [(lay_ints l).2]; decide)) shaped_nil).trans ?_)
  rw [eqv_nil, isEmpty_map]; rfl
end Mir

set_option Elab.async false
set_option linter.all false
set_option maxRecDepth 100000
set_option maxHeartbeats 1000000
/-! Mir, part U: strip of blanks. -/
namespace Mir
open PySem SX
theorem tw_drop (p : Nat → Bool) : ∀ l : List Nat, l.drop (l.takeWhile p).length = l.dropWhile p
  | [] => rfl
  | c :: l => by
    rw [List.takeWhile_cons, List.dropWhile_cons]
    cases p c with
    | true => exact tw_drop p l
    | false => rfl
theorem rev_take (p : Nat → Bool) (l : List Nat) : l.take (l.length - (l.reverse.takeWhile p).length) = (l.reverse.dropWhile p).reverse := by
  rw [← tw_drop p l.reverse, List.drop_reverse, List.reverse_reverse]
def blank (c : Nat) : Bool := c == 32
def strL (l : List Nat) : List Nat := ((l.dropWhile blank).reverse.dropWhile blank).reverse
theorem contains32 : (fun c => (S [32]).cps.contains c) = blank := by
  funext c
  show Array.contains #[32] c = _
  simp [blank, Array.contains]
theorem strip_S (l : List Nat) : Txt.stripChars (S l) (S [32]) = S (strL l) := by
  have goes : (S [32]).cps.contains = blank := contains32
  have lo : stripLo blank true (S l) = (l.takeWhile blank).length := rfl
  have hi : stripHi blank true (S l) (l.takeWhile blank).length = l.length - ((l.dropWhile blank).reverse.takeWhile blank).length := by
    show (S l).length - ((l.drop (l.takeWhile blank).length).reverse.takeWhile blank).length = _
    rw [S_len, tw_drop]
  have key : stripped blank true true (S l) = S (strL l) := by
    unfold stripped
    rw [lo, hi]
    refine TL.ext_tl ((TL.tl_strSub _ _ _).trans ?_)
    show (l.drop (l.takeWhile blank).length).take _ = strL l
    rw [tw_drop]
    unfold strL
    rw [← rev_take]
    congr 1
    have e : l.length = (l.takeWhile blank).length + (l.dropWhile blank).length := by
      have := congrArg List.length (List.takeWhile_append_dropWhile (p := blank) (l := l))
      rw [List.length_append] at this
      omega
    omega
  unfold Txt.stripChars Txt.stripBy
  rw [goes]
  by_cases h : stripSame blank true true (S l) = true
  · rw [if_pos h]
    rw [← key]
    unfold stripSame at h
    have h := Bool.and_eq_true_iff.mp h
    have h1 : stripLo blank true (S l) = 0 := by simpa using h.1
    have h2 : stripHi blank true (S l) (stripLo blank true (S l)) = (S l).length := by simpa using h.2
    unfold stripped
    rw [h2, h1, StrLaws.sub_whole]
  · rw [if_neg h]; exact key
theorem o_strip {l : List Nat} (hz : l.length ≤ 16777216) : stripD (.str (S l)) [.str (S [32])] = some (.str (S (strL l))) := by
  show (if small (S l).length = true then some (D.str (Txt.stripChars (S l) (S [32]))) else none) = _
  rw [if_pos (small_of (by rw [S_len]; exact hz)), strip_S]
theorem dw_mem {p : Nat → Bool} {c : Nat} : ∀ {l : List Nat}, c ∈ l.dropWhile p → c ∈ l
  | d :: l, h => by
    rw [List.dropWhile_cons] at h
    split at h
    · exact List.mem_cons_of_mem _ (dw_mem h)
    · exact h
theorem dw_len {p : Nat → Bool} : ∀ (l : List Nat), (l.dropWhile p).length ≤ l.length
  | [] => Nat.le_refl _
  | d :: l => by
    rw [List.dropWhile_cons]
    split
    · exact Nat.le_succ_of_le (dw_len l)
    · exact Nat.le_refl _
theorem strL_mem {l : List Nat} {c : Nat} (h : c ∈ strL l) : c ∈ l := dw_mem (List.mem_reverse.mp (dw_mem (List.mem_reverse.mp h)))
theorem strL_len (l : List Nat) : (strL l).length ≤ l.length := by
  unfold strL
  rw [List.length_reverse]
  refine Nat.le_trans (dw_len _) ?_
  rw [List.length_reverse]
  exact dw_len l
theorem dw_idem (p : Nat → Bool) : ∀ l : List Nat, (l.dropWhile p).dropWhile p = l.dropWhile p
  | [] => rfl
  | d :: l => by
    rw [List.dropWhile_cons]
    cases h : p d with
    | true => exact dw_idem p l
    | false =>
      show (d :: l).dropWhile p = d :: l
      rw [List.dropWhile_cons, h]
      rfl
theorem dw_head {p : Nat → Bool} {l : List Nat} {c : Nat} (h : (l.dropWhile p).head? = some c) : p c = false := by
  induction l with
  | nil => cases h
  | cons d l ih =>
    rw [List.dropWhile_cons] at h
    cases q : p d with
    | true => rw [q] at h; exact ih h
    | false => rw [q] at h; cases h; exact q
theorem dw_none {p : Nat → Bool} {l : List Nat} (h : ∀ c, l.head? = some c → p c = false) : l.dropWhile p = l := by
  cases l with
  | nil => rfl
  | cons d l => rw [List.dropWhile_cons, h d rfl]; rfl
/-- no blank at either end -/
def Ends (l : List Nat) : Prop := (∀ c, l.head? = some c → blank c = false) ∧ ∀ c, l.reverse.head? = some c → blank c = false
theorem strL_ends (l : List Nat) : Ends (strL l) := by
  constructor
  · intro c h
    unfold strL at h
    generalize hm : l.dropWhile blank = m at h
    have hd : ∀ c, m.head? = some c → blank c = false := fun c hc => dw_head (by rw [hm]; exact hc)
    cases m with
    | nil => cases h
    | cons d m =>
      have hd := hd d rfl
      have e : (((d :: m).reverse.dropWhile blank).reverse).head? = some d := by
        have : ∀ r : List Nat, ((r ++ [d]).dropWhile blank) = r.dropWhile blank ++ [d] := by
          intro r
          induction r with
          | nil => show List.dropWhile blank [d] = [d]; rw [List.dropWhile_cons, hd]; rfl
          | cons x r ih =>
            rw [List.cons_append, List.dropWhile_cons, List.dropWhile_cons]
            cases blank x with
            | true => exact ih
            | false => rfl
        rw [List.reverse_cons, this, List.reverse_append]
        rfl
      rw [e] at h
      cases h
      exact hd
  · intro c h
    unfold strL at h
    rw [List.reverse_reverse] at h
    exact dw_head h
theorem strL_id {l : List Nat} (h : Ends l) : strL l = l := by
  unfold strL
  rw [dw_none h.1, dw_none h.2, List.reverse_reverse]
end Mir

set_option Elab.async false
set_option linter.all false
set_option maxRecDepth 100000
set_option maxHeartbeats 1000000
/-! Mir, part V: what a mirror ends in, by weakest preconditions. -/
namespace Mir
open PySem SX
abbrev XP := Str → Sto → Prop
/-- a mark that keeps simp out of what follows a step -/
structure Tg {κ : Type} (k : κ) : Type where
def wp {α : Type} (r : R α) (Q : α → Sto → Prop) (X : XP) (t : Tg (Q, X) := ⟨⟩) : Prop := match r with
  | .ok a s => Q a s
  | .exc c s => X c s
  | .no => False
def onO {α : Type} (o : Option α) (k : α → Prop) (t : Tg k := ⟨⟩) : Prop := ∃ a, o = some a ∧ k a
def onB (d : D) (k : Bool → Prop) (t : Tg k := ⟨⟩) : Prop := ∃ v, d = .bl v ∧ k v
def onI (d : D) (k : Int → Prop) (t : Tg k := ⟨⟩) : Prop := ∃ v, d = .int v ∧ k v
def onL (d : D) (k : List D → Prop) (t : Tg k := ⟨⟩) : Prop := ∃ v, d = .lst v ∧ k v
def onT (d : D) (k : List D → Prop) (t : Tg k := ⟨⟩) : Prop := ∃ v, d = .tup v ∧ k v
def onS (d : D) (k : Str → Prop) (t : Tg k := ⟨⟩) : Prop := ∃ v, d = .str v ∧ k v
def onE (τ : Ev) (k : Ev → Prop) (t : Tg k := ⟨⟩) : Prop := k τ
def onC (p : Bool) (k : Prop) (t : Tg k := ⟨⟩) : Prop := p = true ∧ k
theorem wp_cg {α : Type} {r : R α} {Q Q' : α → Sto → Prop} {X : XP} (h : ∀ a s, Q a s = Q' a s) : wp r Q X = wp r Q' X := by
  have e : Q = Q' := funext fun a => funext fun s => h a s
  rw [e]
theorem onO_cg {α : Type} {o : Option α} {k k' : α → Prop} (h : ∀ a, k a = k' a) : onO o k = onO o k' := by
  have e : k = k' := funext h
  rw [e]
theorem onO_some {α : Type} {a : α} {k : α → Prop} : onO (some a) k = k a := propext ⟨fun ⟨_, h, q⟩ => by cases h; exact q, fun h => ⟨a, rfl, h⟩⟩
theorem onB_bl {v : Bool} {k : Bool → Prop} : onB (.bl v) k = k v := propext ⟨fun ⟨_, h, q⟩ => by cases h; exact q, fun h => ⟨v, rfl, h⟩⟩
theorem onI_int {v : Int} {k : Int → Prop} : onI (.int v) k = k v := propext ⟨fun ⟨_, h, q⟩ => by cases h; exact q, fun h => ⟨v, rfl, h⟩⟩
theorem onL_lst {v : List D} {k : List D → Prop} : onL (.lst v) k = k v := propext ⟨fun ⟨_, h, q⟩ => by cases h; exact q, fun h => ⟨v, rfl, h⟩⟩
theorem onT_tup {v : List D} {k : List D → Prop} : onT (.tup v) k = k v := propext ⟨fun ⟨_, h, q⟩ => by cases h; exact q, fun h => ⟨v, rfl, h⟩⟩
theorem onS_str {v : Str} {k : Str → Prop} : onS (.str v) k = k v := propext ⟨fun ⟨_, h, q⟩ => by cases h; exact q, fun h => ⟨v, rfl, h⟩⟩
theorem onE_go {τ : Ev} {k : Ev → Prop} : onE τ k = k τ := rfl
theorem onC_t {k : Prop} : onC true k = k := propext ⟨fun h => h.2, fun h => ⟨rfl, h⟩⟩
section
variable {α β : Type} {r : R α} {Q : α → Sto → Prop} {X : XP} {τ : Ev} {s : Sto}
theorem wp_mono {Q' : α → Sto → Prop} {X' : XP} (h : wp r Q X) (hq : ∀ a s, Q a s → Q' a s) (hx : ∀ c s, X c s → X' c s) : wp r Q' X' := by
  cases r with
  | ok a s => exact hq a s h
  | exc c s => exact hx c s h
  | no => exact h
theorem wp_imp {Q' : α → Sto → Prop} (h : wp r Q X) (hq : ∀ a s, Q a s → Q' a s) : wp r Q' X := wp_mono h hq fun _ _ h => h
theorem wp_bind {f : α → M β} {Q : β → Sto → Prop} : wp (r.bind f) Q X = wp r (fun a s => wp (f a s) Q X) X := by cases r <;> rfl
theorem wp_ret {a : α} : wp (M.ret a s) Q X = Q a s := rfl
theorem wp_ok {a : α} : wp (.ok a s) Q X = Q a s := rfl
theorem wp_exc {c : Str} : wp (.exc c s) Q X = X c s := rfl
theorem wp_opt {o : Option α} : wp (M.opt o s) Q X = onO o fun a => Q a s := by
  unfold onO
  cases o with
  | none => exact propext ⟨fun h => h.elim, fun ⟨_, h, _⟩ => nomatch h⟩
  | some a => exact propext ⟨fun h => ⟨a, rfl, h⟩, fun ⟨_, h, k⟩ => by cases h; exact k⟩
theorem wp_eq {a : α} {s' : Sto} (e : r = .ok a s') (h : Q a s') : wp r Q X := by rw [e]; exact h
theorem wp_ite {p : Prop} [Decidable p] {f g : R α} : wp (if p then f else g) Q X = if p then wp f Q X else wp g Q X := by split <;> rfl
end
section
variable {Q : D → Sto → Prop} {X : XP} {τ : Ev} {s : Sto} {f a b : ED} {fs : AD} {t u : TD}
theorem wp_var {i : Nat} : wp (eVar i τ s) Q X = onO (τ[i]?) fun o => onO o fun d => Q d s := by
  unfold eVar onO
  cases h : τ[i]? with
  | none => exact propext ⟨fun h => h.elim, fun ⟨_, h, _⟩ => nomatch h⟩
  | some o =>
    cases o with
    | none => exact propext ⟨fun h => h.elim, fun ⟨_, h, _, k, _⟩ => by cases h; cases k⟩
    | some d => exact propext ⟨fun h => ⟨_, rfl, d, rfl, h⟩, fun ⟨_, h, _, k, q⟩ => by cases h; cases k; exact q⟩
theorem wp_c {d : D} : wp (eC d τ s) Q X = Q d s := rfl
theorem wp_e1 {op : D → Option D} : wp (e1 op a τ s) Q X = wp (a τ s) (fun x s => onO (op x) fun d => Q d s) X := by
  unfold e1; rw [wp_bind]; refine wp_cg fun x s => ?_; exact wp_opt
theorem wp_e2 {op : D → D → Option D} : wp (e2 op a b τ s) Q X = wp (a τ s) (fun x s => wp (b τ s) (fun y s => onO (op x y) fun d => Q d s) X) X := by
  unfold e2; rw [wp_bind]; refine wp_cg fun x s => ?_; rw [wp_bind]; refine wp_cg fun y s => ?_; exact wp_opt
theorem wp_nil {Q : List D → Sto → Prop} : wp (aNil τ s) Q X = Q [] s := rfl
theorem wp_cons {Q : List D → Sto → Prop} : wp (aCons a fs τ s) Q X = wp (a τ s) (fun x s => wp (fs τ s) (fun xs s => Q (x :: xs) s) X) X := by
  unfold aCons; rw [wp_bind]; refine wp_cg fun x s => ?_; rw [wp_bind]; rfl
theorem wp_eN {op : List D → Option D} : wp (eN op fs τ s) Q X = wp (fs τ s) (fun xs s => onO (op xs) fun d => Q d s) X := by
  unfold eN; rw [wp_bind]; refine wp_cg fun x s => ?_; exact wp_opt
theorem wp_iN {op : List D → Option (List D)} {Q : List D → Sto → Prop} : wp (iN op fs τ s) Q X = wp (fs τ s) (fun xs s => onO (op xs) fun d => Q d s) X := by
  unfold iN; rw [wp_bind]; refine wp_cg fun x s => ?_; exact wp_opt
theorem wp_call {F : FD} : wp (eCall F fs τ s) Q X = wp (fs τ s) (fun xs s => wp (F xs s) Q X) X := wp_bind
theorem wp_mt {T : String} {op : D → List D → Option D} : wp (eMt T op a fs τ s) Q X = wp (a τ s) (fun x s => onC (isTy T x) (wp (fs τ s) (fun xs s => onO (op x xs) fun d => Q d s) X)) X := by
  unfold eMt onC; rw [wp_bind]; refine wp_cg fun x s => ?_
  by_cases h : isTy T x = true
  · rw [if_pos h, wp_bind]
    refine propext ⟨fun k => ⟨h, ?_⟩, fun k => ?_⟩
    · refine wp_imp k fun xs s q => ?_
      rwa [wp_opt] at q
    · refine wp_imp k.2 fun xs s q => ?_
      rwa [wp_opt]
  · rw [if_neg h]
    exact propext ⟨fun k => k.elim, fun k => absurd k.1 h⟩
theorem wp_toL {Q : List D → Sto → Prop} {d : D} : wp (toL d s) Q X = onL d fun xs => Q xs s := by
  unfold onL
  cases d <;> first | exact propext ⟨fun h => ⟨_, rfl, h⟩, fun ⟨_, h, k⟩ => by cases h; exact k⟩ | exact propext ⟨fun h => h.elim, fun ⟨_, h, _⟩ => nomatch h⟩
theorem wp_toT {Q : List D → Sto → Prop} {d : D} : wp (toT d s) Q X = onT d fun xs => Q xs s := by
  unfold onT
  cases d <;> first | exact propext ⟨fun h => ⟨_, rfl, h⟩, fun ⟨_, h, k⟩ => by cases h; exact k⟩ | exact propext ⟨fun h => h.elim, fun ⟨_, h, _⟩ => nomatch h⟩
theorem wp_iLst {Q : List D → Sto → Prop} : wp (iLst a τ s) Q X = wp (a τ s) (fun d s => onL d fun xs => Q xs s) X := by
  unfold iLst; rw [wp_bind]; refine wp_cg fun x s => ?_; exact wp_toL
theorem wp_iTpl {Q : List D → Sto → Prop} : wp (iTpl a τ s) Q X = wp (a τ s) (fun d s => onT d fun xs => Q xs s) X := by
  unfold iTpl; rw [wp_bind]; refine wp_cg fun x s => ?_; exact wp_toT
theorem wp_iStr {Q : List D → Sto → Prop} : wp (iStrD a τ s) Q X = wp (a τ s) (fun d s => onS d fun z => Q (z.cps.toList.map fun k => .str ⟨#[k]⟩) s) X := by
  unfold onS
  unfold iStrD; rw [wp_bind]; refine wp_cg fun d s => ?_
  cases d <;> first | exact propext ⟨fun h => ⟨_, rfl, h⟩, fun ⟨_, h, k⟩ => by cases h; exact k⟩ | exact propext ⟨fun h => h.elim, fun ⟨_, h, _⟩ => nomatch h⟩
theorem wp_oNone {Q : Option Int → Sto → Prop} : wp (oNone τ s) Q X = Q none s := rfl
theorem wp_oSome {Q : Option Int → Sto → Prop} : wp (oSome a τ s) Q X = wp (a τ s) (fun d s => onI d fun i => Q (some i) s) X := by
  unfold onI
  unfold oSome; rw [wp_bind]; refine wp_cg fun d s => ?_
  cases d <;> first | exact propext ⟨fun h => ⟨_, rfl, h⟩, fun ⟨_, h, k⟩ => by cases h; exact k⟩ | exact propext ⟨fun h => h.elim, fun ⟨_, h, _⟩ => nomatch h⟩
theorem wp_sl {lo hi : OD} : wp (eSl a lo hi τ s) Q X = wp (a τ s) (fun x s => wp (lo τ s) (fun l s => wp (hi τ s) (fun u s => onO (slD x l u) fun d => Q d s) X) X) X := by
  unfold eSl; rw [wp_bind]; refine wp_cg fun x s => ?_; rw [wp_bind]; refine wp_cg fun l s => ?_; rw [wp_bind]; refine wp_cg fun u s => ?_; exact wp_opt
theorem wp_toB {Q : Bool → Sto → Prop} {d : D} : wp (toB d s) Q X = onB d fun v => Q v s := by
  unfold onB
  cases d <;> first | exact propext ⟨fun h => ⟨_, rfl, h⟩, fun ⟨_, h, k⟩ => by cases h; exact k⟩ | exact propext ⟨fun h => h.elim, fun ⟨_, h, _⟩ => nomatch h⟩
theorem wp_tB1 {Q : Bool → Sto → Prop} : wp (tB1 a τ s) Q X = wp (a τ s) (fun d s => onB d fun v => Q v s) X := by
  unfold tB1; rw [wp_bind]; refine wp_cg fun x s => ?_; exact wp_toB
theorem wp_tYes {Q : Bool → Sto → Prop} : wp (tYesD τ s) Q X = Q true s := rfl
theorem wp_tNot {Q : Bool → Sto → Prop} : wp (tNotD t τ s) Q X = wp (t τ s) (fun v s => Q (!v) s) X := by
  unfold tNotD; rw [wp_bind]; rfl
theorem wp_tAnd {Q : Bool → Sto → Prop} : wp (tAndD t u τ s) Q X = wp (t τ s) (fun v s => if v = true then wp (u τ s) Q X else Q false s) X := by
  unfold tAndD; rw [wp_bind]; refine wp_cg fun v s => ?_; cases v <;> rfl
theorem wp_tOr {Q : Bool → Sto → Prop} : wp (tOrD t u τ s) Q X = wp (t τ s) (fun v s => if v = true then Q true s else wp (u τ s) Q X) X := by
  unfold tOrD; rw [wp_bind]; refine wp_cg fun v s => ?_; cases v <;> rfl
theorem wp_eAnd : wp (eAndD a b τ s) Q X = wp (a τ s) (fun d s => onB d fun v => if v = true then wp (b τ s) Q X else Q (.bl false) s) X := by
  unfold onB
  unfold eAndD; rw [wp_bind]; refine wp_cg fun d s => ?_
  cases d <;> first
    | exact propext ⟨fun h => h.elim, fun ⟨_, h, _⟩ => nomatch h⟩
    | skip
  rename_i v
  cases v
  · exact propext ⟨fun h => ⟨_, rfl, h⟩, fun ⟨_, h, k⟩ => by cases h; exact k⟩
  · exact propext ⟨fun h => ⟨_, rfl, h⟩, fun ⟨_, h, k⟩ => by cases h; exact k⟩
theorem wp_eOr : wp (eOrD a b τ s) Q X = wp (a τ s) (fun d s => onB d fun v => if v = true then Q (.bl true) s else wp (b τ s) Q X) X := by
  unfold onB
  unfold eOrD; rw [wp_bind]; refine wp_cg fun d s => ?_
  cases d <;> first
    | exact propext ⟨fun h => h.elim, fun ⟨_, h, _⟩ => nomatch h⟩
    | skip
  rename_i v
  cases v
  · exact propext ⟨fun h => ⟨_, rfl, h⟩, fun ⟨_, h, k⟩ => by cases h; exact k⟩
  · exact propext ⟨fun h => ⟨_, rfl, h⟩, fun ⟨_, h, k⟩ => by cases h; exact k⟩
theorem wp_eIf : wp (eIf t a b τ s) Q X = wp (t τ s) (fun v s => if v = true then wp (a τ s) Q X else wp (b τ s) Q X) X := by
  unfold eIf; rw [wp_bind]; refine wp_cg fun v s => ?_; cases v <;> rfl
theorem wp_ch {op op' : D → D → Option D} {e : ED} : wp (eCh op op' a b e τ s) Q X = wp (a τ s) (fun x s => wp (b τ s) (fun y s => onO (op x y) fun d => onB d fun v => if v = true then wp (e τ s) (fun z s => onO (op' y z) fun d => Q d s) X else Q (.bl false) s) X) X := by
  unfold eCh; rw [wp_bind]; refine wp_cg fun x s => ?_; rw [wp_bind]; refine wp_cg fun y s => ?_; rw [wp_bind, wp_opt]
  refine onO_cg fun d => ?_
  unfold onB
  refine propext ⟨fun k => ?_, fun ⟨v, h, k⟩ => ?_⟩
  · cases d <;> first | exact k.elim | skip
    rename_i v
    refine ⟨v, rfl, ?_⟩
    cases v
    · exact k
    · rw [if_pos rfl]
      refine wp_imp (r := e τ s) (Q := fun u s => wp (M.opt (op' y u) s) Q X) ?_ fun u s k => ?_
      · have k : wp ((e τ s).bind fun u => M.opt (op' y u)) Q X := k
        rwa [wp_bind] at k
      · rwa [wp_opt] at k
  · subst h
    cases v
    · exact k
    · rw [if_pos rfl] at k
      show wp ((e τ s).bind fun u => M.opt (op' y u)) Q X
      rw [wp_bind]
      refine wp_imp k fun u s k => ?_
      rwa [wp_opt]
theorem wp_told {errs : List Str} : wp (eTold errs a τ s) Q X = wp (a τ s) Q (fun c s => c ∈ errs ∧ Q (wordD c) s) := by
  unfold eTold
  cases h : a τ s with
  | ok d s => rfl
  | exc c s =>
    show wp (if c ∈ errs then .ok (wordD c) s else .no) Q X = (c ∈ errs ∧ Q (wordD c) s)
    by_cases k : c ∈ errs
    · rw [if_pos k]; exact propext ⟨fun h => ⟨k, h⟩, fun h => h.2⟩
    · rw [if_neg k]; exact propext ⟨fun h => h.elim, fun h => absurd h.1 k⟩
  | no => rfl
/-! statements -/
variable {QS : Fl → Sto → Prop} {p q : SD}
theorem wp_next : wp (sNext τ s) QS X = QS (.nx τ) s := rfl
theorem wp_break : wp (sBreak τ s) QS X = QS (.bk τ) s := rfl
theorem wp_cont : wp (sCont τ s) QS X = QS (.ct τ) s := rfl
theorem wp_retN : wp (sRetN τ s) QS X = QS (.rt .non) s := rfl
theorem wp_raise {x : Str} : wp (sRaise x τ s) QS X = X x s := rfl
theorem wp_seq : wp (sSeq p q τ s) QS X = wp (p τ s) (fun fl s => match fl with | .nx τ' => wp (q τ' s) QS X | o => QS o s) X := by
  unfold sSeq; rw [wp_bind]; refine wp_cg fun fl s => ?_; cases fl <;> rfl
theorem wp_expr : wp (sExpr a τ s) QS X = wp (a τ s) (fun _ s => QS (.nx τ) s) X := by
  unfold sExpr; rw [wp_bind]; rfl
theorem wp_set {i : Nat} : wp (sSet i a τ s) QS X = wp (a τ s) (fun d s => onE (τ.set i (some d)) fun τ => QS (.nx τ) s) X := by
  unfold sSet; rw [wp_bind]; rfl
theorem wp_setO {i : Nat} : wp (sSetO i a τ s) QS X = wp (a τ s) (fun d s => onC (isCt d) (onE (τ.set i (some d)) fun τ => QS (.nx τ) s)) X := by
  unfold onC onE
  unfold sSetO; rw [wp_bind]; refine wp_cg fun d s => ?_
  by_cases h : isCt d = true
  · rw [if_pos h]; exact propext ⟨fun k => ⟨h, k⟩, fun k => k.2⟩
  · rw [if_neg h]; exact propext ⟨fun k => k.elim, fun k => absurd k.1 h⟩
theorem wp_retS : wp (sRet a τ s) QS X = wp (a τ s) (fun d s => QS (.rt d) s) X := by
  unfold sRet; rw [wp_bind]; rfl
theorem wp_if : wp (sIf t p q τ s) QS X = wp (t τ s) (fun v s => if v = true then wp (p τ s) QS X else wp (q τ s) QS X) X := by
  unfold sIf; rw [wp_bind]; refine wp_cg fun v s => ?_; cases v <;> rfl
theorem wp_app {i : Nat} : wp (sApp i a τ s) QS X = onO (τ[i]?) fun o => onO o fun l => onL l fun xs => wp (a τ s) (fun d s => onC (small (xs.length + 1)) (onE (τ.set i (some (.lst (xs ++ [d])))) fun τ => QS (.nx τ) s)) X := by
  unfold sApp onO onL onC onE
  cases h : τ[i]? with
  | none => exact propext ⟨fun h => h.elim, fun ⟨_, h, _⟩ => nomatch h⟩
  | some o =>
    cases o with
    | none => exact propext ⟨fun h => h.elim, fun ⟨_, h, _, k, _⟩ => by cases h; cases k⟩
    | some d =>
      cases d <;> first | exact propext ⟨fun h => h.elim, fun ⟨_, h, _, k, _, q, _⟩ => by cases h; cases k; cases q⟩ | skip
      rename_i xs
      have key : wp ((a τ s).bind fun d => if small (xs.length + 1) then M.ret (.nx (τ.set i (some (.lst (xs ++ [d]))))) else fun _ => .no) QS X = wp (a τ s) (fun d s => small (xs.length + 1) = true ∧ QS (.nx (τ.set i (some (.lst (xs ++ [d]))))) s) X := by
        rw [wp_bind]; refine wp_cg fun d s => ?_
        by_cases h : small (xs.length + 1) = true
        · rw [if_pos h]; exact propext ⟨fun k => ⟨h, k⟩, fun k => k.2⟩
        · rw [if_neg h]; exact propext ⟨fun k => k.elim, fun k => absurd k.1 h⟩
      refine propext ⟨fun k => ⟨_, rfl, _, rfl, xs, rfl, ?_⟩, fun ⟨_, h, _, h2, _, h3, k⟩ => ?_⟩
      · exact cast key k
      · cases h; cases h2; cases h3; exact cast key.symm k
theorem wp_asg {tg : D → Ev → Option Ev} : wp (sAsg a tg τ s) QS X = wp (a τ s) (fun d s => onO (tg d τ) fun τ' => QS (.nx τ') s) X := by
  unfold onO
  unfold sAsg; rw [wp_bind]; refine wp_cg fun d s => ?_
  cases h : tg d τ with
  | none => exact propext ⟨fun k => k.elim, fun ⟨_, h, _⟩ => nomatch h⟩
  | some τ' => exact propext ⟨fun k => ⟨_, rfl, k⟩, fun ⟨_, h, k⟩ => by cases h; exact k⟩
theorem wp_setI {i : Nat} : wp (sSetI i b a τ s) QS X = wp (a τ s) (fun d s => onO (τ[i]?) fun o => onO o fun l => onL l fun xs => wp (b τ s) (fun j s => onI j fun j' => onO (L2.ixN xs.length j') fun k => onE (τ.set i (some (.lst (xs.set k d)))) fun τ => QS (.nx τ) s) X) X := by
  unfold sSetI onO onL onI onE; rw [wp_bind]; refine wp_cg fun d s => ?_
  cases h : τ[i]? with
  | none => exact propext ⟨fun h => h.elim, fun ⟨_, h, _⟩ => nomatch h⟩
  | some o =>
    cases o with
    | none => exact propext ⟨fun h => h.elim, fun ⟨_, h, _, k, _⟩ => by cases h; cases k⟩
    | some z =>
      cases z <;> first | exact propext ⟨fun h => h.elim, fun ⟨_, h, _, k, _, q, _⟩ => by cases h; cases k; cases q⟩ | skip
      rename_i xs
      have key : wp ((b τ s).bind fun j => match j with
        | .int j => match L2.ixN xs.length j with
          | some k => M.ret (.nx (τ.set i (some (.lst (xs.set k d)))))
          | none => fun _ => .no
        | _ => fun _ => .no) QS X = wp (b τ s) (fun j s => ∃ j', j = .int j' ∧ ∃ k, L2.ixN xs.length j' = some k ∧ QS (.nx (τ.set i (some (.lst (xs.set k d))))) s) X := by
        rw [wp_bind]; refine wp_cg fun j s => ?_
        cases j <;> first | exact propext ⟨fun h => h.elim, fun ⟨_, h, _⟩ => nomatch h⟩ | skip
        rename_i j
        show wp ((match L2.ixN xs.length j with
          | some k => M.ret (.nx (τ.set i (some (.lst (xs.set k d)))))
          | none => fun _ => .no : M Fl) s) QS X = _
        cases e : L2.ixN xs.length j with
        | none => exact propext ⟨fun h => h.elim, fun ⟨_, h, _, k, _⟩ => by cases h; rw [e] at k; cases k⟩
        | some k => exact propext ⟨fun h => ⟨_, rfl, k, e, h⟩, fun ⟨_, h, _, k, q⟩ => by cases h; rw [e] at k; cases k; exact q⟩
      refine propext ⟨fun k => ⟨_, rfl, _, rfl, xs, rfl, ?_⟩, fun ⟨_, h, _, h2, _, h3, k⟩ => ?_⟩
      · exact cast key k
      · cases h; cases h2; cases h3; exact cast key.symm k
theorem wp_fn {np nN : Nat} {ds : List D} : wp (fnM np nN p ds s) Q X = onC (decide (ds.length = np)) (onE (ds.map some ++ List.replicate (nN - np) none) fun τ => wp (p τ s) (fun fl s => match fl with | .nx _ => Q .non s | .rt d => Q d s | _ => False) X) := by
  unfold fnM onC onE
  by_cases h : ds.length = np
  · rw [if_pos h, wp_bind]
    refine propext ⟨fun k => ⟨decide_eq_true h, wp_imp k fun fl s k => ?_⟩, fun k => wp_imp k.2 fun fl s k => ?_⟩ <;> (cases fl <;> exact k)
  · rw [if_neg h]; exact propext ⟨fun k => k.elim, fun k => absurd (of_decide_eq_true k.1) h⟩
theorem wp_for {it : AD} {tg : D → Ev → Option Ev} : wp (sFor it tg p τ s) QS X = wp (it τ s) (fun ds s => wp (forGo tg p ds τ s) QS X) X := wp_bind
theorem wp_forGo {tg : D → Ev → Option Ev} : ∀ (ds : List D) (I : Nat → Ev → Sto → Prop) (τ : Ev) (s : Sto), I 0 τ s →
    (∀ i d τ s, ds[i]? = some d → I i τ s → ∃ τ1, tg d τ = some τ1 ∧ wp (p τ1 s) (fun fl s => match fl with | .nx τ2 => I (i + 1) τ2 s | .ct τ2 => I (i + 1) τ2 s | .bk τ2 => QS (.nx τ2) s | .rt d => QS (.rt d) s) X) →
    (∀ τ s, I ds.length τ s → QS (.nx τ) s) → wp (forGo tg p ds τ s) QS X
  | [], I, τ, s, h0, _, hQ => hQ τ s h0
  | d :: ds, I, τ, s, h0, hs, hQ => by
    obtain ⟨τ1, e1, hb⟩ := hs 0 d τ s rfl h0
    unfold forGo
    rw [e1]
    show wp ((p τ1 s).bind _) QS X
    rw [wp_bind]
    refine wp_imp hb fun fl s h => ?_
    cases fl with
    | nx τ2 => exact wp_forGo ds (fun i => I (i + 1)) τ2 s h (fun i d τ s hd hi => hs (i + 1) d τ s hd hi) hQ
    | ct τ2 => exact wp_forGo ds (fun i => I (i + 1)) τ2 s h (fun i d τ s hd hi => hs (i + 1) d τ s hd hi) hQ
    | bk τ2 => exact h
    | rt d => exact h
theorem wp_forN {tg : D → Ev → Option Ev} : wp (forGo tg p [] τ s) QS X = QS (.nx τ) s := rfl
theorem wp_forC {tg : D → Ev → Option Ev} {d : D} {ds : List D} : wp (forGo tg p (d :: ds) τ s) QS X = onO (tg d τ) fun τ1 => wp (p τ1 s) (fun fl s => match fl with | .nx τ2 => wp (forGo tg p ds τ2 s) QS X | .ct τ2 => wp (forGo tg p ds τ2 s) QS X | .bk τ2 => QS (.nx τ2) s | .rt d => QS (.rt d) s) X := by
  conv => lhs; unfold forGo
  cases e : tg d τ with
  | none => exact propext ⟨fun h => h.elim, fun ⟨_, h, _⟩ => nomatch h⟩
  | some τ1 =>
    rw [onO_some]
    show wp ((p τ1 s).bind _) QS X = _
    rw [wp_bind]
    refine wp_cg fun fl s => ?_
    cases fl <;> rfl
theorem wp_loopW {t : TD} {I : Nat → Ev → Sto → Prop}
    (hs : ∀ m τ s, I m τ s → wp (t τ s) (fun v s => if v = true then wp (p τ s) (fun fl s => match fl with | .nx τ2 => ∃ m', m' < m ∧ I m' τ2 s | .ct τ2 => ∃ m', m' < m ∧ I m' τ2 s | .bk τ2 => QS (.nx τ2) s | .rt d => QS (.rt d) s) X else QS (.nx τ) s) X) :
    ∀ (n m : Nat) (τ : Ev) (s : Sto), m < n → I m τ s → wp (loopW t p n τ s) QS X
  | 0, m, τ, s, hm, _ => absurd hm (Nat.not_lt_zero _)
  | n + 1, m, τ, s, hm, hi => by
    unfold loopW
    rw [wp_bind]
    refine wp_imp (hs m τ s hi) fun v s h => ?_
    cases v with
    | false => exact h
    | true =>
      rw [if_pos rfl] at h
      show wp ((p τ s).bind _) QS X
      rw [wp_bind]
      refine wp_imp h fun fl s h => ?_
      cases fl with
      | nx τ2 => obtain ⟨m', h1, h2⟩ := h; exact wp_loopW hs n m' τ2 s (by omega) h2
      | ct τ2 => obtain ⟨m', h1, h2⟩ := h; exact wp_loopW hs n m' τ2 s (by omega) h2
      | bk τ2 => exact h
      | rt d => exact h
theorem wp_while {t : TD} {I : Nat → Ev → Sto → Prop} {m : Nat} (hm : m < 1000000) (hi : I m τ s)
    (hs : ∀ m τ s, I m τ s → wp (t τ s) (fun v s => if v = true then wp (p τ s) (fun fl s => match fl with | .nx τ2 => ∃ m', m' < m ∧ I m' τ2 s | .ct τ2 => ∃ m', m' < m ∧ I m' τ2 s | .bk τ2 => QS (.nx τ2) s | .rt d => QS (.rt d) s) X else QS (.nx τ) s) X) : wp (sWhile t p τ s) QS X :=
  wp_loopW hs fuel m τ s hm hi
theorem wp_noX {α : Type} {r : R α} {Q : α → Sto → Prop} : wp (noX r) Q X = wp r Q (fun _ _ => False) := by cases r <;> rfl
theorem wp_lc {it : AD} {tg : D → Ev → Option Ev} {ts : TD} {el : ED} {vs : List Nat} : wp (eLc it tg ts el vs τ s) Q X = wp (it τ s) (fun ds s => onC (small ds.length) (wp (lcGo tg ts el (wipeD τ vs) ds s) (fun ys s => Q (.lst ys) s) X)) X := by
  unfold eLc onC; rw [wp_bind]; refine wp_cg fun ds s => ?_
  by_cases h : small ds.length = true
  · rw [if_pos h, wp_bind]; exact propext ⟨fun k => ⟨h, k⟩, fun k => k.2⟩
  · rw [if_neg h]; exact propext ⟨fun k => k.elim, fun k => absurd k.1 h⟩
theorem wp_lc0 {it : AD} {tg : D → Ev → Option Ev} {ts : TD} {el : ED} {vs : List Nat} : wp (eLc0 it tg ts el vs τ s) Q X = wp (it τ s) (fun ds s => onC (small ds.length) (wp (lcGo tg ts el (wipeD τ vs) ds s) (fun ys s => Q (.lst ys) s) (fun _ _ => False))) X := by
  unfold eLc0 onC; rw [wp_bind]; refine wp_cg fun ds s => ?_
  by_cases h : small ds.length = true
  · rw [if_pos h, wp_noX, wp_bind]; exact propext ⟨fun k => ⟨h, k⟩, fun k => k.2⟩
  · rw [if_neg h]; exact propext ⟨fun k => k.elim, fun k => absurd k.1 h⟩
theorem wp_lcGo {tg : D → Ev → Option Ev} {ts : TD} {el : ED} {QL : List D → Sto → Prop} : ∀ (ds : List D) (I : Nat → List D → Sto → Prop) (ys : List D) (s : Sto), I 0 ys s →
    (∀ i d ys s, ds[i]? = some d → I i ys s → ∃ τ1, tg d τ = some τ1 ∧ wp (ts τ1 s) (fun v s => if v = true then wp (el τ1 s) (fun y s => I (i + 1) (ys ++ [y]) s) X else I (i + 1) ys s) X) →
    (∀ zs s, I ds.length (ys ++ zs) s → QL zs s) → wp (lcGo tg ts el τ ds s) QL X
  | [], I, ys, s, h0, _, hQ => hQ [] s (by rw [List.append_nil]; exact h0)
  | d :: ds, I, ys, s, h0, hs, hQ => by
    obtain ⟨τ1, e1, hb⟩ := hs 0 d ys s rfl h0
    unfold lcGo
    rw [e1]
    show wp ((ts τ1 s).bind _) QL X
    rw [wp_bind]
    refine wp_imp hb fun v s h => ?_
    cases v with
    | false =>
      exact wp_lcGo ds (fun i => I (i + 1)) ys s h (fun i d ys s hd hi => hs (i + 1) d ys s hd hi) hQ
    | true =>
      rw [if_pos rfl] at h
      show wp ((el τ1 s).bind _) QL X
      rw [wp_bind]
      refine wp_imp h fun y s h => ?_
      show wp ((lcGo tg ts el τ ds s).bind _) QL X
      rw [wp_bind]
      exact wp_lcGo ds (fun i => I (i + 1)) (ys ++ [y]) s h (fun i d ys s hd hi => hs (i + 1) d ys s hd hi) (fun zs s k => hQ (y :: zs) s (by rw [List.append_assoc] at k; exact k))
end
end Mir

set_option Elab.async false
set_option linter.all false
set_option maxRecDepth 100000
set_option maxHeartbeats 1000000
/-! Mir, part Z: weakest preconditions of what looks at the store. -/
namespace Mir
open PySem SX
section
variable {Q : D → Sto → Prop} {X : XP} {τ : Ev} {s : Sto} {f a b : ED} {fs : AD} {QS : Fl → Sto → Prop}
def onN (d : D) (k : Prop) (t : Tg k := ⟨⟩) : Prop := d = .non ∧ k
theorem onN_non {k : Prop} : onN .non k = k := propext ⟨fun h => h.2, fun h => ⟨rfl, h⟩⟩
theorem wp_fld {cs : List Str} {n : Str} : wp (eFld cs n a τ s) Q X = wp (a τ s) (fun x s => onO (fldO cs n s x) fun d => Q d s) X := by
  unfold eFld; rw [wp_bind]; refine wp_cg fun x s => ?_; exact wp_opt
theorem wp_optS {α : Type} {o : Option Sto} {g : Sto → R α} {Q : α → Sto → Prop} : wp (match o with | some s' => g s' | none => .no) Q X = onO o fun s' => wp (g s') Q X := by
  cases o with
  | none => exact propext ⟨fun h => h.elim, fun ⟨_, h, _⟩ => nomatch h⟩
  | some a => rw [onO_some]
theorem wp_fldSet {cs : List Str} {n : Str} : wp (sFldSet cs n a b τ s) QS X = wp (b τ s) (fun y s => wp (a τ s) (fun x s => onO (setFld cs n y s x) fun s' => QS (.nx τ) s') X) X := by
  unfold sFldSet; rw [wp_bind]; refine wp_cg fun y s => ?_; rw [wp_bind]; refine wp_cg fun x s => ?_
  exact wp_optS (g := fun s' => R.ok (Fl.nx τ) s') (Q := QS)
theorem wp_meth {C m : Str} {F : FD} : wp (eMeth C m F a fs τ s) Q X = wp (a τ s) (fun x s => onC (isIns C m s x) (wp (fs τ s) (fun xs s => wp (F (x :: xs) s) Q X) X)) X := by
  unfold eMeth onC; rw [wp_bind]; refine wp_cg fun x s => ?_
  by_cases h : isIns C m s x = true
  · rw [if_pos h, wp_bind]; exact propext ⟨fun k => ⟨h, k⟩, fun k => k.2⟩
  · rw [if_neg h]; exact propext ⟨fun k => k.elim, fun k => absurd k.1 h⟩
theorem wp_newF {C : Str} {F : FD} {xs : List D} : wp (newF C F xs s) Q X = wp (F (.obj s.length :: xs) (s ++ [.ins C []])) (fun r s' => onN r (Q (.obj s.length) s')) X := by
  unfold newF onN; rw [wp_bind]; refine wp_cg fun r s' => ?_
  cases r <;> first | exact propext ⟨fun h => ⟨rfl, h⟩, fun h => h.2⟩ | exact propext ⟨fun h => h.elim, fun h => nomatch h.1⟩
theorem wp_new {C : Str} {F : FD} : wp (eNew C F fs τ s) Q X = wp (fs τ s) (fun xs s => wp (F (.obj s.length :: xs) (s ++ [.ins C []])) (fun r s' => onN r (Q (.obj s.length) s')) X) X := by
  unfold eNew; rw [wp_bind]; refine wp_cg fun xs s => ?_; exact wp_newF
theorem wp_sto : wp (eSto f τ s) Q X = wp (f τ s) (fun d s => onO (obOf d) fun ob => Q (.obj s.length) (s ++ [ob])) X := by
  unfold eSto; rw [wp_bind]; refine wp_cg fun d s => ?_
  cases h : obOf d with
  | none => exact propext ⟨fun h => h.elim, fun ⟨_, h, _⟩ => nomatch h⟩
  | some ob => rw [onO_some]; rfl
theorem wp_disp {ks : List Str} : wp (eDisp ks fs τ s) Q X = wp (fs τ s) (fun ds s => Q (.dct (mergeD ((ks.map Sum.inr).zip ds))) s) X := by
  unfold eDisp; rw [wp_bind]; rfl
theorem wp_e2S {op : Sto → D → D → Option D} : wp (e2S op a b τ s) Q X = wp (a τ s) (fun x s => wp (b τ s) (fun y s => onO (op s x y) fun d => Q d s) X) X := by
  unfold e2S; rw [wp_bind]; refine wp_cg fun x s => ?_; rw [wp_bind]; refine wp_cg fun y s => ?_; exact wp_opt
theorem wp_eNS {op : Sto → List D → Option D} : wp (eNS op fs τ s) Q X = wp (fs τ s) (fun xs s => onO (op s xs) fun d => Q d s) X := by
  unfold eNS; rw [wp_bind]; refine wp_cg fun x s => ?_; exact wp_opt
theorem wp_setS {o i v : ED} : wp (sSetS o i v τ s) QS X = wp (v τ s) (fun d s => wp (o τ s) (fun x s => wp (i τ s) (fun y s => onO (setS s x y d) fun s' => QS (.nx τ) s') X) X) X := by
  unfold sSetS; rw [wp_bind]; refine wp_cg fun d s => ?_; rw [wp_bind]; refine wp_cg fun x s => ?_; rw [wp_bind]; refine wp_cg fun y s => ?_
  exact wp_optS (g := fun s' => R.ok (Fl.nx τ) s') (Q := QS)
/-! the store -/
theorem fldO_at {cs : List Str} {n : Str} {m : Nat} {cl : Str} {fl : List (Str × D)} (h : s[m]? = some (.ins cl fl)) (hc : cl ∈ cs) : fldO cs n s (.obj m) = fl.lookup n := by
  show (match s[m]? with | some (.ins cl fs) => if cl ∈ cs then fs.lookup n else none | _ => none) = _
  rw [h]; exact if_pos hc
theorem setFld_at {cs : List Str} {n : Str} {v : D} {m : Nat} {cl : Str} {fl : List (Str × D)} (h : s[m]? = some (.ins cl fl)) (hc : cl ∈ cs) (hl : fl.length < 1000) : setFld cs n v s (.obj m) = some (s.set m (.ins cl (putFD n v fl))) := by
  show (match s[m]? with | some (.ins cl fs) => if cl ∈ cs then (if fs.length < 1000 then some (s.set m (.ins cl (putFD n v fs))) else none) else none | _ => none) = _
  rw [h]
  show (if cl ∈ cs then (if fl.length < 1000 then some (s.set m (.ins cl (putFD n v fl))) else none) else none) = _
  rw [if_pos hc, if_pos hl]
theorem isIns_at {C n : Str} {m : Nat} {fl : List (Str × D)} (h : s[m]? = some (.ins C fl)) (hn : fl.lookup n = none) : isIns C n s (.obj m) = true := by
  show (match s[m]? with | some (.ins cl fs) => decide (cl = C) && (fs.lookup n).isNone | _ => false) = true
  rw [h]
  show (decide (C = C) && (fl.lookup n).isNone) = true
  rw [hn]; simp
theorem sto_new {ob : Ob} : (s ++ [ob])[s.length]? = some ob := by simp
theorem sto_old {r : Sto} {m : Nat} {ob : Ob} (h : s[m]? = some ob) : (s ++ r)[m]? = some ob := by
  rw [List.getElem?_append_left (List.getElem?_eq_some_iff.mp h).1]; exact h
theorem sto_set {m : Nat} {ob ob' : Ob} (h : s[m]? = some ob) : (s.set m ob')[m]? = some ob' := List.getElem?_set_self (List.getElem?_eq_some_iff.mp h).1
theorem sto_setNew {ob ob' : Ob} : (s ++ [ob]).set s.length ob' = s ++ [ob'] := by simp
end
end Mir

set_option Elab.async false
set_option linter.all false
set_option maxRecDepth 100000
set_option maxHeartbeats 4000000
/-! Mir, part Tx: find, replace at plain lists. -/
namespace Mir
open PySem PySem.Spec PyProof.Rows L2 SX
theorem find3_S {l t rest : List Nat} {c i : Nat} (h : l.drop i = t ++ c :: rest) (hc : c ∉ t) (hi : i ≤ l.length) : Txt.find3 (S l) (S [c]) (i : Int) = ((i + t.length : Nat) : Int) := by
  have hl : (S l).length = l.length := S_len l
  have hx : ∀ v, (S l).cps.getD v 0 = l.getD v 0 := fun v => by
    show (l.toArray).getD v 0 = _
    simp [Array.getD_eq_getD_getElem?, List.getD_eq_getElem?_getD]
  have hlen : l.length = i + t.length + 1 + rest.length := by
    have := congrArg List.length h
    simp at this
    omega
  have hf : PySem.fromIndex (S l).length (i : Int) = i := by
    unfold PySem.fromIndex
    rw [if_neg (by omega)]
    omega
  have hg : ∀ v, l.getD (i + v) 0 = (t ++ c :: rest).getD v 0 := fun v => by
    rw [← h]; simp [List.getD_eq_getElem?_getD, List.getElem?_drop]
  have hat : l.getD (i + t.length) 0 = c := by rw [hg]; simp [List.getD_eq_getElem?_getD]
  have hbef : ∀ v, v < t.length → l.getD (i + v) 0 ≠ c := fun v hv he => by
    rw [hg, List.getD_eq_getElem?_getD, List.getElem?_append_left hv, List.getElem?_eq_getElem hv] at he
    exact hc (by rw [← he]; exact List.getElem_mem hv)
  rcases StrLaws.find3_spec (S l) c (i : Int) with ⟨_, hn⟩ | ⟨k, hk, h1, h2, h3, h4⟩
  · exact absurd ((hx _).trans hat) (hn (i + t.length) (by rw [hf]; omega) (by omega))
  · have e : (⟨#[c]⟩ : Str) = S [c] := rfl
    rw [e] at hk
    rw [hk]
    rw [hf] at h1 h4
    rw [hx] at h3
    congr 1
    rcases Nat.lt_trichotomy k (i + t.length) with hlt | heq | hgt
    · obtain ⟨v, rfl⟩ : ∃ v, k = i + v := ⟨k - i, by omega⟩
      exact absurd h3 (hbef v (by omega))
    · exact heq
    · exact absurd ((hx _).trans hat) (h4 (i + t.length) (by omega) hgt)
theorem repl_S {l z : List Nat} {c : Nat} : Txt.replace (S l) (S [c]) (S z) = S (TL.joinL z (TL.spl [c] 0 [] l)) := by
  have hy : TL.tl (S [c]) ≠ [] := by intro h; cases h
  obtain ⟨f, g, hn⟩ := StrLaws.occ_tight (S l) (S [c]) (TL.len1 hy)
  have key := TL.parts_spl hy _ 0 f (Nat.zero_le _) g hn
  rw [List.drop_zero] at key
  have e1 : TL.tl (S l) = l := rfl
  have e2 : TL.tl (S [c]) = [c] := rfl
  rw [e1, e2] at key
  unfold Txt.replace
  have hz : ((S [c]).length == 0 && (S z).length == 0) = false := rfl
  rw [hz, Bool.or_false]
  by_cases h2 : (Builtin.Str.occurrences (S l) (S [c]) 0 (S l).length ((S l).length + 1)).isEmpty = true
  · rw [if_pos h2]
    rw [List.isEmpty_iff.mp h2] at key
    have k2 : [TL.tl (Builtin.Str.strSub (S l) 0 (S l).length)] = TL.spl [c] 0 [] l := key
    rw [TL.tl_strSub_end, e1, List.drop_zero] at k2
    rw [← k2]
    rfl
  · rw [if_neg h2]
    refine TL.ext_tl ?_
    have k3 : Txt.join (S z) (Builtin.Str.partsBetween (S l) (Builtin.Str.occurrences (S l) (S [c]) 0 (S l).length ((S l).length + 1)) (S [c]).length) = _ := TL.join_eq _ _
    show TL.tl (Txt.join (S z) (Builtin.Str.partsBetween (S l) (Builtin.Str.occurrences (S l) (S [c]) 0 (S l).length ((S l).length + 1)) (S [c]).length)) = TL.joinL z _
    rw [k3, TL.tl_join]
    have k4 : (Builtin.Str.partsBetween (S l) (Builtin.Str.occurrences (S l) (S [c]) 0 (S l).length ((S l).length + 1)) (S [c]).length).map TL.tl = TL.spl [c] 0 [] l := by
      rw [StrLaws.partsBetween_eq]; exact key
    rw [k4]
end Mir

set_option Elab.async false
set_option linter.all false
set_option maxRecDepth 100000
set_option maxHeartbeats 4000000
namespace K50
open PySem PySem.Spec PyProof.Rows L2 Mir
def topS (i : Nat) : Stmt := PySem.Challenge.pw_lettershelf_k50_queries_written_and_read.main.body.getD i (.Pass ⟨0, 0, 0, 0⟩)
def errs : List Str := ["BadLetter", "BadSet", "BadBox", "BadMarks", "BadNumber", "BadPlace", "Gone", "BadQuery", "BadText"]
def tb_LENGTHS : List (Str × Int) := [("all", 1), ("mark", 2), ("head", 3), ("body", 2), ("numbers", 2), ("newer", 2), ("not", 2), ("or", 3), ("and", 3)]
structure Fx (K : PySem.W.Frag) (w : World) (mg : Str → Option Value) : Prop where
  f__law_drawn : ∃ fd, FunD K "_law_drawn" "_law_drawn" (defArgs (topS 46)) (defBody (topS 46)) (defScope (topS 46)) [] [] (He.ga K "_law_drawn") fd
  g__law_drawn : mg "_law_drawn" = some (.ref (He.ga K "_law_drawn"))
  f__law_signs : ∃ fd, FunD K "_law_signs" "_law_signs" (defArgs (topS 49)) (defBody (topS 49)) (defScope (topS 49)) [] [] (He.ga K "_law_signs") fd
  g__law_signs : mg "_law_signs" = some (.ref (He.ga K "_law_signs"))
  z_range : mg "range" = none
  z_len : mg "len" = none
  f__law_signed : ∃ fd, FunD K "_law_signed" "_law_signed" (defArgs (topS 52)) (defBody (topS 52)) (defScope (topS 52)) [] [] (He.ga K "_law_signed") fd
  g__law_signed : mg "_law_signed" = some (.ref (He.ga K "_law_signed"))
  z_str : mg "str" = none
  f__law_query_text : ∃ fd, FunD K "_law_query_text" "_law_query_text" (defArgs (topS 51)) (defBody (topS 51)) (defScope (topS 51)) [] [] (He.ga K "_law_query_text") fd
  g__law_query_text : mg "_law_query_text" = some (.ref (He.ga K "_law_query_text"))
  f__law_cell : ∃ fd, FunD K "_law_cell" "_law_cell" (defArgs (topS 45)) (defBody (topS 45)) (defScope (topS 45)) [] [] (He.ga K "_law_cell") fd
  g__law_cell : mg "_law_cell" = some (.ref (He.ga K "_law_cell"))
  f__law_query : ∃ fd, FunD K "_law_query" "_law_query" (defArgs (topS 50)) (defBody (topS 50)) (defScope (topS 50)) [] [] (He.ga K "_law_query") fd
  g__law_query : mg "_law_query" = some (.ref (He.ga K "_law_query"))
  g_BadMarks : mg "BadMarks" = some (.ref (He.ga K "BadMarks"))
  z_isinstance : mg "isinstance" = none
  g_BadBox : mg "BadBox" = some (.ref (He.ga K "BadBox"))
  g_BadSet : mg "BadSet" = some (.ref (He.ga K "BadSet"))
  g_BadLetter : mg "BadLetter" = some (.ref (He.ga K "BadLetter"))
  g_BadQuery : mg "BadQuery" = some (.ref (He.ga K "BadQuery"))
  g_Gone : mg "Gone" = some (.ref (He.ga K "Gone"))
  g_BadPlace : mg "BadPlace" = some (.ref (He.ga K "BadPlace"))
  g_BadNumber : mg "BadNumber" = some (.ref (He.ga K "BadNumber"))
  g_BadText : mg "BadText" = some (.ref (He.ga K "BadText"))
  z_ValueError : mg "ValueError" = none
  z_int : mg "int" = none
  z_sum : mg "sum" = none
  g__law_word : mg "_law_word" = some (.ref (He.ga K "_law_word"))
  f__law_word : ∃ fd, FunD K "_law_word" "_law_word" (defArgs (topS 47)) (defBody (topS 47)) (defScope (topS 47)) [] [] (He.ga K "_law_word") fd
  wf : WordF K errs
  g__law_told : mg "_law_told" = some (.ref (He.ga K "_law_told"))
  f__law_told : ∃ fd, FunD K "_law_told" "_law_told" (defArgs (topS 48)) (defBody (topS 48)) (defScope (topS 48)) [] [] (He.ga K "_law_told") fd
  g_ShelfError : mg "ShelfError" = some (.ref (He.ga K "ShelfError"))
  x_ShelfError : ∀ cl ∈ errs, PySem.W.exmOne K (clsV K cl) (.ref (He.ga K "ShelfError")) = some true
  e_BadQuery : ExcF K mg "BadQuery"
  f_need_queries : ∃ fd, FunD K "need" "need" (defArgs (topS 32)) (defBody (topS 32)) (defScope (topS 32)) [] [] (He.ga K "need_queries") fd
  g_need_queries : mg "need_queries" = some (.ref (He.ga K "need_queries"))
  s_SMALL : ∃ t, mg "SMALL" = some (.str "abcdefghijklmnopqrstuvwxyz" t)
  z_all : mg "all" = none
  f_is_word : ∃ fd, FunD K "is_word" "is_word" (defArgs (topS 16)) (defBody (topS 16)) (defScope (topS 16)) [] [] (He.ga K "is_word") fd
  g_is_word : mg "is_word" = some (.ref (He.ga K "is_word"))
  z_ord : mg "ord" = none
  i_BARRED : ∃ t, mg "BARRED" = some (.int 37 t)
  f_are_signs : ∃ fd, FunD K "are_signs" "are_signs" (defArgs (topS 15)) (defBody (topS 15)) (defScope (topS 15)) [] [] (He.ga K "are_signs") fd
  g_are_signs : mg "are_signs" = some (.ref (He.ga K "are_signs"))
  i_MOST_TEXT : ∃ t, mg "MOST_TEXT" = some (.int 20 t)
  f_is_text : ∃ fd, FunD K "is_text" "is_text" (defArgs (topS 34)) (defBody (topS 34)) (defScope (topS 34)) [] [] (He.ga K "is_text") fd
  g_is_text : mg "is_text" = some (.ref (He.ga K "is_text"))
  e_BadSet : ExcF K mg "BadSet"
  f_need_sets : ∃ fd, FunD K "need" "need" (defArgs (topS 21)) (defBody (topS 21)) (defScope (topS 21)) [] [] (He.ga K "need_sets") fd
  g_need_sets : mg "need_sets" = some (.ref (He.ga K "need_sets"))
  s_FIGURES : ∃ t, mg "FIGURES" = some (.str "0123456789" t)
  i_MOST_FIGURES : ∃ t, mg "MOST_FIGURES" = some (.int 4 t)
  f_number_of : ∃ fd, FunD K "number_of" "number_of" (defArgs (topS 23)) (defBody (topS 23)) (defScope (topS 23)) [] [] (He.ga K "number_of") fd
  g_number_of : mg "number_of" = some (.ref (He.ga K "number_of"))
  z_max : mg "max" = none
  z_min : mg "min" = none
  f_ends_of : ∃ fd, FunD K "ends_of" "ends_of" (defArgs (topS 24)) (defBody (topS 24)) (defScope (topS 24)) [] [] (He.ga K "ends_of") fd
  g_ends_of : mg "ends_of" = some (.ref (He.ga K "ends_of"))
  z_sorted : mg "sorted" = none
  f_set_of : ∃ fd, FunD K "set_of" "set_of" (defArgs (topS 25)) (defBody (topS 25)) (defScope (topS 25)) [] [] (He.ga K "set_of") fd
  g_set_of : mg "set_of" = some (.ref (He.ga K "set_of"))
  xm_BadSet : PySem.W.exmOne K (clsV K "BadSet") (.ref (He.ga K "BadSet")) = some true
  f_is_set : ∃ fd, FunD K "is_set" "is_set" (defArgs (topS 35)) (defBody (topS 35)) (defScope (topS 35)) [] [] (He.ga K "is_set") fd
  g_is_set : mg "is_set" = some (.ref (He.ga K "is_set"))
  i_MOST_NUMBER : ∃ t, mg "MOST_NUMBER" = some (.int 9999 t)
  z_bool : mg "bool" = none
  f_is_step : ∃ fd, FunD K "is_step" "is_step" (defArgs (topS 36)) (defBody (topS 36)) (defScope (topS 36)) [] [] (He.ga K "is_step") fd
  g_is_step : mg "is_step" = some (.ref (He.ga K "is_step"))
  t_LENGTHS : TabF K w mg "LENGTHS" tb_LENGTHS
  z_tuple : mg "tuple" = none
  i_MOST_WITHIN : ∃ t, mg "MOST_WITHIN" = some (.int 8 t)
  i_MOST_MARK : ∃ t, mg "MOST_MARK" = some (.int 10 t)
  i_MOST_NAME : ∃ t, mg "MOST_NAME" = some (.int 12 t)
  f_need_deep : ∃ fd, FunD K "need_deep" "need_deep" (defArgs (topS 37)) (defBody (topS 37)) (defScope (topS 37)) [] [] (He.ga K "need_deep") fd
  g_need_deep : mg "need_deep" = some (.ref (He.ga K "need_deep"))
  f_need_query : ∃ fd, FunD K "need_query" "need_query" (defArgs (topS 38)) (defBody (topS 38)) (defScope (topS 38)) [] [] (He.ga K "need_query") fd
  g_need_query : mg "need_query" = some (.ref (He.ga K "need_query"))
  f_words_of : ∃ fd, FunD K "words_of" "words_of" (defArgs (topS 39)) (defBody (topS 39)) (defScope (topS 39)) [] [] (He.ga K "words_of") fd
  g_words_of : mg "words_of" = some (.ref (He.ga K "words_of"))
  f_written_query : ∃ fd, FunD K "written_query" "written_query" (defArgs (topS 40)) (defBody (topS 40)) (defScope (topS 40)) [] [] (He.ga K "written_query") fd
  g_written_query : mg "written_query" = some (.ref (He.ga K "written_query"))
  fl_reached : FldF K ["Pieces"] "reached"
  fl_pieces : FldF K ["Pieces"] "pieces"
  f_Pieces_take : ∃ fd, FunD K "take" "Pieces.take" (defArgs (inClass (topS 42) 1)) (defBody (inClass (topS 42) 1)) (defScope (inClass (topS 42) 1)) [] [] (He.ma K (He.ga K "Pieces") "take") fd
  c_Pieces : Cls K (He.ga K "Pieces")
  m_Pieces_take : Meth K (He.ga K "Pieces") "take" (He.ma K (He.ga K "Pieces") "take")
  f_Pieces_quoted : ∃ fd, FunD K "quoted" "Pieces.quoted" (defArgs (inClass (topS 42) 2)) (defBody (inClass (topS 42) 2)) (defScope (inClass (topS 42) 2)) [] [] (He.ma K (He.ga K "Pieces") "quoted") fd
  m_Pieces_quoted : Meth K (He.ga K "Pieces") "quoted" (He.ma K (He.ga K "Pieces") "quoted")
  f_Pieces_counted : ∃ fd, FunD K "counted" "Pieces.counted" (defArgs (inClass (topS 42) 3)) (defBody (inClass (topS 42) 3)) (defScope (inClass (topS 42) 3)) [] [] (He.ma K (He.ga K "Pieces") "counted") fd
  m_Pieces_counted : Meth K (He.ga K "Pieces") "counted" (He.ma K (He.ga K "Pieces") "counted")
  f_Pieces_query : ∃ fd, FunD K "query" "Pieces.query" (defArgs (inClass (topS 42) 4)) (defBody (inClass (topS 42) 4)) (defScope (inClass (topS 42) 4)) [] [] (He.ma K (He.ga K "Pieces") "query") fd
  m_Pieces_query : Meth K (He.ga K "Pieces") "query" (He.ma K (He.ga K "Pieces") "query")
  f_Pieces___init__ : ∃ fd, FunD K "__init__" "Pieces.__init__" (defArgs (inClass (topS 42) 0)) (defBody (inClass (topS 42) 0)) (defScope (inClass (topS 42) 0)) [] [] (He.ma K (He.ga K "Pieces") "__init__") fd
  g_Pieces : mg "Pieces" = some (.ref (He.ga K "Pieces"))
  k_Pieces : Mk K (He.ga K "Pieces") (He.ma K (He.ga K "Pieces") "__init__")
  i_MOST_SIGNS : ∃ t, mg "MOST_SIGNS" = some (.int 200 t)
  f_pieces_of : ∃ fd, FunD K "pieces_of" "pieces_of" (defArgs (topS 41)) (defBody (topS 41)) (defScope (topS 41)) [] [] (He.ga K "pieces_of") fd
  g_pieces_of : mg "pieces_of" = some (.ref (He.ga K "pieces_of"))
  f_read_query : ∃ fd, FunD K "read_query" "read_query" (defArgs (topS 43)) (defBody (topS 43)) (defScope (topS 43)) [] [] (He.ga K "read_query") fd
  g_read_query : mg "read_query" = some (.ref (He.ga K "read_query"))
  z_enumerate : mg "enumerate" = none
  f_law : ∃ fd, FunD K "law" "law" (defArgs (topS 53)) (defBody (topS 53)) (defScope (topS 53)) [] [] (He.ga K "law") fd
  g_law : mg "law" = some (.ref (He.ga K "law"))
section
variable {P : Program} {w : World} {K : PySem.W.Frag} {mg : Str → Option Value} {base : Heap} {T : List (Addr × Str)}
theorem sc__law_drawn : FnScope ["cell", "k", "more"] ["cell", "k"] (defScope (topS 46)) := ⟨rfl, rfl, rfl, by decide +kernel, rfl, by decide +kernel, by decide +kernel⟩
def b__law_drawn : SD := (sSeq (sSet 2 (e2 modI (e2 addDT (e2 mulD (eVar 0) (eC (.int 6364136223846793005))) (e2 mulD (e2 addDT (eVar 1) (eC (.int 1))) (eC (.int 1442695040888963407)))) (eC (.int 340282366920938463463374607431768211507))))
    (sSeq (sSet 2 (e2 modI (e2 mulD (eVar 2) (eVar 2)) (eC (.int 340282366920938463463374607431768211297))))
    (sSeq (sSet 2 (e2 mulD (e2 mulD (e2 addDT (e2 modI (eVar 2) (eC (.int 18446744073709551557))) (eC (.int 1))) (e2 addDT (e2 fdivI (eVar 2) (eC (.int 18446744073709551557))) (eC (.int 1)))) (eVar 2)))
    (sRet (e2 modI (eVar 2) (eC (.int 340282366920938463463374607431768211507)))))))
def M__law_drawn : FD := fnM 2 3 b__law_drawn
theorem h__law_drawn (F : Fx K w mg) : Has P w K mg base T "_law_drawn" (1) M__law_drawn := by
  obtain ⟨fd, hf⟩ := F.f__law_drawn
  refine ⟨⟨_, fd, ["cell", "k"], F.g__law_drawn, hf.kp, hf.bindsN (fun _ _ _ _ _ _ us hl => match us, hl with | [_, _], _ => rfl), fn_mk (k := 0) noO hf sc__law_drawn (fun cdv A outer s H E hr hx tk hp => ?_)⟩⟩
  exact (dss_cons (ds_set (i := 2) sc__law_drawn.nd (de_oz (de_bin od_mod (de_ob (de_bin od_addA (de_ob (de_bin od_mul (de_zb (de_var 0)) (de_ob de_int))) (de_ob (de_bin od_mul (de_ob (de_bin od_addA (de_zb (de_var 1)) (de_ob de_int))) (de_ob de_int))))) (de_ob de_int))))
    (dss_cons (ds_set (i := 2) sc__law_drawn.nd (de_oz (de_bin od_mod (de_ob (de_bin od_mul (de_zb (de_var 2)) (de_zb (de_var 2)))) (de_ob de_int))))
    (dss_cons (ds_set (i := 2) sc__law_drawn.nd (de_oz (de_bin od_mul (de_ob (de_bin od_mul (de_ob (de_bin od_addA (de_ob (de_bin od_mod (de_zb (de_var 2)) (de_ob de_int))) (de_ob de_int))) (de_ob (de_bin od_addA (de_ob (de_bin od_fdiv (de_zb (de_var 2)) (de_ob de_int))) (de_ob de_int))))) (de_zb (de_var 2)))))
    (dss_one (ds_ret (de_oz (de_bin od_mod (de_zb (de_var 2)) (de_ob de_int))))))))

theorem sc__law_signs : FnScope [] [] (defScope (topS 49)) := ⟨rfl, rfl, rfl, by decide +kernel, rfl, by decide +kernel, by decide +kernel⟩
def b__law_signs : SD := (sRet (eC (.str " !#$&'()*+,-./0123456789:;<=>?@ABCDEFGHIJKLMNOPQRSTUVWXYZ[\\]^_`abcdefghijklmnopqrstuvwxyz{|}~")))
def M__law_signs : FD := fnM 0 0 b__law_signs
theorem h__law_signs (F : Fx K w mg) : Has P w K mg base T "_law_signs" (1) M__law_signs := by
  obtain ⟨fd, hf⟩ := F.f__law_signs
  refine ⟨⟨_, fd, [], F.g__law_signs, hf.kp, hf.bindsN (fun _ _ _ _ _ _ us hl => match us, hl with | [], _ => rfl), fn_mk (k := 0) noO hf sc__law_signs (fun cdv A outer s H E hr hx tk hp => ?_)⟩⟩
  exact (dss_one (ds_ret (de_oz de_str)))

theorem sc__law_signed : FnScope ["query", "more", "signs", "text", "words", "j"] ["query", "more"] (defScope (topS 52)) := ⟨rfl, rfl, rfl, by decide +kernel, rfl, by decide +kernel, by decide +kernel⟩
def b__law_signed : SD := (sSeq (sSet 2 (eCall M__law_signs aNil))
    (sSeq (sSet 3 (eMt "str" joinD (eC (.str "")) (aCons (eLc0 (iN range1D (aCons (e2S ixS (eN mkL (aCons (eC (.int 0)) (aCons (eC (.int 1)) (aCons (eC (.int 5)) (aCons (eC (.int 20)) aNil))))) (e2 modI (eVar 1) (eC (.int 4)))) aNil)) (gNm 5) tYesD (e2S ixS (eVar 2) (e2 modI (eCall M__law_drawn (aCons (eVar 1) (aCons (eVar 5) aNil))) (eNS lenS (aCons (eVar 2) aNil)))) [5]) aNil)))
    (sSeq (sIf (tB1 (e2 eqD (e2 modI (e2 fdivI (eVar 1) (e2 powI (eC (.int 2)) (eC (.int 20)))) (eC (.int 3))) (eC (.int 0)))) (sSet 3 (e2S ixS (eN mkL (aCons (eC (.str " ")) (aCons (eC (.str " x")) (aCons (eC (.str "x ")) (aCons (eC (.str "  ")) aNil))))) (e2 modI (e2 fdivI (eVar 1) (e2 powI (eC (.int 2)) (eC (.int 22)))) (eC (.int 4))))) sNext)
    (sSeq (sSet 4 (eN mkL (aCons (eN mkT (aCons (eC (.str "body")) (aCons (eVar 3) aNil))) (aCons (eN mkT (aCons (eC (.str "head")) (aCons (eSl (eC (.str "abcdefghijkl")) oNone (oSome (e2 addDT (eC (.int 1)) (e2 modI (e2 fdivI (eVar 1) (eC (.int 4))) (eC (.int 12)))))) (aCons (eVar 3) aNil)))) aNil))))
    (sSeq (sSet 4 (e2 addDT (eVar 4) (eN mkL (aCons (eN mkT (aCons (eC (.str "mark")) (aCons (eSl (eC (.str "abcdefghij")) oNone (oSome (e2 addDT (eC (.int 1)) (e2 modI (e2 fdivI (eVar 1) (eC (.int 4))) (eC (.int 10)))))) aNil))) aNil))))
    (sSeq (sSet 4 (e2 addDT (eVar 4) (eN mkL (aCons (eN mkT (aCons (eC (.str "newer")) (aCons (e2 modI (e2 fdivI (eVar 1) (eC (.int 8))) (eC (.int 10000))) aNil))) (aCons (eN mkT (aCons (eC (.str "numbers")) (aCons (e2S ixS (eN mkL (aCons (eC (.str "9999:*")) (aCons (eC (.str "1,2:3,*:4")) (aCons (eC (.str "*")) aNil)))) (e2 modI (e2 fdivI (eVar 1) (eC (.int 4))) (eC (.int 3)))) aNil))) aNil)))))
    (sRet (e2S ixS (eN mkL (aCons (eN mkT (aCons (eC (.str "and")) (aCons (e2S ixS (eVar 4) (e2 modI (e2 fdivI (eVar 1) (eC (.int 64))) (eC (.int 5)))) (aCons (eVar 0) aNil)))) (aCons (eN mkT (aCons (eC (.str "or")) (aCons (eVar 0) (aCons (e2S ixS (eVar 4) (e2 modI (e2 fdivI (eVar 1) (eC (.int 64))) (eC (.int 5)))) aNil)))) aNil))) (e2 modI (e2 fdivI (eVar 1) (eC (.int 512))) (eC (.int 2)))))))))))
def M__law_signed : FD := fnM 2 6 b__law_signed
theorem h__law_signed (F : Fx K w mg) : Has P w K mg base T "_law_signed" (2) M__law_signed := by
  obtain ⟨fd, hf⟩ := F.f__law_signed
  refine ⟨⟨_, fd, ["query", "more"], F.g__law_signed, hf.kp, hf.bindsN (fun _ _ _ _ _ _ us hl => match us, hl with | [_, _], _ => rfl), fn_mk (k := 1) noO hf sc__law_signed (fun cdv A outer s H E hr hx tk hp => ?_)⟩⟩
  exact (dss_cons (ds_set (i := 2) sc__law_signed.nd (de_call0 (h__law_signs F) hr hx))
    (dss_cons (ds_set (i := 3) sc__law_signed.nd (de_oz (de_mt PySem.F.plainAttrs_str PySem.F.slot_str_join PySem.F.type_str_join md_join (de_ob de_str) (da_cons (de_ob (dlc_0 [("j", 5)] sc__law_signed.nd (di_range1 (da_cons (de_zb (de_ixS hr.units (de_ob (de_lst (da_cons (de_oz de_int) (da_cons (de_oz de_int) (da_cons (de_oz de_int) (da_cons (de_oz de_int) da_nil)))))) (de_ob (de_bin od_mod (de_zb (de_var 1)) (de_ob de_int))))) da_nil) F.z_range).x (fun _ _ _ _ _ => (dg_name (i := 5) sc__law_signed.nd)) (fun _ _ _ _ _ => pts_no) (fun _ _ _ _ _ => (de_ixS hr.units (de_zb (de_var 2)) (de_ob (de_bin od_mod (de_zb (de_call (h__law_drawn F) hr passLN (da_cons (de_var 1) (da_cons (de_var 5) da_nil)))) (de_ob (de_callBS cs_len (da_cons (de_zb (de_var 2)) da_nil) F.z_len (by decide +kernel)))))))).de) da_nil))))
    (dss_cons (ds_if (dt_cmp (od_eq hr.units) (de_ob (de_bin od_mod (de_ob (de_bin od_fdiv (de_zb (de_var 1)) (de_ob (de_bin od_pow (de_ob de_int) (de_ob de_int))))) (de_ob de_int))) (de_ob de_int)) (dss_one (ds_set (i := 3) sc__law_signed.nd (de_ixS hr.units (de_ob (de_lst (da_cons (de_oz de_str) (da_cons (de_oz de_str) (da_cons (de_oz de_str) (da_cons (de_oz de_str) da_nil)))))) (de_ob (de_bin od_mod (de_ob (de_bin od_fdiv (de_zb (de_var 1)) (de_ob (de_bin od_pow (de_ob de_int) (de_ob de_int))))) (de_ob de_int)))))) dss_nil)
    (dss_cons (ds_set (i := 4) sc__law_signed.nd (de_oz (de_lst (da_cons (de_oz (de_tup (da_cons (de_oz de_str) (da_cons (de_var 3) da_nil)))) (da_cons (de_oz (de_tup (da_cons (de_oz de_str) (da_cons (de_oz (de_slice (de_ob de_str) do_none (do_some (de_ob (de_bin od_addA (de_ob de_int) (de_ob (de_bin od_mod (de_ob (de_bin od_fdiv (de_zb (de_var 1)) (de_ob de_int))) (de_ob de_int)))))))) (da_cons (de_var 3) da_nil))))) da_nil)))))
    (dss_cons (ds_set (i := 4) sc__law_signed.nd (de_oz (de_bin od_addA (de_zb (de_var 4)) (de_ob (de_lst (da_cons (de_oz (de_tup (da_cons (de_oz de_str) (da_cons (de_oz (de_slice (de_ob de_str) do_none (do_some (de_ob (de_bin od_addA (de_ob de_int) (de_ob (de_bin od_mod (de_ob (de_bin od_fdiv (de_zb (de_var 1)) (de_ob de_int))) (de_ob de_int)))))))) da_nil)))) da_nil))))))
    (dss_cons (ds_set (i := 4) sc__law_signed.nd (de_oz (de_bin od_addA (de_zb (de_var 4)) (de_ob (de_lst (da_cons (de_oz (de_tup (da_cons (de_oz de_str) (da_cons (de_oz (de_bin od_mod (de_ob (de_bin od_fdiv (de_zb (de_var 1)) (de_ob de_int))) (de_ob de_int))) da_nil)))) (da_cons (de_oz (de_tup (da_cons (de_oz de_str) (da_cons (de_ixS hr.units (de_ob (de_lst (da_cons (de_oz de_str) (da_cons (de_oz de_str) (da_cons (de_oz de_str) da_nil))))) (de_ob (de_bin od_mod (de_ob (de_bin od_fdiv (de_zb (de_var 1)) (de_ob de_int))) (de_ob de_int)))) da_nil)))) da_nil)))))))
    (dss_one (ds_ret (de_ixS hr.units (de_ob (de_lst (da_cons (de_oz (de_tup (da_cons (de_oz de_str) (da_cons (de_ixS hr.units (de_zb (de_var 4)) (de_ob (de_bin od_mod (de_ob (de_bin od_fdiv (de_zb (de_var 1)) (de_ob de_int))) (de_ob de_int)))) (da_cons (de_var 0) da_nil))))) (da_cons (de_oz (de_tup (da_cons (de_oz de_str) (da_cons (de_var 0) (da_cons (de_ixS hr.units (de_zb (de_var 4)) (de_ob (de_bin od_mod (de_ob (de_bin od_fdiv (de_zb (de_var 1)) (de_ob de_int))) (de_ob de_int)))) da_nil))))) da_nil)))) (de_ob (de_bin od_mod (de_ob (de_bin od_fdiv (de_zb (de_var 1)) (de_ob de_int))) (de_ob de_int))))))))))))

theorem sc__law_query_text : FnScope ["query", "word", "one"] ["query"] (defScope (topS 51)) := ⟨rfl, rfl, rfl, by decide +kernel, rfl, by decide +kernel, by decide +kernel⟩
def b__law_query_text (M : FD) : SD := (sSeq (sSet 1 (e2S ixS (eVar 0) (eC (.int 0))))
    (sSeq (sIf (tB1 (e2S (inS2 false) (eVar 1) (eN mkT (aCons (eC (.str "not")) (aCons (eC (.str "or")) (aCons (eC (.str "and")) aNil)))))) (sRet (eMt "str" joinD (eC (.str " ")) (aCons (e2 addDT (eN mkL (aCons (eVar 1) aNil)) (eLc0 (iTpl (eSl (eVar 0) (oSome (eC (.int 1))) oNone)) (gNm 2) tYesD (eCall (M) (aCons (eVar 2) aNil)) [2])) aNil))) sNext)
    (sSeq (sIf (tB1 (e2 eqD (eVar 1) (eC (.str "head")))) (sRet (e2 addDT (e2 addDT (e2 addDT (e2 addDT (e2 addDT (eVar 1) (eC (.str " "))) (e2S ixS (eVar 0) (eC (.int 1)))) (eC (.str " \""))) (e2S ixS (eVar 0) (eC (.int 2)))) (eC (.str "\"")))) sNext)
    (sSeq (sIf (tB1 (e2 eqD (eVar 1) (eC (.str "body")))) (sRet (e2 addDT (e2 addDT (e2 addDT (eVar 1) (eC (.str " \""))) (e2S ixS (eVar 0) (eC (.int 1)))) (eC (.str "\"")))) sNext)
    (sRet (eMt "str" joinD (eC (.str " ")) (aCons (eLc0 (iTpl (eVar 0)) (gNm 2) tYesD (eN strAD (aCons (eVar 2) aNil)) [2]) aNil)))))))
def M__law_query_text : Nat → FD
  | 0 => fnM 1 3 sNo
  | n + 1 => fnM 1 3 (b__law_query_text (M__law_query_text n))
theorem h__law_query_text (F : Fx K w mg) : ∀ n : Nat, Has P w K mg base T "_law_query_text" (0 + n + 1) (M__law_query_text n)
  | 0 => by
    obtain ⟨fd, hf⟩ := F.f__law_query_text
    exact ⟨⟨_, fd, ["query"], F.g__law_query_text, hf.kp, hf.bindsN (fun _ _ _ _ _ _ us hl => match us, hl with | [_], _ => rfl), fn_mk (k := 0 + 0) noO hf sc__law_query_text (fun cdv A outer s H E hr hx tk hp => dss_no)⟩⟩
  | n + 1 => by
    obtain ⟨fd, hf⟩ := F.f__law_query_text
    refine ⟨⟨_, fd, ["query"], F.g__law_query_text, hf.kp, hf.bindsN (fun _ _ _ _ _ _ us hl => match us, hl with | [_], _ => rfl), fn_mk (k := 0 + n + 1) noO hf sc__law_query_text (fun cdv A outer s H E hr hx tk hp => ?_)⟩⟩
    exact (dss_cons (ds_set (i := 1) sc__law_query_text.nd (de_ixS hr.units (de_zb (de_var 0)) (de_ob de_int)))
    (dss_cons (ds_if (dt_inS hr.units (de_zb (de_var 1)) (de_ob (de_tup (da_cons (de_oz de_str) (da_cons (de_oz de_str) (da_cons (de_oz de_str) da_nil)))))) (dss_one (ds_ret (de_oz (de_mt PySem.F.plainAttrs_str PySem.F.slot_str_join PySem.F.type_str_join md_join (de_ob de_str) (da_cons (de_ob (de_bin od_addA (de_ob (de_lst (da_cons (de_var 1) da_nil))) (de_ob (dlc_0 [("one", 2)] sc__law_query_text.nd (di_tup (de_oz (de_slice (de_zb (de_var 0)) (do_some (de_ob de_int)) do_none))).x (fun _ _ _ _ _ => (dg_name (i := 2) sc__law_query_text.nd)) (fun _ _ _ _ _ => pts_no) (fun _ _ _ _ _ => (de_call (h__law_query_text F n) hr passLN (da_cons (de_var 2) da_nil) (hjk := by omega)))).de))) da_nil))))) dss_nil)
    (dss_cons (ds_if (dt_cmp (od_eq hr.units) (de_zb (de_var 1)) (de_ob de_str)) (dss_one (ds_ret (de_oz (de_bin od_addA (de_ob (de_bin od_addA (de_ob (de_bin od_addA (de_ob (de_bin od_addA (de_ob (de_bin od_addA (de_zb (de_var 1)) (de_ob de_str))) (de_zb (de_ixS hr.units (de_zb (de_var 0)) (de_ob de_int))))) (de_ob de_str))) (de_zb (de_ixS hr.units (de_zb (de_var 0)) (de_ob de_int))))) (de_ob de_str))))) dss_nil)
    (dss_cons (ds_if (dt_cmp (od_eq hr.units) (de_zb (de_var 1)) (de_ob de_str)) (dss_one (ds_ret (de_oz (de_bin od_addA (de_ob (de_bin od_addA (de_ob (de_bin od_addA (de_zb (de_var 1)) (de_ob de_str))) (de_zb (de_ixS hr.units (de_zb (de_var 0)) (de_ob de_int))))) (de_ob de_str))))) dss_nil)
    (dss_one (ds_ret (de_oz (de_mt PySem.F.plainAttrs_str PySem.F.slot_str_join PySem.F.type_str_join md_join (de_ob de_str) (da_cons (de_ob (dlc_0 [("one", 2)] sc__law_query_text.nd (di_tup (de_var 0)).x (fun _ _ _ _ _ => (dg_name (i := 2) sc__law_query_text.nd)) (fun _ _ _ _ _ => pts_no) (fun _ _ _ _ _ => (de_oz (de_callT cd_strA (da_cons (de_zb (de_var 2)) da_nil) F.z_str (by decide +kernel))))).de) da_nil)))))))))

theorem sc__law_cell : FnScope ["script", "k"] ["script", "k"] (defScope (topS 45)) := ⟨rfl, rfl, rfl, by decide +kernel, rfl, by decide +kernel, by decide +kernel⟩
def b__law_cell : SD := (sSeq (sIf (tB1 (e2 eqD (eVar 0) (eN mkL aNil))) (sRet (e2 mulD (eVar 1) (eC (.int 7919)))) sNext)
    (sRet (e2 addDT (e2S ixS (eVar 0) (e2 modI (eVar 1) (eNS lenS (aCons (eVar 0) aNil)))) (e2 mulD (e2 fdivI (eVar 1) (eNS lenS (aCons (eVar 0) aNil))) (eC (.int 104729))))))
def M__law_cell : FD := fnM 2 2 b__law_cell
theorem h__law_cell (F : Fx K w mg) : Has P w K mg base T "_law_cell" (1) M__law_cell := by
  obtain ⟨fd, hf⟩ := F.f__law_cell
  refine ⟨⟨_, fd, ["script", "k"], F.g__law_cell, hf.kp, hf.bindsN (fun _ _ _ _ _ _ us hl => match us, hl with | [_, _], _ => rfl), fn_mk (k := 0) noO hf sc__law_cell (fun cdv A outer s H E hr hx tk hp => ?_)⟩⟩
  exact (dss_cons (ds_if (dt_cmp (od_eq hr.units) (de_zb (de_var 0)) (de_ob (de_lst da_nil))) (dss_one (ds_ret (de_oz (de_bin od_mul (de_zb (de_var 1)) (de_ob de_int))))) dss_nil)
    (dss_one (ds_ret (de_oz (de_bin od_addA (de_zb (de_ixS hr.units (de_zb (de_var 0)) (de_ob (de_bin od_mod (de_zb (de_var 1)) (de_ob (de_callBS cs_len (da_cons (de_zb (de_var 0)) da_nil) F.z_len (by decide +kernel))))))) (de_ob (de_bin od_mul (de_ob (de_bin od_fdiv (de_zb (de_var 1)) (de_ob (de_callBS cs_len (da_cons (de_zb (de_var 0)) da_nil) F.z_len (by decide +kernel))))) (de_ob de_int))))))))

theorem sc__law_query : FnScope ["more", "deep", "plain", "here", "way", "first", "text"] ["more", "deep", "plain"] (defScope (topS 50)) := ⟨rfl, rfl, rfl, by decide +kernel, rfl, by decide +kernel, by decide +kernel⟩
def b__law_query (M : FD) : SD := (sSeq (sSet 3 (e2 fdivI (eVar 0) (eC (.int 16))))
    (sSeq (sSet 4 (e2 modI (eVar 0) (eC (.int 9))))
    (sSeq (sIf (tAndD (tB1 (e2 gtI (eVar 1) (eC (.int 0)))) (tB1 (e2 ltD (eVar 4) (eC (.int 4))))) (sSeq (sSet 5 (eCall (M) (aCons (eCall M__law_drawn (aCons (eVar 0) (aCons (eC (.int 1)) aNil))) (aCons (e2 subI (eVar 1) (eC (.int 1))) (aCons (eVar 2) aNil)))))
    (sSeq (sIf (tB1 (e2 eqD (eVar 4) (eC (.int 0)))) (sRet (eN mkT (aCons (eC (.str "not")) (aCons (eVar 5) aNil)))) sNext)
    (sRet (eN mkT (aCons (e2S ixS (eN mkL (aCons (eC (.str "or")) (aCons (eC (.str "and")) aNil))) (e2 modI (eVar 4) (eC (.int 2)))) (aCons (eVar 5) (aCons (eCall (M) (aCons (eCall M__law_drawn (aCons (eVar 0) (aCons (eC (.int 2)) aNil))) (aCons (e2 subI (eVar 1) (eC (.int 1))) (aCons (eVar 2) aNil)))) aNil))))))) sNext)
    (sSeq (sIf (tB1 (e2 eqD (eVar 4) (eC (.int 4)))) (sSeq (sSet 6 (e2S ixS (eN mkL (aCons (eC (.str "m")) (aCons (eC (.str "")) (aCons (eC (.str "news")) (aCons (eC (.str "m1")) (aCons (eC (.str "you")) (aCons (eC (.str "i")) (aCons (eC (.str "1")) (aCons (eC (.str "ew")) aNil))))))))) (e2 modI (e2 fdivI (eVar 3) (eC (.int 4))) (eC (.int 8)))))
    (sRet (eN mkT (aCons (eC (.str "head")) (aCons (e2S ixS (eN mkL (aCons (eC (.str "id")) (aCons (eC (.str "subject")) (aCons (eC (.str "re")) (aCons (eC (.str "x")) aNil))))) (e2 modI (eVar 3) (eC (.int 4)))) (aCons (eVar 6) aNil)))))) sNext)
    (sSeq (sIf (tB1 (e2 eqD (eVar 4) (eC (.int 5)))) (sRet (eN mkT (aCons (eC (.str "body")) (aCons (e2S ixS (eN mkL (aCons (eC (.str "")) (aCons (eC (.str "body")) (aCons (eC (.str "news")) (aCons (eC (.str "a n")) (aCons (eC (.str "x")) aNil)))))) (e2 modI (eVar 3) (eC (.int 5)))) aNil)))) sNext)
    (sSeq (sIf (tOrD (tB1 (eVar 2)) (tB1 (e2 gtI (eVar 4) (eC (.int 7))))) (sRet (eN mkT (aCons (eC (.str "all")) aNil))) sNext)
    (sSeq (sIf (tB1 (e2 eqD (eVar 4) (eC (.int 6)))) (sRet (eN mkT (aCons (eC (.str "mark")) (aCons (e2S ixS (eN mkL (aCons (eC (.str "seen")) (aCons (eC (.str "flag")) (aCons (eC (.str "old")) (aCons (eC (.str "a")) (aCons (eC (.str "zz")) aNil)))))) (e2 modI (eVar 3) (eC (.int 5)))) aNil)))) sNext)
    (sSeq (sIf (tB1 (e2 eqD (e2 modI (eVar 3) (eC (.int 2))) (eC (.int 0)))) (sRet (eN mkT (aCons (eC (.str "numbers")) (aCons (e2S ixS (eN mkL (aCons (eC (.str "1:3")) (aCons (eC (.str "*")) (aCons (eC (.str "2,5")) (aCons (eC (.str "9:*")) (aCons (eC (.str "7:2")) (aCons (eC (.str "1")) (aCons (eC (.str "3:*,1")) aNil)))))))) (e2 modI (e2 fdivI (eVar 3) (eC (.int 2))) (eC (.int 7)))) aNil)))) sNext)
    (sRet (eN mkT (aCons (eC (.str "newer")) (aCons (e2S ixS (eN mkL (aCons (eC (.int 0)) (aCons (eC (.int 1)) (aCons (eC (.int 3)) (aCons (eC (.int 9)) (aCons (eC (.int 9999)) aNil)))))) (e2 modI (e2 fdivI (eVar 3) (eC (.int 2))) (eC (.int 5)))) aNil))))))))))))
def M__law_query : Nat → FD
  | 0 => fnM 3 7 sNo
  | n + 1 => fnM 3 7 (b__law_query (M__law_query n))
theorem h__law_query (F : Fx K w mg) : ∀ n : Nat, Has P w K mg base T "_law_query" (1 + n + 1) (M__law_query n)
  | 0 => by
    obtain ⟨fd, hf⟩ := F.f__law_query
    exact ⟨⟨_, fd, ["more", "deep", "plain"], F.g__law_query, hf.kp, hf.bindsN (fun _ _ _ _ _ _ us hl => match us, hl with | [_, _, _], _ => rfl), fn_mk (k := 1 + 0) noO hf sc__law_query (fun cdv A outer s H E hr hx tk hp => dss_no)⟩⟩
  | n + 1 => by
    obtain ⟨fd, hf⟩ := F.f__law_query
    refine ⟨⟨_, fd, ["more", "deep", "plain"], F.g__law_query, hf.kp, hf.bindsN (fun _ _ _ _ _ _ us hl => match us, hl with | [_, _, _], _ => rfl), fn_mk (k := 1 + n + 1) noO hf sc__law_query (fun cdv A outer s H E hr hx tk hp => ?_)⟩⟩
    exact (dss_cons (ds_set (i := 3) sc__law_query.nd (de_oz (de_bin od_fdiv (de_zb (de_var 0)) (de_ob de_int))))
    (dss_cons (ds_set (i := 4) sc__law_query.nd (de_oz (de_bin od_mod (de_zb (de_var 0)) (de_ob de_int))))
    (dss_cons (ds_if (dw_and (dt_cmp od_gt (de_zb (de_var 1)) (de_ob de_int)) (dw_and1 (dt_cmp od_lt (de_zb (de_var 4)) (de_ob de_int)))).dt (dss_cons (ds_set (i := 5) sc__law_query.nd (de_call (h__law_query F n) hr hx (da_cons (de_call (h__law_drawn F) hr hx (da_cons (de_var 0) (da_cons (de_oz de_int) da_nil)) (hjk := by omega)) (da_cons (de_oz (de_bin od_sub (de_zb (de_var 1)) (de_ob de_int))) (da_cons (de_var 2) da_nil))) (hjk := by omega)))
    (dss_cons (ds_if (dt_cmp (od_eq hr.units) (de_zb (de_var 4)) (de_ob de_int)) (dss_one (ds_ret (de_oz (de_tup (da_cons (de_oz de_str) (da_cons (de_var 5) da_nil)))))) dss_nil)
    (dss_one (ds_ret (de_oz (de_tup (da_cons (de_ixS hr.units (de_ob (de_lst (da_cons (de_oz de_str) (da_cons (de_oz de_str) da_nil)))) (de_ob (de_bin od_mod (de_zb (de_var 4)) (de_ob de_int)))) (da_cons (de_var 5) (da_cons (de_call (h__law_query F n) hr hx (da_cons (de_call (h__law_drawn F) hr hx (da_cons (de_var 0) (da_cons (de_oz de_int) da_nil)) (hjk := by omega)) (da_cons (de_oz (de_bin od_sub (de_zb (de_var 1)) (de_ob de_int))) (da_cons (de_var 2) da_nil))) (hjk := by omega)) da_nil))))))))) dss_nil)
    (dss_cons (ds_if (dt_cmp (od_eq hr.units) (de_zb (de_var 4)) (de_ob de_int)) (dss_cons (ds_set (i := 6) sc__law_query.nd (de_ixS hr.units (de_ob (de_lst (da_cons (de_oz de_str) (da_cons (de_oz de_str) (da_cons (de_oz de_str) (da_cons (de_oz de_str) (da_cons (de_oz de_str) (da_cons (de_oz de_str) (da_cons (de_oz de_str) (da_cons (de_oz de_str) da_nil)))))))))) (de_ob (de_bin od_mod (de_ob (de_bin od_fdiv (de_zb (de_var 3)) (de_ob de_int))) (de_ob de_int)))))
    (dss_one (ds_ret (de_oz (de_tup (da_cons (de_oz de_str) (da_cons (de_ixS hr.units (de_ob (de_lst (da_cons (de_oz de_str) (da_cons (de_oz de_str) (da_cons (de_oz de_str) (da_cons (de_oz de_str) da_nil)))))) (de_ob (de_bin od_mod (de_zb (de_var 3)) (de_ob de_int)))) (da_cons (de_var 6) da_nil)))))))) dss_nil)
    (dss_cons (ds_if (dt_cmp (od_eq hr.units) (de_zb (de_var 4)) (de_ob de_int)) (dss_one (ds_ret (de_oz (de_tup (da_cons (de_oz de_str) (da_cons (de_ixS hr.units (de_ob (de_lst (da_cons (de_oz de_str) (da_cons (de_oz de_str) (da_cons (de_oz de_str) (da_cons (de_oz de_str) (da_cons (de_oz de_str) da_nil))))))) (de_ob (de_bin od_mod (de_zb (de_var 3)) (de_ob de_int)))) da_nil)))))) dss_nil)
    (dss_cons (ds_if (dw_or (dt_val (de_var 2)) (dw_or1 (dt_cmp od_gt (de_zb (de_var 4)) (de_ob de_int)))).dt (dss_one (ds_ret (de_oz (de_tup (da_cons (de_oz de_str) da_nil))))) dss_nil)
    (dss_cons (ds_if (dt_cmp (od_eq hr.units) (de_zb (de_var 4)) (de_ob de_int)) (dss_one (ds_ret (de_oz (de_tup (da_cons (de_oz de_str) (da_cons (de_ixS hr.units (de_ob (de_lst (da_cons (de_oz de_str) (da_cons (de_oz de_str) (da_cons (de_oz de_str) (da_cons (de_oz de_str) (da_cons (de_oz de_str) da_nil))))))) (de_ob (de_bin od_mod (de_zb (de_var 3)) (de_ob de_int)))) da_nil)))))) dss_nil)
    (dss_cons (ds_if (dt_cmp (od_eq hr.units) (de_ob (de_bin od_mod (de_zb (de_var 3)) (de_ob de_int))) (de_ob de_int)) (dss_one (ds_ret (de_oz (de_tup (da_cons (de_oz de_str) (da_cons (de_ixS hr.units (de_ob (de_lst (da_cons (de_oz de_str) (da_cons (de_oz de_str) (da_cons (de_oz de_str) (da_cons (de_oz de_str) (da_cons (de_oz de_str) (da_cons (de_oz de_str) (da_cons (de_oz de_str) da_nil))))))))) (de_ob (de_bin od_mod (de_ob (de_bin od_fdiv (de_zb (de_var 3)) (de_ob de_int))) (de_ob de_int)))) da_nil)))))) dss_nil)
    (dss_one (ds_ret (de_oz (de_tup (da_cons (de_oz de_str) (da_cons (de_ixS hr.units (de_ob (de_lst (da_cons (de_oz de_int) (da_cons (de_oz de_int) (da_cons (de_oz de_int) (da_cons (de_oz de_int) (da_cons (de_oz de_int) da_nil))))))) (de_ob (de_bin od_mod (de_ob (de_bin od_fdiv (de_zb (de_var 3)) (de_ob de_int))) (de_ob de_int)))) da_nil))))))))))))))

theorem sc__law_word : FnScope ["e", "flags", "words", "flag"] ["e"] (defScope (topS 47)) := ⟨rfl, rfl, rfl, by decide +kernel, rfl, by decide +kernel, by decide +kernel⟩
def b__law_word (a : Addr) (cl : Str) : SD := (sSeq (sSet 1 (eN mkL (aCons (eIsE 0 a (cl == "BadLetter")) (aCons (eIsE 0 a (cl == "BadSet")) (aCons (eIsE 0 a (cl == "BadBox")) (aCons (eIsE 0 a (cl == "BadMarks")) aNil))))))
    (sSeq (sSet 1 (e2 addDT (eVar 1) (eN mkL (aCons (eIsE 0 a (cl == "BadNumber")) (aCons (eIsE 0 a (cl == "BadPlace")) (aCons (eIsE 0 a (cl == "Gone")) (aCons (eIsE 0 a (cl == "BadQuery")) aNil)))))))
    (sSeq (sSet 1 (e2 addDT (eVar 1) (eN mkL (aCons (eIsE 0 a (cl == "BadText")) aNil))))
    (sSeq (sSet 2 (eN mkL (aCons (eC (.str "BadLetter")) (aCons (eC (.str "BadSet")) (aCons (eC (.str "BadBox")) (aCons (eC (.str "BadMarks")) (aCons (eC (.str "BadNumber")) (aCons (eC (.str "BadPlace")) (aCons (eC (.str "Gone")) (aCons (eC (.str "BadQuery")) (aCons (eC (.str "BadText")) aNil)))))))))))
    (sSeq (sIf (tOrD (tB1 (e2 neD (eN sumD (aCons (eLc0 (iLst (eVar 1)) (gNm 3) tYesD (eN intD (aCons (eVar 3) aNil)) [3]) aNil)) (eC (.int 1)))) (tNotD (tB1 (eIsE 0 a true)))) (sRet (eN mkT (aCons (eC (.str "refused")) (aCons (eC (.str "other")) aNil)))) sNext)
    (sRet (eN mkT (aCons (eC (.str "refused")) (aCons (e2S ixS (eVar 2) (eMt "list" indexD (eVar 1) (aCons (eC (.bl true)) aNil))) aNil)))))))))
def M__law_word (a : Addr) (cl : Str) : FD := fnM 1 4 (b__law_word a cl)
theorem h_word (F : Fx K w mg) {cl : Str} (hcl : cl ∈ errs) {a : Addr} {oe : Obj} (hz : L2N.Zn (clsV K cl) none oe) (hf : ∃ vs, oe.data = .fields vs) : Hot P w K mg base T "_law_word" 1 (a, oe) (M__law_word a cl) := by
  obtain ⟨fd, hfd⟩ := F.f__law_word
  refine hot_mk (k := 0) hfd sc__law_word F.g__law_word (hfd.bindsN (fun _ _ _ _ _ _ us hl => match us, hl with | [_], _ => rfl)) (fun cdv A outer s H hot hr => ?_)
  have hc : L2H.HotC (cxW P w K mg base T ["e", "flags", "words", "flag"] "_law_word" (defScope (topS 47)) (He.ga K "_law_word") cdv A outer s H (a, oe)).X := ⟨(a, oe), hot, List.mem_cons_self⟩
  exact (dss_cons (ds_set (i := 1) sc__law_word.nd (de_oz (de_lst (da_cons (de_oz (de_isE (F.wf.c cl hcl) hz.zc hf List.mem_cons_self F.z_isinstance (pe_glob (v := .ref (He.ga K "BadLetter")) rfl F.g_BadLetter rfl) (fun _ h => h) (F.wf.k cl hcl "BadLetter" (by decide +kernel)))) (da_cons (de_oz (de_isE (F.wf.c cl hcl) hz.zc hf List.mem_cons_self F.z_isinstance (pe_glob (v := .ref (He.ga K "BadSet")) rfl F.g_BadSet rfl) (fun _ h => h) (F.wf.k cl hcl "BadSet" (by decide +kernel)))) (da_cons (de_oz (de_isE (F.wf.c cl hcl) hz.zc hf List.mem_cons_self F.z_isinstance (pe_glob (v := .ref (He.ga K "BadBox")) rfl F.g_BadBox rfl) (fun _ h => h) (F.wf.k cl hcl "BadBox" (by decide +kernel)))) (da_cons (de_oz (de_isE (F.wf.c cl hcl) hz.zc hf List.mem_cons_self F.z_isinstance (pe_glob (v := .ref (He.ga K "BadMarks")) rfl F.g_BadMarks rfl) (fun _ h => h) (F.wf.k cl hcl "BadMarks" (by decide +kernel)))) da_nil)))))))
    (dss_cons (ds_set (i := 1) sc__law_word.nd (de_oz (de_bin od_addA (de_zb (de_var 1)) (de_ob (de_lst (da_cons (de_oz (de_isE (F.wf.c cl hcl) hz.zc hf List.mem_cons_self F.z_isinstance (pe_glob (v := .ref (He.ga K "BadNumber")) rfl F.g_BadNumber rfl) (fun _ h => h) (F.wf.k cl hcl "BadNumber" (by decide +kernel)))) (da_cons (de_oz (de_isE (F.wf.c cl hcl) hz.zc hf List.mem_cons_self F.z_isinstance (pe_glob (v := .ref (He.ga K "BadPlace")) rfl F.g_BadPlace rfl) (fun _ h => h) (F.wf.k cl hcl "BadPlace" (by decide +kernel)))) (da_cons (de_oz (de_isE (F.wf.c cl hcl) hz.zc hf List.mem_cons_self F.z_isinstance (pe_glob (v := .ref (He.ga K "Gone")) rfl F.g_Gone rfl) (fun _ h => h) (F.wf.k cl hcl "Gone" (by decide +kernel)))) (da_cons (de_oz (de_isE (F.wf.c cl hcl) hz.zc hf List.mem_cons_self F.z_isinstance (pe_glob (v := .ref (He.ga K "BadQuery")) rfl F.g_BadQuery rfl) (fun _ h => h) (F.wf.k cl hcl "BadQuery" (by decide +kernel)))) da_nil)))))))))
    (dss_cons (ds_set (i := 1) sc__law_word.nd (de_oz (de_bin od_addA (de_zb (de_var 1)) (de_ob (de_lst (da_cons (de_oz (de_isE (F.wf.c cl hcl) hz.zc hf List.mem_cons_self F.z_isinstance (pe_glob (v := .ref (He.ga K "BadText")) rfl F.g_BadText rfl) (fun _ h => h) (F.wf.k cl hcl "BadText" (by decide +kernel)))) da_nil))))))
    (dss_cons (ds_set (i := 2) sc__law_word.nd (de_oz (de_lst (da_cons (de_oz de_str) (da_cons (de_oz de_str) (da_cons (de_oz de_str) (da_cons (de_oz de_str) (da_cons (de_oz de_str) (da_cons (de_oz de_str) (da_cons (de_oz de_str) (da_cons (de_oz de_str) (da_cons (de_oz de_str) da_nil))))))))))))
    (dss_cons (ds_if (dw_or (dt_cmp (od_ne hr.units) (de_ob (de_callB (cd_sumH hc) (da_cons (de_ob (dlc_H [("flag", 3)] sc__law_word.nd hc (de_zb (de_var 1)) (fun _ _ _ _ _ => (dg_name (i := 3) sc__law_word.nd)) (fun _ _ _ _ _ => pts_no) (fun _ _ _ _ _ => (de_oz (de_callT cd_int (da_cons (de_zb (de_var 3)) da_nil) F.z_int (by decide +kernel)))))) da_nil) F.z_sum (by decide +kernel))) (de_ob de_int)) (dw_or1 (dt_not (dt_val (de_isE (F.wf.c cl hcl) hz.zc hf List.mem_cons_self F.z_isinstance (pe_bltn (x := "ValueError") (v := .ty "ValueError") (u := .type "ValueError") rfl F.z_ValueError (by decide +kernel) rfl) (fun _ h => h) (F.wf.v cl hcl)))))).dt (dss_one (ds_ret (de_oz (de_tup (da_cons (de_oz de_str) (da_cons (de_oz de_str) da_nil)))))) dss_nil)
    (dss_one (ds_ret (de_oz (de_tup (da_cons (de_oz de_str) (da_cons (de_ixS hr.units (de_zb (de_var 2)) (de_ob (de_mt PySem.F.plainAttrs_list PySem.F.slot_list_index PySem.F.type_list_index md_index (de_zb (de_var 1)) (da_cons (de_ob de_bl) da_nil)))) da_nil)))))))))))
theorem v_word : ∀ cl ∈ errs, ∀ b st, M__law_word b cl [.exc b] st = .ok (wordD cl) st := by
  intro cl hcl b st
  have h0 : b__law_word b cl [some (.exc b), none, none, none] st = .ok (.rt (wordD cl)) st := by
    refine seqE (τ' := [some (.exc b), some (.lst [.bl (cl == "BadLetter"), .bl (cl == "BadSet"), .bl (cl == "BadBox"), .bl (cl == "BadMarks")]), none, none]) (by simp only [sSet, e2, eVar, eC, eN, aCons, aNil, isEok, R.bind, M.ret, M.opt]; rfl) ?_
    refine seqE (τ' := [some (.exc b), some (.lst [.bl (cl == "BadLetter"), .bl (cl == "BadSet"), .bl (cl == "BadBox"), .bl (cl == "BadMarks"), .bl (cl == "BadNumber"), .bl (cl == "BadPlace"), .bl (cl == "Gone"), .bl (cl == "BadQuery")]), none, none]) (by simp only [sSet, e2, eVar, eC, eN, aCons, aNil, isEok, R.bind, M.ret, M.opt]; rfl) ?_
    refine seqE (τ' := [some (.exc b), some (.lst [.bl (cl == "BadLetter"), .bl (cl == "BadSet"), .bl (cl == "BadBox"), .bl (cl == "BadMarks"), .bl (cl == "BadNumber"), .bl (cl == "BadPlace"), .bl (cl == "Gone"), .bl (cl == "BadQuery"), .bl (cl == "BadText")]), none, none]) (by simp only [sSet, e2, eVar, eC, eN, aCons, aNil, isEok, R.bind, M.ret, M.opt]; rfl) ?_
    refine seqE (τ' := [some (.exc b), some (.lst [.bl (cl == "BadLetter"), .bl (cl == "BadSet"), .bl (cl == "BadBox"), .bl (cl == "BadMarks"), .bl (cl == "BadNumber"), .bl (cl == "BadPlace"), .bl (cl == "Gone"), .bl (cl == "BadQuery"), .bl (cl == "BadText")]), some (.lst [.str "BadLetter", .str "BadSet", .str "BadBox", .str "BadMarks", .str "BadNumber", .str "BadPlace", .str "Gone", .str "BadQuery", .str "BadText"]), none]) (by simp only [sSet, e2, eVar, eC, eN, aCons, aNil, isEok, R.bind, M.ret, M.opt]; rfl) ?_
    simp only [errs, List.mem_cons, List.not_mem_nil, or_false] at hcl
    rcases hcl with rfl | rfl | rfl | rfl | rfl | rfl | rfl | rfl | rfl <;> (simp only [sSeq, sIf, tOrD, notIsE]; kernel_rfl)
  show (b__law_word b cl [some (.exc b), none, none, none] st).bind _ = _
  rw [h0]
  rfl

theorem sc__law_told : FnScope ["deed", "e"] ["deed"] (defScope (topS 48)) := ⟨rfl, rfl, rfl, by decide +kernel, rfl, by decide +kernel, by decide +kernel⟩
theorem h_told (F : Fx K w mg) : Told P w K mg base T errs "_law_told" 1 := by
  obtain ⟨fd, hfd⟩ := F.f__law_told
  exact told_mk (Fw := M__law_word) hfd F.g__law_told (hfd.bindsN (fun _ _ _ _ _ _ us hl => match us, hl with | [_], _ => rfl)) sc__law_told (.inl rfl) rfl rfl F.g_ShelfError rfl F.x_ShelfError (fun cl hcl a oe hz hf => h_word F hcl hz hf) v_word

theorem sc_need_queries : FnScope ["good"] ["good"] (defScope (topS 32)) := ⟨rfl, rfl, rfl, by decide +kernel, rfl, by decide +kernel, by decide +kernel⟩
def b_need_queries : SD := (sIf (tNotD (tB1 (eVar 0))) (sRaise "BadQuery") sNext)
def M_need_queries : FD := fnM 1 1 b_need_queries
theorem h_need_queries (F : Fx K w mg) : Has P w K mg base T "need_queries" (1) M_need_queries := by
  obtain ⟨fd, hf⟩ := F.f_need_queries
  refine ⟨⟨_, fd, ["good"], F.g_need_queries, hf.kp, hf.bindsN (fun _ _ _ _ _ _ us hl => match us, hl with | [_], _ => rfl), fn_mk (k := 0) noO hf sc_need_queries (fun cdv A outer s H E hr hx tk hp => ?_)⟩⟩
  exact (dss_one (ds_if (dt_not (dt_val (de_var 0))) (dss_one (ds_raise F.e_BadQuery tk)) dss_nil))

theorem sc_is_word : FnScope ["thing", "most", "sign"] ["thing", "most"] (defScope (topS 16)) := ⟨rfl, rfl, rfl, by decide +kernel, rfl, by decide +kernel, by decide +kernel⟩
def b_is_word : SD := (sRet (eAndD (e1 (isiD "str") (eVar 0)) (eAndD (eCh leD leD (eC (.int 1)) (eNS lenS (aCons (eVar 0) aNil)) (eVar 1)) (eN allD (aCons (eLc0 (iStrD (eVar 0)) (gNm 2) tYesD (e2S (inS2 false) (eVar 2) (eC (.str "abcdefghijklmnopqrstuvwxyz"))) [2]) aNil)))))
def M_is_word : FD := fnM 2 3 b_is_word
theorem h_is_word (F : Fx K w mg) : Has P w K mg base T "is_word" (1) M_is_word := by
  obtain ⟨fd, hf⟩ := F.f_is_word
  refine ⟨⟨_, fd, ["thing", "most"], F.g_is_word, hf.kp, hf.bindsN (fun _ _ _ _ _ _ us hl => match us, hl with | [_, _], _ => rfl), fn_mk (k := 0) noO hf sc_is_word (fun cdv A outer s H E hr hx tk hp => ?_)⟩⟩
  exact (dss_one (ds_ret (de_oz (de_and (de_isi (de_zb (de_var 0)) F.z_isinstance F.z_str (by decide +kernel)) (de_and (de_chain od_le od_le (de_ob de_int) (de_ob (de_callBS cs_len (da_cons (de_zb (de_var 0)) da_nil) F.z_len (by decide +kernel))) (de_zb (de_var 1))) (de_one (de_callB cd_all (da_cons (de_ob (dlc_0 [("sign", 2)] sc_is_word.nd (di_str (de_var 0)).x (fun _ _ _ _ _ => (dg_name (i := 2) sc_is_word.nd)) (fun _ _ _ _ _ => pts_no) (fun _ _ _ _ _ => (de_oz (de_inS hr.units (de_zb (de_var 2)) (de_ob (de_gstr F.s_SMALL)))))).de) da_nil) F.z_all (by decide +kernel))))))))

theorem sc_are_signs : FnScope ["text", "sign"] ["text"] (defScope (topS 15)) := ⟨rfl, rfl, rfl, by decide +kernel, rfl, by decide +kernel, by decide +kernel⟩
def b_are_signs : SD := (sRet (eN allD (aCons (eLc0 (iStrD (eVar 0)) (gNm 1) tYesD (eAndD (eCh leD leD (eC (.str " ")) (eVar 1) (eC (.str "~"))) (e2 neD (eN ordD (aCons (eVar 1) aNil)) (eC (.int 37)))) [1]) aNil)))
def M_are_signs : FD := fnM 1 2 b_are_signs
theorem h_are_signs (F : Fx K w mg) : Has P w K mg base T "are_signs" (1) M_are_signs := by
  obtain ⟨fd, hf⟩ := F.f_are_signs
  refine ⟨⟨_, fd, ["text"], F.g_are_signs, hf.kp, hf.bindsN (fun _ _ _ _ _ _ us hl => match us, hl with | [_], _ => rfl), fn_mk (k := 0) noO hf sc_are_signs (fun cdv A outer s H E hr hx tk hp => ?_)⟩⟩
  exact (dss_one (ds_ret (de_oz (de_callB cd_all (da_cons (de_ob (dlc_0 [("sign", 1)] sc_are_signs.nd (di_str (de_var 0)).x (fun _ _ _ _ _ => (dg_name (i := 1) sc_are_signs.nd)) (fun _ _ _ _ _ => pts_no) (fun _ _ _ _ _ => (de_oz (de_and (de_chain od_le od_le (de_ob de_str) (de_zb (de_var 1)) (de_ob de_str)) (de_one (de_cmp (od_ne hr.units) (de_ob (de_callB cd_ord (da_cons (de_zb (de_var 1)) da_nil) F.z_ord (by decide +kernel))) (de_ob (de_gint F.i_BARRED)))))))).de) da_nil) F.z_all (by decide +kernel)))))

theorem sc_is_text : FnScope ["thing"] ["thing"] (defScope (topS 34)) := ⟨rfl, rfl, rfl, by decide +kernel, rfl, by decide +kernel, by decide +kernel⟩
def b_is_text : SD := (sRet (eAndD (e1 (isiD "str") (eVar 0)) (eAndD (e2 leD (eNS lenS (aCons (eVar 0) aNil)) (eC (.int 20))) (eAndD (eCall M_are_signs (aCons (eVar 0) aNil)) (e2S (inS2 true) (eC (.str "\"")) (eVar 0))))))
def M_is_text : FD := fnM 1 1 b_is_text
theorem h_is_text (F : Fx K w mg) : Has P w K mg base T "is_text" (2) M_is_text := by
  obtain ⟨fd, hf⟩ := F.f_is_text
  refine ⟨⟨_, fd, ["thing"], F.g_is_text, hf.kp, hf.bindsN (fun _ _ _ _ _ _ us hl => match us, hl with | [_], _ => rfl), fn_mk (k := 1) noO hf sc_is_text (fun cdv A outer s H E hr hx tk hp => ?_)⟩⟩
  exact (dss_one (ds_ret (de_oz (de_and (de_isi (de_zb (de_var 0)) F.z_isinstance F.z_str (by decide +kernel)) (de_and (de_cmp od_le (de_ob (de_callBS cs_len (da_cons (de_zb (de_var 0)) da_nil) F.z_len (by decide +kernel))) (de_ob (de_gint F.i_MOST_TEXT))) (de_and (de_call (h_are_signs F) hr hx (da_cons (de_var 0) da_nil)) (de_one (de_notInS hr.units (de_ob de_str) (de_zb (de_var 0))))))))))

theorem sc_need_sets : FnScope ["good"] ["good"] (defScope (topS 21)) := ⟨rfl, rfl, rfl, by decide +kernel, rfl, by decide +kernel, by decide +kernel⟩
def b_need_sets : SD := (sIf (tNotD (tB1 (eVar 0))) (sRaise "BadSet") sNext)
def M_need_sets : FD := fnM 1 1 b_need_sets
theorem h_need_sets (F : Fx K w mg) : Has P w K mg base T "need_sets" (1) M_need_sets := by
  obtain ⟨fd, hf⟩ := F.f_need_sets
  refine ⟨⟨_, fd, ["good"], F.g_need_sets, hf.kp, hf.bindsN (fun _ _ _ _ _ _ us hl => match us, hl with | [_], _ => rfl), fn_mk (k := 0) noO hf sc_need_sets (fun cdv A outer s H E hr hx tk hp => ?_)⟩⟩
  exact (dss_one (ds_if (dt_not (dt_val (de_var 0))) (dss_one (ds_raise F.e_BadSet tk)) dss_nil))

theorem sc_number_of : FnScope ["text", "last", "sign"] ["text", "last"] (defScope (topS 23)) := ⟨rfl, rfl, rfl, by decide +kernel, rfl, by decide +kernel, by decide +kernel⟩
def b_number_of : SD := (sSeq (sIf (tB1 (e2 eqD (eVar 0) (eC (.str "*")))) (sRet (eVar 1)) sNext)
    (sSeq (sExpr (eCall M_need_sets (aCons (eAndD (eCh leD leD (eC (.int 1)) (eNS lenS (aCons (eVar 0) aNil)) (eC (.int 4))) (eAndD (eN allD (aCons (eLc0 (iStrD (eVar 0)) (gNm 2) tYesD (e2S (inS2 false) (eVar 2) (eC (.str "0123456789"))) [2]) aNil)) (e2 neD (e2S ixS (eVar 0) (eC (.int 0))) (eC (.str "0"))))) aNil)))
    (sRet (eN intD (aCons (eVar 0) aNil)))))
def M_number_of : FD := fnM 2 3 b_number_of
theorem h_number_of (F : Fx K w mg) : Has P w K mg base T "number_of" (2) M_number_of := by
  obtain ⟨fd, hf⟩ := F.f_number_of
  refine ⟨⟨_, fd, ["text", "last"], F.g_number_of, hf.kp, hf.bindsN (fun _ _ _ _ _ _ us hl => match us, hl with | [_, _], _ => rfl), fn_mk (k := 1) noO hf sc_number_of (fun cdv A outer s H E hr hx tk hp => ?_)⟩⟩
  exact (dss_cons (ds_if (dt_cmp (od_eq hr.units) (de_zb (de_var 0)) (de_ob de_str)) (dss_one (ds_ret (de_var 1))) dss_nil)
    (dss_cons (ds_expr (de_call (h_need_sets F) hr hx (da_cons (de_oz (de_and (de_chain od_le od_le (de_ob de_int) (de_ob (de_callBS cs_len (da_cons (de_zb (de_var 0)) da_nil) F.z_len (by decide +kernel))) (de_ob (de_gint F.i_MOST_FIGURES))) (de_and (de_callB cd_all (da_cons (de_ob (dlc_0 [("sign", 2)] sc_number_of.nd (di_str (de_var 0)).x (fun _ _ _ _ _ => (dg_name (i := 2) sc_number_of.nd)) (fun _ _ _ _ _ => pts_no) (fun _ _ _ _ _ => (de_oz (de_inS hr.units (de_zb (de_var 2)) (de_ob (de_gstr F.s_FIGURES)))))).de) da_nil) F.z_all (by decide +kernel)) (de_one (de_cmp (od_ne hr.units) (de_zb (de_ixS hr.units (de_zb (de_var 0)) (de_ob de_int))) (de_ob de_str)))))) da_nil)))
    (dss_one (ds_ret (de_oz (de_callT cd_int (da_cons (de_zb (de_var 0)) da_nil) F.z_int (by decide +kernel)))))))

theorem sc_ends_of : FnScope ["part", "last", "ends", "one"] ["part", "last"] (defScope (topS 24)) := ⟨rfl, rfl, rfl, by decide +kernel, rfl, by decide +kernel, by decide +kernel⟩
def b_ends_of : SD := (sSeq (sSet 2 (eLc (iLst (eMt "str" splitD (eVar 0) (aCons (eC (.str ":")) aNil))) (gNm 3) tYesD (eCall M_number_of (aCons (eVar 3) (aCons (eVar 1) aNil))) [3]))
    (sSeq (sExpr (eCall M_need_sets (aCons (e2 leD (eNS lenS (aCons (eVar 2) aNil)) (eC (.int 2))) aNil)))
    (sRet (eN mkT (aCons (eN minD (aCons (eVar 2) aNil)) (aCons (eN maxD (aCons (eVar 2) aNil)) aNil))))))
def M_ends_of : FD := fnM 2 4 b_ends_of
theorem h_ends_of (F : Fx K w mg) : Has P w K mg base T "ends_of" (3) M_ends_of := by
  obtain ⟨fd, hf⟩ := F.f_ends_of
  refine ⟨⟨_, fd, ["part", "last"], F.g_ends_of, hf.kp, hf.bindsN (fun _ _ _ _ _ _ us hl => match us, hl with | [_, _], _ => rfl), fn_mk (k := 2) noO hf sc_ends_of (fun cdv A outer s H E hr hx tk hp => ?_)⟩⟩
  exact (dss_cons (ds_setLc (i := 2) sc_ends_of.nd (dlc_X [("one", 3)] sc_ends_of.nd tk (di_list (de_oz (de_mt PySem.F.plainAttrs_str PySem.F.slot_str_split PySem.F.type_str_split md_split (de_zb (de_var 0)) (da_cons (de_ob de_str) da_nil)))).x (fun _ _ _ _ _ => (dg_name (i := 3) sc_ends_of.nd)) (fun _ _ _ _ _ => pts_no) (fun _ _ _ _ _ _ => (de_call (h_number_of F) hr passB (da_cons (de_var 3) (da_cons (de_var 1) da_nil))))) (sw_true rfl rfl rfl (by decide +kernel)))
    (dss_cons (ds_expr (de_call (h_need_sets F) hr hx (da_cons (de_oz (de_cmp od_le (de_ob (de_callBS cs_len (da_cons (de_zb (de_var 2)) da_nil) F.z_len (by decide +kernel))) (de_ob de_int))) da_nil)))
    (dss_one (ds_ret (de_oz (de_tup (da_cons (de_oz (de_callB cd_min (da_cons (de_zb (de_var 2)) da_nil) F.z_min (by decide +kernel))) (da_cons (de_oz (de_callB cd_max (da_cons (de_zb (de_var 2)) da_nil) F.z_max (by decide +kernel))) da_nil))))))))

theorem sc_set_of : FnScope ["text", "last", "runs", "found", "low", "high", "number", "part"] ["text", "last"] (defScope (topS 25)) := ⟨rfl, rfl, rfl, by decide +kernel, rfl, by decide +kernel, by decide +kernel⟩
def b_set_of : SD := (sSeq (sSet 2 (eIf (tB1 (e2 neD (eVar 0) (eC (.str "")))) (eLc (iLst (eMt "str" splitD (eVar 0) (aCons (eC (.str ",")) aNil))) (gNm 7) tYesD (eCall M_ends_of (aCons (eVar 7) (aCons (eVar 1) aNil))) [7]) (eN mkL aNil)))
    (sSeq (sSet 3 (eSto (eC (.dct []))))
    (sSeq (sFor (iLst (eVar 2)) (gTp 2 (gsCons (gNm 4) (gsCons (gNm 5) gsNil))) (sFor (iN range2D (aCons (eN maxD (aCons (eC (.int 1)) (aCons (eVar 4) aNil))) (aCons (e2 addDT (eN minD (aCons (eVar 5) (aCons (eVar 1) aNil))) (eC (.int 1))) aNil))) (gNm 6) (sSetS (eVar 3) (eVar 6) (eC (.bl true)))))
    (sRet (eNS sortDI (aCons (eVar 3) aNil))))))
def M_set_of : FD := fnM 2 8 b_set_of
theorem h_set_of (F : Fx K w mg) : Has P w K mg base T "set_of" (4) M_set_of := by
  obtain ⟨fd, hf⟩ := F.f_set_of
  refine ⟨⟨_, fd, ["text", "last"], F.g_set_of, hf.kp, hf.bindsN (fun _ _ _ _ _ _ us hl => match us, hl with | [_, _], _ => rfl), fn_mk (k := 3) noO hf sc_set_of (fun cdv A outer s H E hr hx tk hp => ?_)⟩⟩
  exact (dss_cons (ds_set (i := 2) sc_set_of.nd (de_oz (de_if (dt_cmp (od_ne hr.units) (de_zb (de_var 0)) (de_ob de_str)) (dlc_X [("part", 7)] sc_set_of.nd tk (di_list (de_oz (de_mt PySem.F.plainAttrs_str PySem.F.slot_str_split PySem.F.type_str_split md_split (de_zb (de_var 0)) (da_cons (de_ob de_str) da_nil)))).x (fun _ _ _ _ _ => (dg_name (i := 7) sc_set_of.nd)) (fun _ _ _ _ _ => pts_no) (fun _ _ _ _ _ _ => (de_call (h_ends_of F) hr passB (da_cons (de_var 7) (da_cons (de_var 1) da_nil))))).de (de_lst da_nil))))
    (dss_cons (ds_set (i := 3) sc_set_of.nd (de_sto de_dict0))
    (dss_cons (ds_for hp (di_list (de_var 2)) (dg_tup (n := 2) (dgs_cons (dg_name (i := 4) sc_set_of.nd) (dgs_cons (dg_name (i := 5) sc_set_of.nd) dgs_nil))) (dss_one (ds_for hp (di_range2 (da_cons (de_ob (de_callB cd_max (da_cons (de_ob de_int) (da_cons (de_zb (de_var 4)) da_nil)) F.z_max (by decide +kernel))) (da_cons (de_ob (de_bin od_addA (de_ob (de_callB cd_min (da_cons (de_zb (de_var 5)) (da_cons (de_zb (de_var 1)) da_nil)) F.z_min (by decide +kernel))) (de_ob de_int))) da_nil)) F.z_range) (dg_name (i := 6) sc_set_of.nd) (dss_one (ds_setS hr.units (de_zb (de_var 3)) (de_zb (de_var 6)) (de_oz de_bl))))))
    (dss_one (ds_ret (de_oz (de_callBS cs_sortDI (da_cons (de_zb (de_var 3)) da_nil) F.z_sorted (by decide +kernel))))))))

theorem sc_is_set : FnScope ["thing", "good"] ["thing"] (defScope (topS 35)) := ⟨rfl, rfl, rfl, by decide +kernel, rfl, by decide +kernel, by decide +kernel⟩
def b_is_set : SD := (sSeq (sIf (tOrD (tNotD (tB1 (e1 (isiD "str") (eVar 0)))) (tB1 (e2 eqD (eVar 0) (eC (.str ""))))) (sRet (eC (.bl false))) sNext)
    (sSeq (sSet 1 (eC (.bl true)))
    (sSeq (sTryC M_set_of (aCons (eVar 0) (aCons (eC (.int 0)) aNil)) "BadSet" (sSet 1 (eC (.bl false))))
    (sRet (eVar 1)))))
def M_is_set : FD := fnM 1 2 b_is_set
theorem h_is_set (F : Fx K w mg) : Has P w K mg base T "is_set" (5) M_is_set := by
  obtain ⟨fd, hf⟩ := F.f_is_set
  refine ⟨⟨_, fd, ["thing"], F.g_is_set, hf.kp, hf.bindsN (fun _ _ _ _ _ _ us hl => match us, hl with | [_], _ => rfl), fn_mk (k := 4) noO hf sc_is_set (fun cdv A outer s H E hr hx tk hp => ?_)⟩⟩
  exact (dss_cons (ds_if (dw_or (dt_not (dt_val (de_isi (de_zb (de_var 0)) F.z_isinstance F.z_str (by decide +kernel)))) (dw_or1 (dt_cmp (od_eq hr.units) (de_zb (de_var 0)) (de_ob de_str)))).dt (dss_one (ds_ret (de_oz de_bl))) dss_nil)
    (dss_cons (ds_set (i := 1) sc_is_set.nd (de_oz de_bl))
    (dss_cons (ds_tryCall (h_set_of F) hr F.g_BadSet F.xm_BadSet (fun _ _ => (da_cons (de_var 0) (da_cons (de_oz de_int) da_nil))) (fun _ _ => (dss_one (ds_set (i := 1) sc_is_set.nd (de_oz de_bl)))))
    (dss_one (ds_ret (de_var 1))))))

theorem sc_is_step : FnScope ["thing"] ["thing"] (defScope (topS 36)) := ⟨rfl, rfl, rfl, by decide +kernel, rfl, by decide +kernel, by decide +kernel⟩
def b_is_step : SD := (sRet (eAndD (e1 (isiD "int") (eVar 0)) (eAndD (e1 notD (e1 (isiD "bool") (eVar 0))) (eCh leD leD (eC (.int 0)) (eVar 0) (eC (.int 9999))))))
def M_is_step : FD := fnM 1 1 b_is_step
theorem h_is_step (F : Fx K w mg) : Has P w K mg base T "is_step" (1) M_is_step := by
  obtain ⟨fd, hf⟩ := F.f_is_step
  refine ⟨⟨_, fd, ["thing"], F.g_is_step, hf.kp, hf.bindsN (fun _ _ _ _ _ _ us hl => match us, hl with | [_], _ => rfl), fn_mk (k := 0) noO hf sc_is_step (fun cdv A outer s H E hr hx tk hp => ?_)⟩⟩
  exact (dss_one (ds_ret (de_oz (de_and (de_isi (de_zb (de_var 0)) F.z_isinstance F.z_int (by decide +kernel)) (de_and (de_not (de_isi (de_zb (de_var 0)) F.z_isinstance F.z_bool (by decide +kernel))) (de_one (de_chain od_le od_le (de_ob de_int) (de_zb (de_var 0)) (de_ob (de_gint F.i_MOST_NUMBER)))))))))

theorem sc_need_deep : FnScope ["query", "deep", "word", "one"] ["query", "deep"] (defScope (topS 37)) := ⟨rfl, rfl, rfl, by decide +kernel, rfl, by decide +kernel, by decide +kernel⟩
def b_need_deep (M : FD) : SD := (sSeq (sExpr (eCall M_need_queries (aCons (eAndD (e1 (isiD "tuple") (eVar 0)) (eAndD (e2 gtI (eNS lenS (aCons (eVar 0) aNil)) (eC (.int 0))) (eAndD (e1 (isiD "str") (e2S ixS (eVar 0) (eC (.int 0)))) (e1 (inT tb_LENGTHS) (e2S ixS (eVar 0) (eC (.int 0))))))) aNil)))
    (sSeq (sExpr (eCall M_need_queries (aCons (eAndD (e2 eqD (eNS lenS (aCons (eVar 0) aNil)) (e1 (ixT tb_LENGTHS) (e2S ixS (eVar 0) (eC (.int 0))))) (e2 ltD (eVar 1) (eC (.int 8)))) aNil)))
    (sSeq (sSet 2 (e2S ixS (eVar 0) (eC (.int 0))))
    (sIf (tB1 (e2 eqD (eVar 2) (eC (.str "mark")))) (sExpr (eCall M_need_queries (aCons (eCall M_is_word (aCons (e2S ixS (eVar 0) (eC (.int 1))) (aCons (eC (.int 10)) aNil))) aNil))) (sIf (tB1 (e2 eqD (eVar 2) (eC (.str "head")))) (sExpr (eCall M_need_queries (aCons (eAndD (eCall M_is_word (aCons (e2S ixS (eVar 0) (eC (.int 1))) (aCons (eC (.int 12)) aNil))) (eCall M_is_text (aCons (e2S ixS (eVar 0) (eC (.int 2))) aNil))) aNil))) (sIf (tB1 (e2 eqD (eVar 2) (eC (.str "body")))) (sExpr (eCall M_need_queries (aCons (eCall M_is_text (aCons (e2S ixS (eVar 0) (eC (.int 1))) aNil)) aNil))) (sIf (tB1 (e2 eqD (eVar 2) (eC (.str "numbers")))) (sExpr (eCall M_need_queries (aCons (eCall M_is_set (aCons (e2S ixS (eVar 0) (eC (.int 1))) aNil)) aNil))) (sIf (tB1 (e2 eqD (eVar 2) (eC (.str "newer")))) (sExpr (eCall M_need_queries (aCons (eCall M_is_step (aCons (e2S ixS (eVar 0) (eC (.int 1))) aNil)) aNil))) (sFor (iTpl (eSl (eVar 0) (oSome (eC (.int 1))) oNone)) (gNm 3) (sExpr (eCall (M) (aCons (eVar 3) (aCons (e2 addDT (eVar 1) (eC (.int 1))) aNil)))))))))))))
def M_need_deep : Nat → FD
  | 0 => fnM 2 4 sNo
  | n + 1 => fnM 2 4 (b_need_deep (M_need_deep n))
theorem h_need_deep (F : Fx K w mg) : ∀ n : Nat, Has P w K mg base T "need_deep" (5 + n + 1) (M_need_deep n)
  | 0 => by
    obtain ⟨fd, hf⟩ := F.f_need_deep
    exact ⟨⟨_, fd, ["query", "deep"], F.g_need_deep, hf.kp, hf.bindsN (fun _ _ _ _ _ _ us hl => match us, hl with | [_, _], _ => rfl), fn_mk (k := 5 + 0) noO hf sc_need_deep (fun cdv A outer s H E hr hx tk hp => dss_no)⟩⟩
  | n + 1 => by
    obtain ⟨fd, hf⟩ := F.f_need_deep
    refine ⟨⟨_, fd, ["query", "deep"], F.g_need_deep, hf.kp, hf.bindsN (fun _ _ _ _ _ _ us hl => match us, hl with | [_, _], _ => rfl), fn_mk (k := 5 + n + 1) noO hf sc_need_deep (fun cdv A outer s H E hr hx tk hp => ?_)⟩⟩
    exact (dss_cons (ds_expr (de_call (h_need_queries F) hr hx (da_cons (de_oz (de_and (de_isi (de_zb (de_var 0)) F.z_isinstance F.z_tuple (by decide +kernel)) (de_and (de_cmp od_gt (de_ob (de_callBS cs_len (da_cons (de_zb (de_var 0)) da_nil) F.z_len (by decide +kernel))) (de_ob de_int)) (de_and (de_isi (de_zb (de_ixS hr.units (de_zb (de_var 0)) (de_ob de_int))) F.z_isinstance F.z_str (by decide +kernel)) (de_one (de_inT F.t_LENGTHS (de_zb (de_ixS hr.units (de_zb (de_var 0)) (de_ob de_int))))))))) da_nil) (hjk := by omega)))
    (dss_cons (ds_expr (de_call (h_need_queries F) hr hx (da_cons (de_oz (de_and (de_cmp (od_eq hr.units) (de_ob (de_callBS cs_len (da_cons (de_zb (de_var 0)) da_nil) F.z_len (by decide +kernel))) (de_ob (de_ixT F.t_LENGTHS (de_zb (de_ixS hr.units (de_zb (de_var 0)) (de_ob de_int)))))) (de_one (de_cmp od_lt (de_zb (de_var 1)) (de_ob (de_gint F.i_MOST_WITHIN)))))) da_nil) (hjk := by omega)))
    (dss_cons (ds_set (i := 2) sc_need_deep.nd (de_ixS hr.units (de_zb (de_var 0)) (de_ob de_int)))
    (dss_one (ds_if (dt_cmp (od_eq hr.units) (de_zb (de_var 2)) (de_ob de_str)) (dss_one (ds_expr (de_call (h_need_queries F) hr hx (da_cons (de_call (h_is_word F) hr hx (da_cons (de_ixS hr.units (de_zb (de_var 0)) (de_ob de_int)) (da_cons (de_oz (de_gint F.i_MOST_MARK)) da_nil)) (hjk := by omega)) da_nil) (hjk := by omega)))) (dss_one (ds_if (dt_cmp (od_eq hr.units) (de_zb (de_var 2)) (de_ob de_str)) (dss_one (ds_expr (de_call (h_need_queries F) hr hx (da_cons (de_and (de_call (h_is_word F) hr hx (da_cons (de_ixS hr.units (de_zb (de_var 0)) (de_ob de_int)) (da_cons (de_oz (de_gint F.i_MOST_NAME)) da_nil)) (hjk := by omega)) (de_one (de_call (h_is_text F) hr hx (da_cons (de_ixS hr.units (de_zb (de_var 0)) (de_ob de_int)) da_nil) (hjk := by omega)))) da_nil) (hjk := by omega)))) (dss_one (ds_if (dt_cmp (od_eq hr.units) (de_zb (de_var 2)) (de_ob de_str)) (dss_one (ds_expr (de_call (h_need_queries F) hr hx (da_cons (de_call (h_is_text F) hr hx (da_cons (de_ixS hr.units (de_zb (de_var 0)) (de_ob de_int)) da_nil) (hjk := by omega)) da_nil) (hjk := by omega)))) (dss_one (ds_if (dt_cmp (od_eq hr.units) (de_zb (de_var 2)) (de_ob de_str)) (dss_one (ds_expr (de_call (h_need_queries F) hr hx (da_cons (de_call (h_is_set F) hr hx (da_cons (de_ixS hr.units (de_zb (de_var 0)) (de_ob de_int)) da_nil) (hjk := by omega)) da_nil) (hjk := by omega)))) (dss_one (ds_if (dt_cmp (od_eq hr.units) (de_zb (de_var 2)) (de_ob de_str)) (dss_one (ds_expr (de_call (h_need_queries F) hr hx (da_cons (de_call (h_is_step F) hr hx (da_cons (de_ixS hr.units (de_zb (de_var 0)) (de_ob de_int)) da_nil) (hjk := by omega)) da_nil) (hjk := by omega)))) (dss_one (ds_for hp (di_tup (de_oz (de_slice (de_zb (de_var 0)) (do_some (de_ob de_int)) do_none))) (dg_name (i := 3) sc_need_deep.nd) (dss_one (ds_expr (de_call (h_need_deep F n) hr hx (da_cons (de_var 3) (da_cons (de_oz (de_bin od_addA (de_zb (de_var 1)) (de_ob de_int))) da_nil)) (hjk := by omega)))))))))))))))))))

theorem sc_need_query : FnScope ["query"] ["query"] (defScope (topS 38)) := ⟨rfl, rfl, rfl, by decide +kernel, rfl, by decide +kernel, by decide +kernel⟩
def b_need_query : SD := (sExpr (eCall (M_need_deep 10) (aCons (eVar 0) (aCons (eC (.int 0)) aNil))))
def M_need_query : FD := fnM 1 1 b_need_query
theorem h_need_query (F : Fx K w mg) : Has P w K mg base T "need_query" (17) M_need_query := by
  obtain ⟨fd, hf⟩ := F.f_need_query
  refine ⟨⟨_, fd, ["query"], F.g_need_query, hf.kp, hf.bindsN (fun _ _ _ _ _ _ us hl => match us, hl with | [_], _ => rfl), fn_mk (k := 16) noO hf sc_need_query (fun cdv A outer s H E hr hx tk hp => ?_)⟩⟩
  exact (dss_one (ds_expr (de_call (h_need_deep F 10) hr hx (da_cons (de_var 0) (da_cons (de_oz de_int) da_nil)))))

theorem sc_words_of : FnScope ["query", "word", "found", "one"] ["query"] (defScope (topS 39)) := ⟨rfl, rfl, rfl, by decide +kernel, rfl, by decide +kernel, by decide +kernel⟩
def b_words_of (M : FD) : SD := (sSeq (sSet 1 (e2S ixS (eVar 0) (eC (.int 0))))
    (sSeq (sIf (tB1 (e2 eqD (eVar 1) (eC (.str "head")))) (sRet (eN mkL (aCons (eVar 1) (aCons (e2S ixS (eVar 0) (eC (.int 1))) (aCons (e2 addDT (e2 addDT (eC (.str "\"")) (e2S ixS (eVar 0) (eC (.int 2)))) (eC (.str "\""))) aNil))))) sNext)
    (sSeq (sIf (tB1 (e2 eqD (eVar 1) (eC (.str "body")))) (sRet (eN mkL (aCons (eVar 1) (aCons (e2 addDT (e2 addDT (eC (.str "\"")) (e2S ixS (eVar 0) (eC (.int 1)))) (eC (.str "\""))) aNil)))) sNext)
    (sSeq (sIf (tB1 (e2S (inS2 false) (eVar 1) (eN mkT (aCons (eC (.str "not")) (aCons (eC (.str "or")) (aCons (eC (.str "and")) aNil)))))) (sSeq (sSet 2 (eN mkL (aCons (eVar 1) aNil)))
    (sSeq (sFor (iTpl (eSl (eVar 0) (oSome (eC (.int 1))) oNone)) (gNm 3) (sSet 2 (e2 addDT (eVar 2) (eCall (M) (aCons (eVar 3) aNil)))))
    (sRet (eVar 2)))) sNext)
    (sRet (e2 addDT (eN mkL (aCons (eVar 1) aNil)) (eLc0 (iTpl (eSl (eVar 0) (oSome (eC (.int 1))) oNone)) (gNm 3) tYesD (eN strAD (aCons (eVar 3) aNil)) [3])))))))
def M_words_of : Nat → FD
  | 0 => fnM 1 4 sNo
  | n + 1 => fnM 1 4 (b_words_of (M_words_of n))
theorem h_words_of (F : Fx K w mg) : ∀ n : Nat, Has P w K mg base T "words_of" (0 + n + 1) (M_words_of n)
  | 0 => by
    obtain ⟨fd, hf⟩ := F.f_words_of
    exact ⟨⟨_, fd, ["query"], F.g_words_of, hf.kp, hf.bindsN (fun _ _ _ _ _ _ us hl => match us, hl with | [_], _ => rfl), fn_mk (k := 0 + 0) noO hf sc_words_of (fun cdv A outer s H E hr hx tk hp => dss_no)⟩⟩
  | n + 1 => by
    obtain ⟨fd, hf⟩ := F.f_words_of
    refine ⟨⟨_, fd, ["query"], F.g_words_of, hf.kp, hf.bindsN (fun _ _ _ _ _ _ us hl => match us, hl with | [_], _ => rfl), fn_mk (k := 0 + n + 1) noO hf sc_words_of (fun cdv A outer s H E hr hx tk hp => ?_)⟩⟩
    exact (dss_cons (ds_set (i := 1) sc_words_of.nd (de_ixS hr.units (de_zb (de_var 0)) (de_ob de_int)))
    (dss_cons (ds_if (dt_cmp (od_eq hr.units) (de_zb (de_var 1)) (de_ob de_str)) (dss_one (ds_ret (de_oz (de_lst (da_cons (de_var 1) (da_cons (de_ixS hr.units (de_zb (de_var 0)) (de_ob de_int)) (da_cons (de_oz (de_bin od_addA (de_ob (de_bin od_addA (de_ob de_str) (de_zb (de_ixS hr.units (de_zb (de_var 0)) (de_ob de_int))))) (de_ob de_str))) da_nil))))))) dss_nil)
    (dss_cons (ds_if (dt_cmp (od_eq hr.units) (de_zb (de_var 1)) (de_ob de_str)) (dss_one (ds_ret (de_oz (de_lst (da_cons (de_var 1) (da_cons (de_oz (de_bin od_addA (de_ob (de_bin od_addA (de_ob de_str) (de_zb (de_ixS hr.units (de_zb (de_var 0)) (de_ob de_int))))) (de_ob de_str))) da_nil)))))) dss_nil)
    (dss_cons (ds_if (dt_inS hr.units (de_zb (de_var 1)) (de_ob (de_tup (da_cons (de_oz de_str) (da_cons (de_oz de_str) (da_cons (de_oz de_str) da_nil)))))) (dss_cons (ds_set (i := 2) sc_words_of.nd (de_oz (de_lst (da_cons (de_var 1) da_nil))))
    (dss_cons (ds_for hp (di_tup (de_oz (de_slice (de_zb (de_var 0)) (do_some (de_ob de_int)) do_none))) (dg_name (i := 3) sc_words_of.nd) (dss_one (ds_set (i := 2) sc_words_of.nd (de_oz (de_bin od_addA (de_zb (de_var 2)) (de_zb (de_call (h_words_of F n) hr hx (da_cons (de_var 3) da_nil) (hjk := by omega))))))))
    (dss_one (ds_ret (de_var 2))))) dss_nil)
    (dss_one (ds_ret (de_oz (de_bin od_addA (de_ob (de_lst (da_cons (de_var 1) da_nil))) (de_ob (dlc_0 [("one", 3)] sc_words_of.nd (di_tup (de_oz (de_slice (de_zb (de_var 0)) (do_some (de_ob de_int)) do_none))).x (fun _ _ _ _ _ => (dg_name (i := 3) sc_words_of.nd)) (fun _ _ _ _ _ => pts_no) (fun _ _ _ _ _ => (de_oz (de_callT cd_strA (da_cons (de_zb (de_var 3)) da_nil) F.z_str (by decide +kernel))))).de)))))))))

theorem sc_written_query : FnScope ["query"] ["query"] (defScope (topS 40)) := ⟨rfl, rfl, rfl, by decide +kernel, rfl, by decide +kernel, by decide +kernel⟩
def b_written_query : SD := (sSeq (sExpr (eCall M_need_query (aCons (eVar 0) aNil)))
    (sRet (eMt "str" joinD (eC (.str " ")) (aCons (eCall (M_words_of 10) (aCons (eVar 0) aNil)) aNil))))
def M_written_query : FD := fnM 1 1 b_written_query
theorem h_written_query (F : Fx K w mg) : Has P w K mg base T "written_query" (18) M_written_query := by
  obtain ⟨fd, hf⟩ := F.f_written_query
  refine ⟨⟨_, fd, ["query"], F.g_written_query, hf.kp, hf.bindsN (fun _ _ _ _ _ _ us hl => match us, hl with | [_], _ => rfl), fn_mk (k := 17) noO hf sc_written_query (fun cdv A outer s H E hr hx tk hp => ?_)⟩⟩
  exact (dss_cons (ds_expr (de_call (h_need_query F) hr hx (da_cons (de_var 0) da_nil)))
    (dss_one (ds_ret (de_oz (de_mt PySem.F.plainAttrs_str PySem.F.slot_str_join PySem.F.type_str_join md_join (de_ob de_str) (da_cons (de_zb (de_call (h_words_of F 10) hr hx (da_cons (de_var 0) da_nil))) da_nil))))))

theorem sc_Pieces_take : FnScope ["self"] ["self"] (defScope (inClass (topS 42) 1)) := ⟨rfl, rfl, rfl, by decide +kernel, rfl, by decide +kernel, by decide +kernel⟩
def b_Pieces_take : SD := (sSeq (sExpr (eCall M_need_queries (aCons (e2 ltD (eFld ["Pieces"] "reached" (eVar 0)) (eNS lenS (aCons (eFld ["Pieces"] "pieces" (eVar 0)) aNil))) aNil)))
    (sSeq (sFldSet ["Pieces"] "reached" (eVar 0) (e2 addDT (eFld ["Pieces"] "reached" (eVar 0)) (eC (.int 1))))
    (sRet (e2S ixS (eFld ["Pieces"] "pieces" (eVar 0)) (e2 subI (eFld ["Pieces"] "reached" (eVar 0)) (eC (.int 1)))))))
def M_Pieces_take : FD := fnM 1 1 b_Pieces_take
theorem h_Pieces_take (F : Fx K w mg) : HasM P w K mg base T "Pieces" "take" (2) M_Pieces_take := by
  obtain ⟨fd, hf⟩ := F.f_Pieces_take
  refine ⟨F.c_Pieces, ⟨_, fd, ["self"], F.m_Pieces_take, hf.bindsN (fun _ _ _ _ _ _ us hl => match us, hl with | [_], _ => rfl), fn_mk (k := 1) noO hf sc_Pieces_take (fun cdv A outer s H E hr hx tk hp => ?_)⟩⟩
  exact (dss_cons (ds_expr (de_call (h_need_queries F) hr hx (da_cons (de_oz (de_cmp od_lt (de_zb (de_fld F.fl_reached (de_var 0))) (de_ob (de_callBS cs_len (da_cons (de_zb (de_fld F.fl_pieces (de_var 0))) da_nil) F.z_len (by decide +kernel))))) da_nil)))
    (dss_cons (ds_fld F.fl_reached (de_var 0) (de_oz (de_bin od_addA (de_zb (de_fld F.fl_reached (de_var 0))) (de_ob de_int))))
    (dss_one (ds_ret (de_ixS hr.units (de_zb (de_fld F.fl_pieces (de_var 0))) (de_ob (de_bin od_sub (de_zb (de_fld F.fl_reached (de_var 0))) (de_ob de_int))))))))

theorem sc_Pieces_quoted : FnScope ["self", "found"] ["self"] (defScope (inClass (topS 42) 2)) := ⟨rfl, rfl, rfl, by decide +kernel, rfl, by decide +kernel, by decide +kernel⟩
def b_Pieces_quoted : SD := (sSeq (sSet 1 (eMeth "Pieces" "take" M_Pieces_take (eVar 0) aNil))
    (sSeq (sExpr (eCall M_need_queries (aCons (e2 eqD (e2S ixS (eVar 1) (eC (.int 0))) (eC (.str "\""))) aNil)))
    (sRet (eSl (eVar 1) (oSome (eC (.int 1))) (oSome (e1 negI (eC (.int 1))))))))
def M_Pieces_quoted : FD := fnM 1 2 b_Pieces_quoted
theorem h_Pieces_quoted (F : Fx K w mg) : HasM P w K mg base T "Pieces" "quoted" (3) M_Pieces_quoted := by
  obtain ⟨fd, hf⟩ := F.f_Pieces_quoted
  refine ⟨F.c_Pieces, ⟨_, fd, ["self"], F.m_Pieces_quoted, hf.bindsN (fun _ _ _ _ _ _ us hl => match us, hl with | [_], _ => rfl), fn_mk (k := 2) noO hf sc_Pieces_quoted (fun cdv A outer s H E hr hx tk hp => ?_)⟩⟩
  exact (dss_cons (ds_set (i := 1) sc_Pieces_quoted.nd (de_meth0 (h_Pieces_take F) hr hx (de_var 0)))
    (dss_cons (ds_expr (de_call (h_need_queries F) hr hx (da_cons (de_oz (de_cmp (od_eq hr.units) (de_zb (de_ixS hr.units (de_zb (de_var 1)) (de_ob de_int))) (de_ob de_str))) da_nil)))
    (dss_one (ds_ret (de_oz (de_slice (de_zb (de_var 1)) (do_some (de_ob de_int)) (do_some (de_ob (de_un ud_neg (de_ob de_int))))))))))

theorem sc_Pieces_counted : FnScope ["self", "found", "sign"] ["self"] (defScope (inClass (topS 42) 3)) := ⟨rfl, rfl, rfl, by decide +kernel, rfl, by decide +kernel, by decide +kernel⟩
def b_Pieces_counted : SD := (sSeq (sSet 1 (eMeth "Pieces" "take" M_Pieces_take (eVar 0) aNil))
    (sSeq (sExpr (eCall M_need_queries (aCons (eAndD (eCh leD leD (eC (.int 1)) (eNS lenS (aCons (eVar 1) aNil)) (eC (.int 4))) (eN allD (aCons (eLc0 (iStrD (eVar 1)) (gNm 2) tYesD (e2S (inS2 false) (eVar 2) (eC (.str "0123456789"))) [2]) aNil))) aNil)))
    (sSeq (sExpr (eCall M_need_queries (aCons (eOrD (e2 eqD (eVar 1) (eC (.str "0"))) (e2 neD (e2S ixS (eVar 1) (eC (.int 0))) (eC (.str "0")))) aNil)))
    (sRet (eN intD (aCons (eVar 1) aNil))))))
def M_Pieces_counted : FD := fnM 1 3 b_Pieces_counted
theorem h_Pieces_counted (F : Fx K w mg) : HasM P w K mg base T "Pieces" "counted" (3) M_Pieces_counted := by
  obtain ⟨fd, hf⟩ := F.f_Pieces_counted
  refine ⟨F.c_Pieces, ⟨_, fd, ["self"], F.m_Pieces_counted, hf.bindsN (fun _ _ _ _ _ _ us hl => match us, hl with | [_], _ => rfl), fn_mk (k := 2) noO hf sc_Pieces_counted (fun cdv A outer s H E hr hx tk hp => ?_)⟩⟩
  exact (dss_cons (ds_set (i := 1) sc_Pieces_counted.nd (de_meth0 (h_Pieces_take F) hr hx (de_var 0)))
    (dss_cons (ds_expr (de_call (h_need_queries F) hr hx (da_cons (de_oz (de_and (de_chain od_le od_le (de_ob de_int) (de_ob (de_callBS cs_len (da_cons (de_zb (de_var 1)) da_nil) F.z_len (by decide +kernel))) (de_ob (de_gint F.i_MOST_FIGURES))) (de_one (de_callB cd_all (da_cons (de_ob (dlc_0 [("sign", 2)] sc_Pieces_counted.nd (di_str (de_var 1)).x (fun _ _ _ _ _ => (dg_name (i := 2) sc_Pieces_counted.nd)) (fun _ _ _ _ _ => pts_no) (fun _ _ _ _ _ => (de_oz (de_inS hr.units (de_zb (de_var 2)) (de_ob (de_gstr F.s_FIGURES)))))).de) da_nil) F.z_all (by decide +kernel))))) da_nil)))
    (dss_cons (ds_expr (de_call (h_need_queries F) hr hx (da_cons (de_oz (de_or (de_cmp (od_eq hr.units) (de_zb (de_var 1)) (de_ob de_str)) (de_one (de_cmp (od_ne hr.units) (de_zb (de_ixS hr.units (de_zb (de_var 1)) (de_ob de_int))) (de_ob de_str))))) da_nil)))
    (dss_one (ds_ret (de_oz (de_callT cd_int (da_cons (de_zb (de_var 1)) da_nil) F.z_int (by decide +kernel))))))))

theorem sc_Pieces_query : FnScope ["self", "deep", "word", "name", "first"] ["self", "deep"] (defScope (inClass (topS 42) 4)) := ⟨rfl, rfl, rfl, by decide +kernel, rfl, by decide +kernel, by decide +kernel⟩
def b_Pieces_query (M : FD) : SD := (sSeq (sExpr (eCall M_need_queries (aCons (e2 ltD (eVar 1) (eC (.int 8))) aNil)))
    (sSeq (sSet 2 (eMeth "Pieces" "take" M_Pieces_take (eVar 0) aNil))
    (sSeq (sIf (tB1 (e2 eqD (eVar 2) (eC (.str "head")))) (sSeq (sSet 3 (eMeth "Pieces" "take" M_Pieces_take (eVar 0) aNil))
    (sRet (eN mkT (aCons (eC (.str "head")) (aCons (eVar 3) (aCons (eMeth "Pieces" "quoted" M_Pieces_quoted (eVar 0) aNil) aNil)))))) sNext)
    (sSeq (sIf (tB1 (e2 eqD (eVar 2) (eC (.str "body")))) (sRet (eN mkT (aCons (eC (.str "body")) (aCons (eMeth "Pieces" "quoted" M_Pieces_quoted (eVar 0) aNil) aNil)))) sNext)
    (sSeq (sIf (tB1 (e2 eqD (eVar 2) (eC (.str "newer")))) (sRet (eN mkT (aCons (eC (.str "newer")) (aCons (eMeth "Pieces" "counted" M_Pieces_counted (eVar 0) aNil) aNil)))) sNext)
    (sSeq (sIf (tB1 (e2S (inS2 false) (eVar 2) (eN mkT (aCons (eC (.str "mark")) (aCons (eC (.str "numbers")) aNil))))) (sRet (eN mkT (aCons (eVar 2) (aCons (eMeth "Pieces" "take" M_Pieces_take (eVar 0) aNil) aNil)))) sNext)
    (sSeq (sIf (tB1 (e2 eqD (eVar 2) (eC (.str "not")))) (sRet (eN mkT (aCons (eC (.str "not")) (aCons (eMeth "Pieces" "query" (M) (eVar 0) (aCons (e2 addDT (eVar 1) (eC (.int 1))) aNil)) aNil)))) sNext)
    (sSeq (sIf (tB1 (e2S (inS2 false) (eVar 2) (eN mkT (aCons (eC (.str "or")) (aCons (eC (.str "and")) aNil))))) (sSeq (sSet 4 (eMeth "Pieces" "query" (M) (eVar 0) (aCons (e2 addDT (eVar 1) (eC (.int 1))) aNil)))
    (sRet (eN mkT (aCons (eVar 2) (aCons (eVar 4) (aCons (eMeth "Pieces" "query" (M) (eVar 0) (aCons (e2 addDT (eVar 1) (eC (.int 1))) aNil)) aNil)))))) sNext)
    (sRet (eN mkT (aCons (eVar 2) aNil)))))))))))
def M_Pieces_query : Nat → FD
  | 0 => fnM 2 5 sNo
  | n + 1 => fnM 2 5 (b_Pieces_query (M_Pieces_query n))
theorem h_Pieces_query (F : Fx K w mg) : ∀ n : Nat, HasM P w K mg base T "Pieces" "query" (3 + n + 1) (M_Pieces_query n)
  | 0 => by
    obtain ⟨fd, hf⟩ := F.f_Pieces_query
    exact ⟨F.c_Pieces, ⟨_, fd, ["self", "deep"], F.m_Pieces_query, hf.bindsN (fun _ _ _ _ _ _ us hl => match us, hl with | [_, _], _ => rfl), fn_mk (k := 3 + 0) noO hf sc_Pieces_query (fun cdv A outer s H E hr hx tk hp => dss_no)⟩⟩
  | n + 1 => by
    obtain ⟨fd, hf⟩ := F.f_Pieces_query
    refine ⟨F.c_Pieces, ⟨_, fd, ["self", "deep"], F.m_Pieces_query, hf.bindsN (fun _ _ _ _ _ _ us hl => match us, hl with | [_, _], _ => rfl), fn_mk (k := 3 + n + 1) noO hf sc_Pieces_query (fun cdv A outer s H E hr hx tk hp => ?_)⟩⟩
    exact (dss_cons (ds_expr (de_call (h_need_queries F) hr hx (da_cons (de_oz (de_cmp od_lt (de_zb (de_var 1)) (de_ob (de_gint F.i_MOST_WITHIN)))) da_nil) (hjk := by omega)))
    (dss_cons (ds_set (i := 2) sc_Pieces_query.nd (de_meth0 (h_Pieces_take F) hr hx (de_var 0) (hjk := by omega)))
    (dss_cons (ds_if (dt_cmp (od_eq hr.units) (de_zb (de_var 2)) (de_ob de_str)) (dss_cons (ds_set (i := 3) sc_Pieces_query.nd (de_meth0 (h_Pieces_take F) hr hx (de_var 0) (hjk := by omega)))
    (dss_one (ds_ret (de_oz (de_tup (da_cons (de_oz de_str) (da_cons (de_var 3) (da_cons (de_meth0 (h_Pieces_quoted F) hr hx (de_var 0) (hjk := by omega)) da_nil)))))))) dss_nil)
    (dss_cons (ds_if (dt_cmp (od_eq hr.units) (de_zb (de_var 2)) (de_ob de_str)) (dss_one (ds_ret (de_oz (de_tup (da_cons (de_oz de_str) (da_cons (de_meth0 (h_Pieces_quoted F) hr hx (de_var 0) (hjk := by omega)) da_nil)))))) dss_nil)
    (dss_cons (ds_if (dt_cmp (od_eq hr.units) (de_zb (de_var 2)) (de_ob de_str)) (dss_one (ds_ret (de_oz (de_tup (da_cons (de_oz de_str) (da_cons (de_meth0 (h_Pieces_counted F) hr hx (de_var 0) (hjk := by omega)) da_nil)))))) dss_nil)
    (dss_cons (ds_if (dt_inS hr.units (de_zb (de_var 2)) (de_ob (de_tup (da_cons (de_oz de_str) (da_cons (de_oz de_str) da_nil))))) (dss_one (ds_ret (de_oz (de_tup (da_cons (de_var 2) (da_cons (de_meth0 (h_Pieces_take F) hr hx (de_var 0) (hjk := by omega)) da_nil)))))) dss_nil)
    (dss_cons (ds_if (dt_cmp (od_eq hr.units) (de_zb (de_var 2)) (de_ob de_str)) (dss_one (ds_ret (de_oz (de_tup (da_cons (de_oz de_str) (da_cons (de_meth (h_Pieces_query F n) hr hx (de_var 0) (da_cons (de_oz (de_bin od_addA (de_zb (de_var 1)) (de_ob de_int))) da_nil) (hjk := by omega)) da_nil)))))) dss_nil)
    (dss_cons (ds_if (dt_inS hr.units (de_zb (de_var 2)) (de_ob (de_tup (da_cons (de_oz de_str) (da_cons (de_oz de_str) da_nil))))) (dss_cons (ds_set (i := 4) sc_Pieces_query.nd (de_meth (h_Pieces_query F n) hr hx (de_var 0) (da_cons (de_oz (de_bin od_addA (de_zb (de_var 1)) (de_ob de_int))) da_nil) (hjk := by omega)))
    (dss_one (ds_ret (de_oz (de_tup (da_cons (de_var 2) (da_cons (de_var 4) (da_cons (de_meth (h_Pieces_query F n) hr hx (de_var 0) (da_cons (de_oz (de_bin od_addA (de_zb (de_var 1)) (de_ob de_int))) da_nil) (hjk := by omega)) da_nil)))))))) dss_nil)
    (dss_one (ds_ret (de_oz (de_tup (da_cons (de_var 2) da_nil)))))))))))))

theorem sc_Pieces___init__ : FnScope ["self", "pieces"] ["self", "pieces"] (defScope (inClass (topS 42) 0)) := ⟨rfl, rfl, rfl, by decide +kernel, rfl, by decide +kernel, by decide +kernel⟩
def b_Pieces___init__ : SD := (sSeq (sFldSet ["Pieces"] "pieces" (eVar 0) (eVar 1))
    (sFldSet ["Pieces"] "reached" (eVar 0) (eC (.int 0))))
def M_Pieces___init__ : FD := fnM 2 2 b_Pieces___init__
theorem h_Pieces___init__ (F : Fx K w mg) : HasN P w K mg base T "Pieces" (1) M_Pieces___init__ := by
  obtain ⟨fd, hf⟩ := F.f_Pieces___init__
  refine ⟨F.g_Pieces, ⟨_, fd, ["self", "pieces"], F.k_Pieces, hf.bindsN (fun _ _ _ _ _ _ us hl => match us, hl with | [_, _], _ => rfl), fn_mk (k := 0) noO hf sc_Pieces___init__ (fun cdv A outer s H E hr hx tk hp => ?_)⟩⟩
  exact (dss_cons (ds_fld F.fl_pieces (de_var 0) (de_var 1))
    (dss_one (ds_fld F.fl_reached (de_var 0) (de_oz de_int))))

theorem sc_pieces_of : FnScope ["text", "found", "at", "end"] ["text"] (defScope (topS 41)) := ⟨rfl, rfl, rfl, by decide +kernel, rfl, by decide +kernel, by decide +kernel⟩
def b_pieces_of : SD := (sSeq (sExpr (eCall M_need_queries (aCons (e2 leD (eNS lenS (aCons (eVar 0) aNil)) (eC (.int 200))) aNil)))
    (sSeq (sSetO 1 (eN mkL aNil))
    (sSeq (sSet 2 (eC (.int 0)))
    (sSeq (sWhile (tB1 (e2 ltD (eVar 2) (eNS lenS (aCons (eVar 0) aNil)))) (sSeq (sSet 3 (e2 addDT (eVar 2) (eC (.int 1))))
    (sSeq (sIf (tB1 (e2 eqD (e2S ixS (eVar 0) (eVar 2)) (eC (.str "\"")))) (sSeq (sSet 3 (e2 addDT (eMt "str" find3D (eVar 0) (aCons (eC (.str "\"")) (aCons (e2 addDT (eVar 2) (eC (.int 1))) aNil))) (eC (.int 1))))
    (sSeq (sExpr (eCall M_need_queries (aCons (eAndD (e2 gtI (eVar 3) (eC (.int 0))) (e2S (inS2 false) (eSl (eVar 0) (oSome (eVar 3)) (oSome (e2 addDT (eVar 3) (eC (.int 1))))) (eN mkT (aCons (eC (.str "")) (aCons (eC (.str " ")) aNil))))) aNil)))
    (sApp 1 (eSl (eVar 0) (oSome (eVar 2)) (oSome (eVar 3)))))) (sIf (tB1 (e2 neD (e2S ixS (eVar 0) (eVar 2)) (eC (.str " ")))) (sSeq (sWhile (tAndD (tB1 (e2 ltD (eVar 3) (eNS lenS (aCons (eVar 0) aNil)))) (tB1 (e2 neD (e2S ixS (eVar 0) (eVar 3)) (eC (.str " "))))) (sSet 3 (e2 addDT (eVar 3) (eC (.int 1)))))
    (sApp 1 (eSl (eVar 0) (oSome (eVar 2)) (oSome (eVar 3))))) sNext))
    (sSet 2 (eVar 3)))))
    (sRet (eVar 1))))))
def M_pieces_of : FD := fnM 1 4 b_pieces_of
theorem h_pieces_of (F : Fx K w mg) : Has P w K mg base T "pieces_of" (2) M_pieces_of := by
  obtain ⟨fd, hf⟩ := F.f_pieces_of
  refine ⟨⟨_, fd, ["text"], F.g_pieces_of, hf.kp, hf.bindsN (fun _ _ _ _ _ _ us hl => match us, hl with | [_], _ => rfl), fn_mk (k := 1) (fun i => i == 1) hf sc_pieces_of (fun cdv A outer s H E hr hx tk hp => ?_)⟩⟩
  exact (dss_cons (ds_expr (de_call (h_need_queries F) hr hx (da_cons (de_oz (de_cmp od_le (de_ob (de_callBS cs_len (da_cons (de_zb (de_var 0)) da_nil) F.z_len (by decide +kernel))) (de_ob (de_gint F.i_MOST_SIGNS)))) da_nil)))
    (dss_cons (ds_setO (i := 1) sc_pieces_of.nd (de_lst da_nil))
    (dss_cons (ds_set (i := 2) sc_pieces_of.nd (de_oz de_int))
    (dss_cons (ds_while hp (dt_cmp od_lt (de_zb (de_var 2)) (de_ob (de_callBS cs_len (da_cons (de_zb (de_var 0)) da_nil) F.z_len (by decide +kernel)))) (dss_cons (ds_set (i := 3) sc_pieces_of.nd (de_oz (de_bin od_addA (de_zb (de_var 2)) (de_ob de_int))))
    (dss_cons (ds_if (dt_cmp (od_eq hr.units) (de_zb (de_ixS hr.units (de_zb (de_var 0)) (de_zb (de_var 2)))) (de_ob de_str)) (dss_cons (ds_set (i := 3) sc_pieces_of.nd (de_oz (de_bin od_addA (de_ob (de_mt PySem.F.plainAttrs_str PySem.F.slot_str_find PySem.F.type_str_find md_find3 (de_zb (de_var 0)) (da_cons (de_ob de_str) (da_cons (de_ob (de_bin od_addA (de_zb (de_var 2)) (de_ob de_int))) da_nil)))) (de_ob de_int))))
    (dss_cons (ds_expr (de_call (h_need_queries F) hr hx (da_cons (de_oz (de_and (de_cmp od_gt (de_zb (de_var 3)) (de_ob de_int)) (de_one (de_inS hr.units (de_ob (de_slice (de_zb (de_var 0)) (do_some (de_zb (de_var 3))) (do_some (de_ob (de_bin od_addA (de_zb (de_var 3)) (de_ob de_int)))))) (de_ob (de_tup (da_cons (de_oz de_str) (da_cons (de_oz de_str) da_nil)))))))) da_nil)))
    (dss_one (ds_app (i := 1) (de_oz (de_slice (de_zb (de_var 0)) (do_some (de_zb (de_var 2))) (do_some (de_zb (de_var 3))))))))) (dss_one (ds_if (dt_cmp (od_ne hr.units) (de_zb (de_ixS hr.units (de_zb (de_var 0)) (de_zb (de_var 2)))) (de_ob de_str)) (dss_cons (ds_while hp (dw_and (dt_cmp od_lt (de_zb (de_var 3)) (de_ob (de_callBS cs_len (da_cons (de_zb (de_var 0)) da_nil) F.z_len (by decide +kernel)))) (dw_and1 (dt_cmp (od_ne hr.units) (de_zb (de_ixS hr.units (de_zb (de_var 0)) (de_zb (de_var 3)))) (de_ob de_str)))).dt (dss_one (ds_set (i := 3) sc_pieces_of.nd (de_oz (de_bin od_addA (de_zb (de_var 3)) (de_ob de_int))))))
    (dss_one (ds_app (i := 1) (de_oz (de_slice (de_zb (de_var 0)) (do_some (de_zb (de_var 2))) (do_some (de_zb (de_var 3)))))))) dss_nil)))
    (dss_one (ds_set (i := 2) sc_pieces_of.nd (de_var 3))))))
    (dss_one (ds_ret (de_var 1)))))))

theorem sc_read_query : FnScope ["text", "pieces", "found"] ["text"] (defScope (topS 43)) := ⟨rfl, rfl, rfl, by decide +kernel, rfl, by decide +kernel, by decide +kernel⟩
def b_read_query : SD := (sSeq (sSet 1 (eNew "Pieces" M_Pieces___init__ (aCons (eCall M_pieces_of (aCons (eVar 0) aNil)) aNil)))
    (sSeq (sSet 2 (eMeth "Pieces" "query" (M_Pieces_query 10) (eVar 1) (aCons (eC (.int 0)) aNil)))
    (sSeq (sExpr (eCall M_need_queries (aCons (e2 eqD (eFld ["Pieces"] "reached" (eVar 1)) (eNS lenS (aCons (eFld ["Pieces"] "pieces" (eVar 1)) aNil))) aNil)))
    (sSeq (sExpr (eCall M_need_query (aCons (eVar 2) aNil)))
    (sRet (eVar 2))))))
def M_read_query : FD := fnM 1 3 b_read_query
theorem h_read_query (F : Fx K w mg) : Has P w K mg base T "read_query" (18) M_read_query := by
  obtain ⟨fd, hf⟩ := F.f_read_query
  refine ⟨⟨_, fd, ["text"], F.g_read_query, hf.kp, hf.bindsN (fun _ _ _ _ _ _ us hl => match us, hl with | [_], _ => rfl), fn_mk (k := 17) noO hf sc_read_query (fun cdv A outer s H E hr hx tk hp => ?_)⟩⟩
  exact (dss_cons (ds_set (i := 1) sc_read_query.nd (de_new (h_Pieces___init__ F) hr hx (da_cons (de_call (h_pieces_of F) hr hx (da_cons (de_var 0) da_nil)) da_nil)))
    (dss_cons (ds_set (i := 2) sc_read_query.nd (de_meth (h_Pieces_query F 10) hr hx (de_var 1) (da_cons (de_oz de_int) da_nil)))
    (dss_cons (ds_expr (de_call (h_need_queries F) hr hx (da_cons (de_oz (de_cmp (od_eq hr.units) (de_zb (de_fld F.fl_reached (de_var 1))) (de_ob (de_callBS cs_len (da_cons (de_zb (de_fld F.fl_pieces (de_var 1))) da_nil) F.z_len (by decide +kernel))))) da_nil)))
    (dss_cons (ds_expr (de_call (h_need_query F) hr hx (da_cons (de_var 2) da_nil)))
    (dss_one (ds_ret (de_var 2)))))))

end
end K50

set_option Elab.async false
set_option linter.all false
set_option maxRecDepth 100000
set_option maxHeartbeats 4000000
namespace K50
open PySem PySem.Spec PyProof.Rows L2 Mir
section
variable {P : Program} {w : World} {K : PySem.W.Frag} {mg : Str → Option Value} {base : Heap} {T : List (Addr × Str)}
theorem sc_law : FnScope ["script", "k", "more", "query", "j", "around", "due", "parts", "wide", "part"] ["script"] (defScope (topS 53)) := ⟨rfl, rfl, rfl, by decide +kernel, rfl, by decide +kernel, by decide +kernel⟩
def b_law : SD := (sSeq (sFor (iN range1D (aCons (eN maxD (aCons (eC (.int 1)) (aCons (eN minD (aCons (eC (.int 4)) (aCons (eNS lenS (aCons (eVar 0) aNil)) aNil))) aNil))) aNil)) (gNm 1) (sSeq (sSet 2 (eCall M__law_drawn (aCons (eCall M__law_cell (aCons (eVar 0) (aCons (eVar 1) aNil))) (aCons (eVar 1) aNil))))
    (sSeq (sSet 3 (eCall M__law_signed (aCons (eCall (M__law_query 10) (aCons (eCall M__law_drawn (aCons (eVar 2) (aCons (eC (.int 1)) aNil))) (aCons (e2 addDT (eC (.int 1)) (e2 modI (eVar 2) (eC (.int 4)))) (aCons (eC (.bl false)) aNil)))) (aCons (e2 fdivI (eVar 2) (eC (.int 64))) aNil))))
    (sSeq (sIf (tB1 (e2 eqD (e2 modI (e2 fdivI (eVar 2) (eC (.int 8))) (eC (.int 5))) (eC (.int 0)))) (sSeq (sSet 3 (eN mkT (aCons (eC (.str "body")) (aCons (eC (.str "x")) aNil))))
    (sFor (iN range1D (aCons (e2 modI (e2 fdivI (eVar 2) (eC (.int 64))) (eC (.int 8))) aNil)) (gNm 4) (sSeq (sSet 5 (eN mkL (aCons (eN mkT (aCons (eC (.str "not")) (aCons (eVar 3) aNil))) (aCons (eN mkT (aCons (eC (.str "and")) (aCons (eN mkT (aCons (eC (.str "all")) aNil)) (aCons (eVar 3) aNil)))) (aCons (eN mkT (aCons (eC (.str "or")) (aCons (eVar 3) (aCons (eN mkT (aCons (eC (.str "mark")) (aCons (eC (.str "a")) aNil))) aNil)))) aNil)))))
    (sSet 3 (e2S ixS (eVar 5) (e2 modI (eCall M__law_drawn (aCons (eVar 2) (aCons (eVar 4) aNil))) (eC (.int 3)))))))) sNext)
    (sSeq (sSet 6 (eCall (M__law_query_text 10) (aCons (eVar 3) aNil)))
    (sSeq (sIf (tOrD (tB1 (e2 isNotNonD (eTold errs (eCall M_need_query (aCons (eVar 3) aNil))) (eC .non))) (tB1 (e2 neD (eCall M_written_query (aCons (eVar 3) aNil)) (eVar 6)))) (sRet (eC (.bl false))) sNext)
    (sSeq (sIf (tAndD (tB1 (e2 leD (eNS lenS (aCons (eVar 6) aNil)) (eC (.int 200)))) (tB1 (e2 neD (eTold errs (eCall M_read_query (aCons (eVar 6) aNil))) (eVar 3)))) (sRet (eC (.bl false))) sNext)
    (sSeq (sSet 7 (eMt "str" splitD (eVar 6) (aCons (eC (.str "\"")) aNil)))
    (sSeq (sSet 8 (eMt "str" joinD (eC (.str "\"")) (aCons (eLc (iN enumD (aCons (eVar 7) aNil)) (gTp 2 (gsCons (gNm 4) (gsCons (gNm 9) gsNil))) tYesD (eIf (tB1 (e2 eqD (e2 modI (eVar 4) (eC (.int 2))) (eC (.int 1)))) (eVar 9) (e1 (replD " " "   ") (eVar 9))) [4, 9]) aNil)))
    (sSeq (sSet 8 (e2 addDT (e2 addDT (eC (.str "  ")) (eVar 8)) (eC (.str " "))))
    (sIf (tAndD (tB1 (e2 leD (eNS lenS (aCons (eVar 8) aNil)) (eC (.int 200)))) (tB1 (e2 neD (eTold errs (eCall M_read_query (aCons (eVar 8) aNil))) (eVar 3)))) (sRet (eC (.bl false))) sNext)))))))))))
    (sRet (eC (.bl true))))
def M_law : FD := fnM 1 10 b_law
def lawT (K : PySem.W.Frag) : List (Addr × Str) := [((He.cT K ("law", none)).2, (envOfC "law" (defScope (topS 53)) 0 0 .none).qual ++ "<lambda>")]
theorem h_law (F : Fx K w mg) {fd : FuncData} (hf : FunD K "law" "law" (defArgs (topS 53)) (defBody (topS 53)) (defScope (topS 53)) [] [] (He.ga K "law") fd) (TB : LamX.TabB base mg (He.cT K ("law", none)).1 (He.cT K ("law", none)).2) : FnOk P w K mg base (L2N.CX P w) 21 (He.ga K "law") fd ["script"] (spOf K (lawT K) M_law) := by
  refine fn_mkT (T := lawT K) (k := 20) noO hf sc_law rfl (fun A outer s H E hr hx tk hp => ?_)
  exact (dss_cons (ds_for hp (di_range1 (da_cons (de_ob (de_callB cd_max (da_cons (de_ob de_int) (da_cons (de_ob (de_callB cd_min (da_cons (de_ob de_int) (da_cons (de_ob (de_callBS cs_len (da_cons (de_zb (de_var 0)) da_nil) F.z_len (by decide +kernel))) da_nil)) F.z_min (by decide +kernel))) da_nil)) F.z_max (by decide +kernel))) da_nil) F.z_range) (dg_name (i := 1) sc_law.nd) (dss_cons (ds_set (i := 2) sc_law.nd (de_call (h__law_drawn F) hr hx (da_cons (de_call (h__law_cell F) hr hx (da_cons (de_var 0) (da_cons (de_var 1) da_nil))) (da_cons (de_var 1) da_nil))))
    (dss_cons (ds_set (i := 3) sc_law.nd (de_call (h__law_signed F) hr hx (da_cons (de_call (h__law_query F 10) hr hx (da_cons (de_call (h__law_drawn F) hr hx (da_cons (de_var 2) (da_cons (de_oz de_int) da_nil))) (da_cons (de_oz (de_bin od_addA (de_ob de_int) (de_ob (de_bin od_mod (de_zb (de_var 2)) (de_ob de_int))))) (da_cons (de_oz de_bl) da_nil)))) (da_cons (de_oz (de_bin od_fdiv (de_zb (de_var 2)) (de_ob de_int))) da_nil))))
    (dss_cons (ds_if (dt_cmp (od_eq hr.units) (de_ob (de_bin od_mod (de_ob (de_bin od_fdiv (de_zb (de_var 2)) (de_ob de_int))) (de_ob de_int))) (de_ob de_int)) (dss_cons (ds_set (i := 3) sc_law.nd (de_oz (de_tup (da_cons (de_oz de_str) (da_cons (de_oz de_str) da_nil)))))
    (dss_one (ds_for hp (di_range1 (da_cons (de_ob (de_bin od_mod (de_ob (de_bin od_fdiv (de_zb (de_var 2)) (de_ob de_int))) (de_ob de_int))) da_nil) F.z_range) (dg_name (i := 4) sc_law.nd) (dss_cons (ds_set (i := 5) sc_law.nd (de_oz (de_lst (da_cons (de_oz (de_tup (da_cons (de_oz de_str) (da_cons (de_var 3) da_nil)))) (da_cons (de_oz (de_tup (da_cons (de_oz de_str) (da_cons (de_oz (de_tup (da_cons (de_oz de_str) da_nil))) (da_cons (de_var 3) da_nil))))) (da_cons (de_oz (de_tup (da_cons (de_oz de_str) (da_cons (de_var 3) (da_cons (de_oz (de_tup (da_cons (de_oz de_str) (da_cons (de_oz de_str) da_nil)))) da_nil))))) da_nil))))))
    (dss_one (ds_set (i := 3) sc_law.nd (de_ixS hr.units (de_zb (de_var 5)) (de_ob (de_bin od_mod (de_zb (de_call (h__law_drawn F) hr hx (da_cons (de_var 2) (da_cons (de_var 4) da_nil)))) (de_ob de_int)))))))))) dss_nil)
    (dss_cons (ds_set (i := 6) sc_law.nd (de_call (h__law_query_text F 10) hr hx (da_cons (de_var 3) da_nil)))
    (dss_cons (ds_if (dw_or (dt_cmp od_isNotN (de_zb (de_told (k := 18) ((h_told F).mono (by decide)) TB rfl rfl hr (fun A outer s H E f c_ hr => by exact (de_call (h_need_query F) hr lamD_hx (da_cons (de_var 3) da_nil))))) (de_ob de_non)) (dw_or1 (dt_cmp (od_ne hr.units) (de_zb (de_call (h_written_query F) hr hx (da_cons (de_var 3) da_nil))) (de_zb (de_var 6))))).dt (dss_one (ds_ret (de_oz de_bl))) dss_nil)
    (dss_cons (ds_if (dw_and (dt_cmp od_le (de_ob (de_callBS cs_len (da_cons (de_zb (de_var 6)) da_nil) F.z_len (by decide +kernel))) (de_ob de_int)) (dw_and1 (dt_cmp (od_ne hr.units) (de_zb (de_told (k := 18) ((h_told F).mono (by decide)) TB rfl rfl hr (fun A outer s H E f c_ hr => by exact (de_call (h_read_query F) hr lamD_hx (da_cons (de_var 6) da_nil))))) (de_zb (de_var 3))))).dt (dss_one (ds_ret (de_oz de_bl))) dss_nil)
    (dss_cons (ds_set (i := 7) sc_law.nd (de_oz (de_mt PySem.F.plainAttrs_str PySem.F.slot_str_split PySem.F.type_str_split md_split (de_zb (de_var 6)) (da_cons (de_ob de_str) da_nil))))
    (dss_cons (ds_set (i := 8) sc_law.nd (de_oz (de_mt PySem.F.plainAttrs_str PySem.F.slot_str_join PySem.F.type_str_join md_join (de_ob de_str) (da_cons (de_ob (dlc_X [("j", 4), ("part", 9)] sc_law.nd tk (di_enum (da_cons (de_var 7) da_nil) F.z_enumerate).x (fun _ _ _ _ _ => (dg_tup (n := 2) (dgs_cons (dg_name (i := 4) sc_law.nd) (dgs_cons (dg_name (i := 9) sc_law.nd) dgs_nil)))) (fun _ _ _ _ _ => pts_no) (fun _ _ _ _ _ _ => (de_ifRepl (od_eq hr.units) (de_ob (de_bin od_mod (de_zb (de_var 4)) (de_ob de_int))) (de_var 9) (de_zb (de_var 9))))).de) da_nil))))
    (dss_cons (ds_set (i := 8) sc_law.nd (de_oz (de_bin od_addA (de_ob (de_bin od_addA (de_ob de_str) (de_zb (de_var 8)))) (de_ob de_str))))
    (dss_one (ds_if (dw_and (dt_cmp od_le (de_ob (de_callBS cs_len (da_cons (de_zb (de_var 8)) da_nil) F.z_len (by decide +kernel))) (de_ob de_int)) (dw_and1 (dt_cmp (od_ne hr.units) (de_zb (de_told (k := 18) ((h_told F).mono (by decide)) TB rfl rfl hr (fun A outer s H E f c_ hr => by exact (de_call (h_read_query F) hr lamD_hx (da_cons (de_var 8) da_nil))))) (de_zb (de_var 3))))).dt (dss_one (ds_ret (de_oz de_bl))) dss_nil))))))))))))
    (dss_one (ds_ret (de_oz de_bl))))
end
end K50

set_option Elab.async false
set_option linter.all false
set_option maxRecDepth 100000
set_option maxHeartbeats 1000000
namespace K50
open PySem Mir SX
local macro_rules | `(tactic| walk_at "wp") => `(tactic| simp -dsimp (disch := first | omega | (simp only [List.length_cons, List.length_nil, List.length_append, List.length_map]; omega)) only [*, ↓wp_eAnd, ↓wp_eOr, ↓wp_ch, ↓wp_c, ↓wp_var, ↓wp_e1, ↓wp_e2, ↓wp_eN, ↓wp_cons, ↓wp_nil, ↓wp_call, ↓wp_mt, ↓wp_sl, ↓wp_oNone, ↓wp_oSome, ↓wp_tB1, ↓wp_tNot, ↓wp_tAnd, ↓wp_tOr, ↓wp_eIf, ↓wp_told, ↓wp_next, ↓wp_raise, ↓wp_seq, ↓wp_expr, ↓wp_set, ↓wp_setO, ↓wp_setI, ↓wp_retS, ↓wp_retN, ↓wp_break, ↓wp_cont, ↓wp_if, ↓wp_app, ↓wp_asg, ↓wp_fn, ↓wp_for, ↓wp_iLst, ↓wp_iTpl, ↓wp_iN, ↓wp_iStr, ↓wp_tYes, ↓wp_ret,
  ↓wp_fld, ↓wp_fldSet, ↓wp_meth, ↓wp_new, ↓wp_sto, ↓wp_disp, ↓wp_e2S, ↓wp_eNS, ↓wp_setS, onN_non,
  onO_some, onB_bl, onI_int, onL_lst, onT_tup, onS_str, onE_go, onC_t,
  List.map_cons, List.map_nil, List.length_cons, List.length_nil, List.cons_append, List.nil_append, List.replicate, List.getElem?_cons_zero, List.getElem?_cons_succ, List.set_cons_zero, List.set_cons_succ, wipeD, decide_true, decide_false,
  Option.some.injEq, true_and, and_true, if_true, ite_true, if_false, Bool.false_eq_true, reduceIte, ite_false, Bool.not_true, Bool.not_false, Nat.reduceAdd, Nat.reduceSub, Nat.zero_add, Nat.reduceEqDiff])
def obP (ps : List D) (r : Nat) : Ob := .ins "Pieces" [("pieces", .lst ps), ("reached", .int (r : Int))]
section
variable {s : Sto} {m : Nat} {ps : List D} {r : Nat} {Q : D → Sto → Prop} {X : XP}
theorem p_reached (h : s[m]? = some (obP ps r)) : fldO ["Pieces"] "reached" s (.obj m) = some (.int r) := (fldO_at h (by decide)).trans (by kernel_rfl)
theorem p_pieces (h : s[m]? = some (obP ps r)) : fldO ["Pieces"] "pieces" s (.obj m) = some (.lst ps) := (fldO_at h (by decide)).trans (by kernel_rfl)
theorem p_set (h : s[m]? = some (obP ps r)) : setFld ["Pieces"] "reached" (.int ((r : Int) + 1)) s (.obj m) = some (s.set m (obP ps (r + 1))) := by
  rw [setFld_at h (by decide) (by simp)]
  have e : putFD "reached" (.int ((r : Int) + 1)) ([("pieces", .lst ps), ("reached", .int (r : Int))] : List (Str × D)) = ([("pieces", .lst ps), ("reached", .int ((r + 1 : Nat) : Int))] : List (Str × D)) := by kernel_rfl
  rw [e]; rfl
theorem p_ins (h : s[m]? = some (obP ps r)) : isIns "Pieces" "take" s (.obj m) = true ∧ isIns "Pieces" "quoted" s (.obj m) = true ∧ isIns "Pieces" "counted" s (.obj m) = true ∧ isIns "Pieces" "query" s (.obj m) = true :=
  ⟨isIns_at h (by kernel_rfl), isIns_at h (by kernel_rfl), isIns_at h (by kernel_rfl), isIns_at h (by kernel_rfl)⟩
theorem wp_needq {v : Bool} : wp (M_need_queries [.bl v] s) Q X = if v = true then Q .non s else X "BadQuery" s := by
  unfold M_need_queries b_need_queries
  walk_at "wp"
  cases v <;> simp [wp_ret]
theorem o_ltI (i j : Int) : ltD (.int i) (.int j) = some (.bl (decide (i < j))) := rfl
theorem lenS_l : lenS s [.lst ps] = some (.int ps.length) := rfl
theorem o_subI (i j : Int) : subI (.int i) (.int j) = some (.int (i - j)) := rfl
theorem o_addI (i j : Int) : addDT (.int i) (.int j) = some (.int (i + j)) := rfl
theorem ixS_l {i : Int} : ixS s (.lst ps) (.int i) = L2.atI ps i := rfl
theorem wp_take (h : s[m]? = some (obP ps r)) : wp (M_Pieces_take [.obj m] s) Q X = match ps[r]? with | some d => Q d (s.set m (obP ps (r + 1))) | none => X "BadQuery" s := by
  have f1 := p_reached h
  have f2 := p_pieces h
  have f3 := p_set h
  have f4 := p_reached (sto_set (ob' := obP ps (r + 1)) h)
  have f5 := p_pieces (sto_set (ob' := obP ps (r + 1)) h)
  have wn := @wp_needq
  have l1 := @o_ltI
  have l2 := @lenS_l
  have l3 := @o_subI
  have l4 := @o_addI
  have l5 := @ixS_l
  clear h
  unfold M_Pieces_take b_Pieces_take
  walk_at "wp"
  have e : (((r + 1 : Nat) : Int) - 1) = (r : Int) := by omega
  rw [e]
  by_cases hr : r < ps.length
  · rw [if_pos (decide_eq_true (by omega)), atI_get (by omega) (by omega), onO_some, List.getElem?_eq_getElem hr]
    rfl
  · rw [if_neg (by simp; omega), List.getElem?_eq_none (by omega)]
/-! ### the reading of a query, without the store -/
inductive PR where
  | ok (d : D) (r : Nat)
  | bad (r : Nat)
  | no
def PR.bind (p : PR) (f : D → Nat → PR) : PR := match p with
  | .ok d r => f d r
  | .bad r => .bad r
  | .no => .no
def PR.w (p : PR) (Q : D → Nat → Prop) (X : Nat → Prop) (t : Tg (Q, X) := ⟨⟩) : Prop := match p with
  | .ok d r => Q d r
  | .bad r => X r
  | .no => False
theorem w_bind {p : PR} {f : D → Nat → PR} {Q : D → Nat → Prop} {X : Nat → Prop} : (p.bind f).w Q X = p.w (fun d r => (f d r).w Q X) X := by cases p <;> rfl
theorem w_ok {d : D} {r : Nat} {Q : D → Nat → Prop} {X : Nat → Prop} : (PR.ok d r).w Q X = Q d r := rfl
def pTake (ps : List D) (r : Nat) : PR := match ps[r]? with
  | some d => .ok d (r + 1)
  | none => .bad r
def tst (o : Option D) (a b : PR) : PR := match o with
  | some (.bl true) => a
  | some (.bl false) => b
  | _ => .no
theorem w_tst {o : Option D} {a b : PR} {Q : D → Nat → Prop} {X : Nat → Prop} : (tst o a b).w Q X = onO o fun d => onB d fun v => if v = true then a.w Q X else b.w Q X := by
  unfold tst onO onB
  cases o with
  | none => exact propext ⟨fun h => h.elim, fun ⟨_, h, _⟩ => nomatch h⟩
  | some d =>
    cases d <;> first | exact propext ⟨fun h => h.elim, fun ⟨_, h, _, k, _⟩ => by cases h; cases k⟩ | skip
    rename_i v
    cases v
    · exact propext ⟨fun h => ⟨_, rfl, _, rfl, h⟩, fun ⟨_, h, _, k, q⟩ => by cases h; cases k; exact q⟩
    · exact propext ⟨fun h => ⟨_, rfl, _, rfl, h⟩, fun ⟨_, h, _, k, q⟩ => by cases h; cases k; exact q⟩
def restQ : SD := (sSeq (sExpr (eCall M_need_queries (aCons (e2 eqD (e2S ixS (eVar 1) (eC (.int 0))) (eC (.str "\""))) aNil)))
    (sRet (eSl (eVar 1) (oSome (eC (.int 1))) (oSome (e1 negI (eC (.int 1)))))))
def restC : SD := (sSeq (sExpr (eCall M_need_queries (aCons (eAndD (eCh leD leD (eC (.int 1)) (eNS lenS (aCons (eVar 1) aNil)) (eC (.int 4))) (eN allD (aCons (eLc0 (iStrD (eVar 1)) (gNm 2) tYesD (e2S (inS2 false) (eVar 2) (eC (.str "0123456789"))) [2]) aNil))) aNil)))
    (sSeq (sExpr (eCall M_need_queries (aCons (eOrD (e2 eqD (eVar 1) (eC (.str "0"))) (e2 neD (e2S ixS (eVar 1) (eC (.int 0))) (eC (.str "0")))) aNil)))
    (sRet (eN intD (aCons (eVar 1) aNil)))))
def ofF (q : R Fl) (r : Nat) : PR := match q with
  | .ok (.rt d) _ => .ok d r
  | .exc c _ => if c = "BadQuery" then .bad r else .no
  | _ => .no
/-- what is asked of a word: its ends do not hang on the store -/
structure WOk (w : D) : Prop where
  q : ∀ (s : Sto) (m : Nat), (∃ d, restQ [some (.obj m), some w] s = .ok (.rt d) s ∧ restQ [some (.obj 0), some w] [] = .ok (.rt d) []) ∨ (restQ [some (.obj m), some w] s = .exc "BadQuery" s ∧ restQ [some (.obj 0), some w] [] = .exc "BadQuery" [])
  c : ∀ (s : Sto) (m : Nat), (∃ d, restC [some (.obj m), some w, none] s = .ok (.rt d) s ∧ restC [some (.obj 0), some w, none] [] = .ok (.rt d) []) ∨ (restC [some (.obj m), some w, none] s = .exc "BadQuery" s ∧ restC [some (.obj 0), some w, none] [] = .exc "BadQuery" [])
def pQuoted (ps : List D) (r : Nat) : PR := (pTake ps r).bind fun w r => ofF (restQ [some (.obj 0), some w] []) r
def pCounted (ps : List D) (r : Nat) : PR := (pTake ps r).bind fun w r => ofF (restC [some (.obj 0), some w, none] []) r
def pq : Nat → List D → Nat → Int → PR
  | 0, _, _, _ => .no
  | n + 1, ps, r, deep => tst (ltD (.int deep) (.int 8)) ((pTake ps r).bind fun w r =>
      tst (eqD w (.str "head")) ((pTake ps r).bind fun nm r => (pQuoted ps r).bind fun t r => .ok (.tup [.str "head", nm, t]) r)
      (tst (eqD w (.str "body")) ((pQuoted ps r).bind fun t r => .ok (.tup [.str "body", t]) r)
      (tst (eqD w (.str "newer")) ((pCounted ps r).bind fun t r => .ok (.tup [.str "newer", t]) r)
      (tst (inD w (.tup [.str "mark", .str "numbers"])) ((pTake ps r).bind fun t r => .ok (.tup [w, t]) r)
      (tst (eqD w (.str "not")) ((pq n ps r (deep + 1)).bind fun a r => .ok (.tup [.str "not", a]) r)
      (tst (inD w (.tup [.str "or", .str "and"])) ((pq n ps r (deep + 1)).bind fun a r => (pq n ps r (deep + 1)).bind fun b r => .ok (.tup [w, a, b]) r)
      (.ok (.tup [w]) r))))))) (.bad r)
theorem wp_takeP (h : s[m]? = some (obP ps r)) : wp (M_Pieces_take [.obj m] s) Q X = (pTake ps r).w (fun d r' => Q d (s.set m (obP ps r'))) (fun r' => X "BadQuery" (s.set m (obP ps r'))) := by
  rw [wp_take h]
  unfold pTake
  cases e : ps[r]? with
  | some d => rfl
  | none =>
    show X "BadQuery" s = X "BadQuery" (s.set m (obP ps r))
    have : s.set m (obP ps r) = s := by
      have hl := (List.getElem?_eq_some_iff.mp h)
      rw [← hl.2, List.set_getElem_self]
    rw [this]
theorem pTake_mem {d : D} {r' : Nat} (h : pTake ps r = .ok d r') : d ∈ ps ∧ r' = r + 1 := by
  unfold pTake at h
  cases e : ps[r]? with
  | some x => rw [e] at h; cases h; exact ⟨List.mem_of_getElem? e, rfl⟩
  | none => rw [e] at h; cases h
theorem wp_quotedP (h : s[m]? = some (obP ps r)) (hw : ∀ w ∈ ps, WOk w) : wp (M_Pieces_quoted [.obj m] s) Q X = (pQuoted ps r).w (fun d r' => Q d (s.set m (obP ps r'))) (fun r' => X "BadQuery" (s.set m (obP ps r'))) := by
  have i1 := (p_ins h).1
  have t1 := fun Q X => wp_takeP (Q := Q) (X := X) h
  have e : M_Pieces_quoted = fnM 1 2 (sSeq (sSet 1 (eMeth "Pieces" "take" M_Pieces_take (eVar 0) aNil)) restQ) := rfl
  rw [e]
  unfold pQuoted
  rw [w_bind]
  walk_at "wp"
  cases p : pTake ps r with
  | no => rfl
  | bad r' => rfl
  | ok d r' =>
    obtain ⟨hd, rfl⟩ := pTake_mem p
    show wp (restQ [some (.obj m), some d] (s.set m (obP ps (r + 1)))) _ X = (ofF (restQ [some (.obj 0), some d] []) (r + 1)).w _ _
    rcases (hw d hd).q (s.set m (obP ps (r + 1))) m with ⟨x, e1, e2⟩ | ⟨e1, e2⟩
    · rw [e1, e2]; rfl
    · rw [e1, e2]; rfl
theorem wp_countedP (h : s[m]? = some (obP ps r)) (hw : ∀ w ∈ ps, WOk w) : wp (M_Pieces_counted [.obj m] s) Q X = (pCounted ps r).w (fun d r' => Q d (s.set m (obP ps r'))) (fun r' => X "BadQuery" (s.set m (obP ps r'))) := by
  have i1 := (p_ins h).1
  have t1 := fun Q X => wp_takeP (Q := Q) (X := X) h
  have e : M_Pieces_counted = fnM 1 3 (sSeq (sSet 1 (eMeth "Pieces" "take" M_Pieces_take (eVar 0) aNil)) restC) := rfl
  rw [e]
  unfold pCounted
  rw [w_bind]
  walk_at "wp"
  cases p : pTake ps r with
  | no => rfl
  | bad r' => rfl
  | ok d r' =>
    obtain ⟨hd, rfl⟩ := pTake_mem p
    show wp (restC [some (.obj m), some d, none] (s.set m (obP ps (r + 1)))) _ X = (ofF (restC [some (.obj 0), some d, none] []) (r + 1)).w _ _
    rcases (hw d hd).c (s.set m (obP ps (r + 1))) m with ⟨x, e1, e2⟩ | ⟨e1, e2⟩
    · rw [e1, e2]; rfl
    · rw [e1, e2]; rfl
end
end K50

set_option Elab.async false
set_option linter.all false
set_option maxRecDepth 100000
set_option maxHeartbeats 2000000
namespace K50
open PySem Mir SX
local macro_rules | `(tactic| walk_at "wp") => `(tactic| simp -dsimp (disch := first | omega | (simp only [List.length_cons, List.length_nil, List.length_append, List.length_map]; omega)) only [*, ↓wp_eAnd, ↓wp_eOr, ↓wp_ch, ↓wp_c, ↓wp_var, ↓wp_e1, ↓wp_e2, ↓wp_eN, ↓wp_cons, ↓wp_nil, ↓wp_call, ↓wp_mt, ↓wp_sl, ↓wp_oNone, ↓wp_oSome, ↓wp_tB1, ↓wp_tNot, ↓wp_tAnd, ↓wp_tOr, ↓wp_eIf, ↓wp_told, ↓wp_next, ↓wp_raise, ↓wp_seq, ↓wp_expr, ↓wp_set, ↓wp_setO, ↓wp_setI, ↓wp_retS, ↓wp_retN, ↓wp_break, ↓wp_cont, ↓wp_if, ↓wp_app, ↓wp_asg, ↓wp_fn, ↓wp_for, ↓wp_iLst, ↓wp_iTpl, ↓wp_iN, ↓wp_iStr, ↓wp_tYes, ↓wp_ret,
  ↓wp_fld, ↓wp_fldSet, ↓wp_meth, ↓wp_new, ↓wp_sto, ↓wp_disp, ↓wp_e2S, ↓wp_eNS, ↓wp_setS, onN_non,
  onO_some, onB_bl, onI_int, onL_lst, onT_tup, onS_str, onE_go, onC_t,
  List.map_cons, List.map_nil, List.length_cons, List.length_nil, List.cons_append, List.nil_append, List.replicate, List.getElem?_cons_zero, List.getElem?_cons_succ, List.set_cons_zero, List.set_cons_succ, wipeD, decide_true, decide_false,
  Option.some.injEq, true_and, and_true, if_true, ite_true, if_false, Bool.false_eq_true, reduceIte, ite_false, Bool.not_true, Bool.not_false, Nat.reduceAdd, Nat.reduceSub, Nat.zero_add, Nat.reduceEqDiff])
section
variable {s : Sto} {m : Nat} {ps : List D} {r : Nat} {Q : D → Sto → Prop} {X : XP}
theorem w_cg {p : PR} {Q Q' : D → Nat → Prop} {X : Nat → Prop} (h : ∀ d r, Q d r = Q' d r) : p.w Q X = p.w Q' X := by
  have e : Q = Q' := funext fun d => funext fun r => h d r
  rw [e]
theorem w_cg2 {p : PR} {Q Q' : D → Nat → Prop} {X X' : Nat → Prop} (h : ∀ d r, Q d r = Q' d r) (h' : ∀ r, X r = X' r) : p.w Q X = p.w Q' X' := by
  have e : Q = Q' := funext fun d => funext fun r => h d r
  have e' : X = X' := funext h'
  rw [e, e']
theorem tst_cg {o : Option D} {a b : PR} {Q : D → Nat → Prop} {X : Nat → Prop} {A B : Prop} (h1 : A = a.w Q X) (h2 : B = b.w Q X) : (onO o fun d => onB d fun v => if v = true then A else B) = (tst o a b).w Q X := by rw [w_tst, h1, h2]
theorem in_tup {x : D} {ys : List D} : inS2 false s x (.tup ys) = inD x (.tup ys) := rfl
theorem mkT1 {a : D} : mkT [a] = some (.tup [a]) := rfl
theorem mkT2 {a b : D} : mkT [a, b] = some (.tup [a, b]) := rfl
theorem mkT3 {a b d : D} : mkT [a, b, d] = some (.tup [a, b, d]) := rfl
theorem wp_queryP : ∀ (n : Nat) {s : Sto} {m : Nat} {ps : List D} {r : Nat} {deep : Int} {Q : D → Sto → Prop} {X : XP}, s[m]? = some (obP ps r) → (∀ w ∈ ps, WOk w) → wp (M_Pieces_query n [.obj m, .int deep] s) Q X = (pq n ps r deep).w (fun d r' => Q d (s.set m (obP ps r'))) (fun r' => X "BadQuery" (s.set m (obP ps r')))
  | 0, s, m, ps, r, deep, Q, X, h, hw => by
    show wp (fnM 2 5 sNo [.obj m, .int deep] s) Q X = False
    exact eq_false fun z => z
  | n + 1, s, m, ps, r, deep, Q, X, h, hw => by
    have hs : ∀ r', (s.set m (obP ps r'))[m]? = some (obP ps r') := fun r' => sto_set h
    have tk0 := fun Q X => wp_takeP (Q := Q) (X := X) h
    have tk : ∀ r' Q X, wp (M_Pieces_take [.obj m] (s.set m (obP ps r'))) Q X = (pTake ps r').w (fun d r'' => Q d (s.set m (obP ps r''))) (fun r'' => X "BadQuery" (s.set m (obP ps r''))) := fun r' Q X => by
      rw [wp_takeP (hs r')]; exact w_cg2 (fun d r => by rw [List.set_set]) (fun r => by rw [List.set_set])
    have qt : ∀ r' Q X, wp (M_Pieces_quoted [.obj m] (s.set m (obP ps r'))) Q X = (pQuoted ps r').w (fun d r'' => Q d (s.set m (obP ps r''))) (fun r'' => X "BadQuery" (s.set m (obP ps r''))) := fun r' Q X => by
      rw [wp_quotedP (hs r') hw]; exact w_cg2 (fun d r => by rw [List.set_set]) (fun r => by rw [List.set_set])
    have ct : ∀ r' Q X, wp (M_Pieces_counted [.obj m] (s.set m (obP ps r'))) Q X = (pCounted ps r').w (fun d r'' => Q d (s.set m (obP ps r''))) (fun r'' => X "BadQuery" (s.set m (obP ps r''))) := fun r' Q X => by
      rw [wp_countedP (hs r') hw]; exact w_cg2 (fun d r => by rw [List.set_set]) (fun r => by rw [List.set_set])
    have ih : ∀ r' (dp : Int) Q X, wp (M_Pieces_query n [.obj m, .int dp] (s.set m (obP ps r'))) Q X = (pq n ps r' dp).w (fun d r'' => Q d (s.set m (obP ps r''))) (fun r'' => X "BadQuery" (s.set m (obP ps r''))) := fun r' dp Q X => by
      rw [wp_queryP n (hs r') hw]; exact w_cg2 (fun d r => by rw [List.set_set]) (fun r => by rw [List.set_set])
    have i0 := (p_ins h).1
    have h0 := h
    have i1 := fun r' => (p_ins (hs r')).1
    have i2 := fun r' => (p_ins (hs r')).2.1
    have i3 := fun r' => (p_ins (hs r')).2.2.1
    have i4 := fun r' => (p_ins (hs r')).2.2.2
    have wn := @wp_needq
    have l1 := @o_ltI
    have l4 := @o_addI
    have l5 := @in_tup
    have k1 := @mkT1
    have k2 := @mkT2
    have k3 := @mkT3
    have e : M_Pieces_query (n + 1) = fnM 2 5 (b_Pieces_query (M_Pieces_query n)) := rfl
    rw [e]
    unfold b_Pieces_query
    clear h hw hs e
    revert h0
    walk_at "wp"
    intro h0
    unfold pq
    rw [w_tst, o_ltI, onO_some, onB_bl, w_bind]
    by_cases hd : decide (deep < 8) = true
    · rw [if_pos hd, if_pos hd]
      refine w_cg fun w r1 => ?_
      walk_at "wp"
      refine tst_cg ?_ ?_
      · walk_at "wp"
        rw [w_bind]
        refine w_cg fun nm r2 => ?_
        walk_at "wp"
        rw [w_bind]
        refine w_cg fun t r3 => ?_
        walk_at "wp"
        rfl
      walk_at "wp"
      refine tst_cg ?_ ?_
      · walk_at "wp"
        rw [w_bind]
        refine w_cg fun t r3 => ?_
        walk_at "wp"
        rfl
      walk_at "wp"
      refine tst_cg ?_ ?_
      · walk_at "wp"
        rw [w_bind]
        refine w_cg fun t r3 => ?_
        walk_at "wp"
        rfl
      walk_at "wp"
      refine tst_cg ?_ ?_
      · walk_at "wp"
        rw [w_bind]
        refine w_cg fun t r3 => ?_
        walk_at "wp"
        rfl
      walk_at "wp"
      refine tst_cg ?_ ?_
      · walk_at "wp"
        rw [w_bind]
        refine w_cg fun t r3 => ?_
        walk_at "wp"
        rfl
      walk_at "wp"
      refine tst_cg ?_ ?_
      · walk_at "wp"
        rw [w_bind]
        refine w_cg fun nm r2 => ?_
        walk_at "wp"
        rw [w_bind]
        refine w_cg fun t r3 => ?_
        walk_at "wp"
        rfl
      walk_at "wp"
      rfl
    · rw [if_neg hd, if_neg hd]
      show X "BadQuery" s = X "BadQuery" (s.set m (obP ps r))
      have : s.set m (obP ps r) = s := by
        have hl := (List.getElem?_eq_some_iff.mp h0)
        rw [← hl.2, List.set_getElem_self]
      rw [this]
end
end K50

set_option Elab.async false
set_option linter.all false
set_option maxRecDepth 100000
set_option maxHeartbeats 2000000
namespace K50
open PySem Mir SX
local macro_rules | `(tactic| walk_at "wp") => `(tactic| simp -dsimp (disch := first | omega | (simp only [List.length_cons, List.length_nil, List.length_append, List.length_map]; omega)) only [*, ↓wp_eAnd, ↓wp_eOr, ↓wp_ch, ↓wp_c, ↓wp_var, ↓wp_e1, ↓wp_e2, ↓wp_eN, ↓wp_cons, ↓wp_nil, ↓wp_call, ↓wp_mt, ↓wp_sl, ↓wp_oNone, ↓wp_oSome, ↓wp_tB1, ↓wp_tNot, ↓wp_tAnd, ↓wp_tOr, ↓wp_eIf, ↓wp_told, ↓wp_next, ↓wp_raise, ↓wp_seq, ↓wp_expr, ↓wp_set, ↓wp_setO, ↓wp_setI, ↓wp_retS, ↓wp_retN, ↓wp_break, ↓wp_cont, ↓wp_if, ↓wp_app, ↓wp_asg, ↓wp_fn, ↓wp_for, ↓wp_iLst, ↓wp_iTpl, ↓wp_iN, ↓wp_iStr, ↓wp_tYes, ↓wp_ret,
  ↓wp_fld, ↓wp_fldSet, ↓wp_meth, ↓wp_new, ↓wp_sto, ↓wp_disp, ↓wp_e2S, ↓wp_eNS, ↓wp_setS, onN_non,
  onO_some, onB_bl, onI_int, onL_lst, onT_tup, onS_str, onE_go, onC_t,
  List.map_cons, List.map_nil, List.length_cons, List.length_nil, List.cons_append, List.nil_append, List.replicate, List.getElem?_cons_zero, List.getElem?_cons_succ, List.set_cons_zero, List.set_cons_succ, wipeD, decide_true, decide_false,
  Option.some.injEq, true_and, and_true, if_true, ite_true, if_false, Bool.false_eq_true, reduceIte, ite_false, Bool.not_true, Bool.not_false, Nat.reduceAdd, Nat.reduceSub, Nat.zero_add, Nat.reduceEqDiff])
section
variable {s : Sto} {Q : D → Sto → Prop} {X : XP}
theorem wp_initP {ps : List D} : wp (M_Pieces___init__ [.obj s.length, .lst ps] (s ++ [.ins "Pieces" []])) Q X = Q .non (s ++ [obP ps 0]) := by
  have h0 : (s ++ [Ob.ins "Pieces" []])[s.length]? = some (.ins "Pieces" []) := sto_new
  have f1 : setFld ["Pieces"] "pieces" (.lst ps) (s ++ [.ins "Pieces" []]) (.obj s.length) = some (s ++ [.ins "Pieces" [("pieces", .lst ps)]]) := by
    rw [setFld_at h0 (by decide) (by decide), sto_setNew]
    rfl
  have h1 : (s ++ [Ob.ins "Pieces" [("pieces", .lst ps)]])[s.length]? = some (.ins "Pieces" [("pieces", .lst ps)]) := sto_new
  have f2 : setFld ["Pieces"] "reached" (.int 0) (s ++ [.ins "Pieces" [("pieces", .lst ps)]]) (.obj s.length) = some (s ++ [obP ps 0]) := by
    rw [setFld_at h1 (by decide) (by simp), sto_setNew]
    have e : putFD "reached" (.int 0) ([("pieces", .lst ps)] : List (Str × D)) = ([("pieces", .lst ps), ("reached", .int 0)] : List (Str × D)) := by kernel_rfl
    rw [e]
    rfl
  clear h0 h1
  unfold M_Pieces___init__ b_Pieces___init__
  walk_at "wp"
theorem o_eqN (i j : Nat) : eqD (.int i) (.int j) = some (.bl (decide (i = j))) := by
  show some (D.bl (decide (L2.V.int (i : Int) = L2.V.int (j : Int)))) = _
  congr 2
  exact decide_eq_decide.mpr ⟨fun h => by have := L2.V.int.inj h; omega, fun h => by rw [h]⟩
theorem read_q {t : D} {ps : List D} (hp : ∀ s, M_pieces_of [t] s = .ok (.lst ps) s) (hw : ∀ w ∈ ps, WOk w) : wp (M_read_query [t] s) Q X = (pq 10 ps 0 0).w (fun d r' => if r' = ps.length then wp (M_need_query [d] (s ++ [obP ps r'])) (fun _ s' => Q d s') X else X "BadQuery" (s ++ [obP ps r'])) (fun r' => X "BadQuery" (s ++ [obP ps r'])) := by
  have k1 : ∀ s Q X, wp (M_pieces_of [t] s) Q X = Q (.lst ps) s := fun s Q X => by rw [hp s]; rfl
  have k2 := fun s Q X => wp_initP (s := s) (Q := Q) (X := X) (ps := ps)
  have h0 : (s ++ [obP ps 0])[s.length]? = some (obP ps 0) := sto_new
  have k3 := fun Q X => wp_queryP 10 (deep := 0) (Q := Q) (X := X) h0 hw
  have i4 := (p_ins h0).2.2.2
  have hs : ∀ r', (s ++ [obP ps r'])[s.length]? = some (obP ps r') := fun r' => sto_new
  have wn := @wp_needq
  clear h0 hw hp
  unfold M_read_query b_read_query
  walk_at "wp"
  refine w_cg2 (fun d r' => ?_) (fun r' => by rw [sto_setNew])
  rw [sto_setNew]
  have f1 := p_reached (hs r')
  have f2 := p_pieces (hs r')
  have f3 := @lenS_l
  have f4 := o_eqN r' ps.length
  clear hs
  walk_at "wp"
  by_cases h : r' = ps.length
  · rw [if_pos (decide_eq_true h), if_pos h]
    refine wp_cg fun x s' => ?_
    walk_at "wp"
  · rw [if_neg (by simpa using h), if_neg h]
end
end K50

set_option Elab.async false
set_option linter.all false
set_option maxRecDepth 100000
set_option maxHeartbeats 2000000
namespace K50
open PySem Mir SX
local macro_rules | `(tactic| walk_at "wp") => `(tactic| simp -dsimp (disch := first | omega | (simp only [List.length_cons, List.length_nil, List.length_append, List.length_map]; omega)) only [*, ↓wp_eAnd, ↓wp_eOr, ↓wp_ch, ↓wp_c, ↓wp_var, ↓wp_e1, ↓wp_e2, ↓wp_eN, ↓wp_cons, ↓wp_nil, ↓wp_call, ↓wp_mt, ↓wp_sl, ↓wp_oNone, ↓wp_oSome, ↓wp_tB1, ↓wp_tNot, ↓wp_tAnd, ↓wp_tOr, ↓wp_eIf, ↓wp_told, ↓wp_next, ↓wp_raise, ↓wp_seq, ↓wp_expr, ↓wp_set, ↓wp_setO, ↓wp_setI, ↓wp_retS, ↓wp_retN, ↓wp_break, ↓wp_cont, ↓wp_if, ↓wp_app, ↓wp_asg, ↓wp_fn, ↓wp_for, ↓wp_iLst, ↓wp_iTpl, ↓wp_iN, ↓wp_iStr, ↓wp_tYes, ↓wp_ret,
  ↓wp_fld, ↓wp_fldSet, ↓wp_meth, ↓wp_new, ↓wp_sto, ↓wp_disp, ↓wp_e2S, ↓wp_eNS, ↓wp_setS, onN_non,
  onO_some, onB_bl, onI_int, onL_lst, onT_tup, onS_str, onE_go, onC_t,
  List.map_cons, List.map_nil, List.length_cons, List.length_nil, List.cons_append, List.nil_append, List.replicate, List.getElem?_cons_zero, List.getElem?_cons_succ, List.set_cons_zero, List.set_cons_succ, wipeD, decide_true, decide_false,
  Option.some.injEq, true_and, and_true, if_true, ite_true, if_false, Bool.false_eq_true, reduceIte, ite_false, Bool.not_true, Bool.not_false, Nat.reduceAdd, Nat.reduceSub, Nat.zero_add, Nat.reduceEqDiff])
theorem f_all : (eqD (.str "all") (.str "mark") = some (.bl false) ∧ eqD (.str "all") (.str "head") = some (.bl false) ∧ eqD (.str "all") (.str "body") = some (.bl false) ∧ eqD (.str "all") (.str "numbers") = some (.bl false) ∧ eqD (.str "all") (.str "newer") = some (.bl false) ∧ eqD (.str "all") (.str "not") = some (.bl false)) ∧ inT tb_LENGTHS (.str "all") = some (.bl true) ∧ ixT tb_LENGTHS (.str "all") = some (.int 1) ∧ (∀ s, inS2 false s (.str "all") (.tup [.str "not", .str "or", .str "and"]) = some (.bl false)) ∧ inD (.str "all") (.tup [.str "mark", .str "numbers"]) = some (.bl false) ∧ inD (.str "all") (.tup [.str "or", .str "and"]) = some (.bl false) := by refine ⟨⟨?_, ?_, ?_, ?_, ?_, ?_⟩, ?_, ?_, fun s => ?_, ?_, ?_⟩ <;> kernel_rfl
theorem f_mark : (eqD (.str "mark") (.str "mark") = some (.bl true) ∧ eqD (.str "mark") (.str "head") = some (.bl false) ∧ eqD (.str "mark") (.str "body") = some (.bl false) ∧ eqD (.str "mark") (.str "numbers") = some (.bl false) ∧ eqD (.str "mark") (.str "newer") = some (.bl false) ∧ eqD (.str "mark") (.str "not") = some (.bl false)) ∧ inT tb_LENGTHS (.str "mark") = some (.bl true) ∧ ixT tb_LENGTHS (.str "mark") = some (.int 2) ∧ (∀ s, inS2 false s (.str "mark") (.tup [.str "not", .str "or", .str "and"]) = some (.bl false)) ∧ inD (.str "mark") (.tup [.str "mark", .str "numbers"]) = some (.bl true) ∧ inD (.str "mark") (.tup [.str "or", .str "and"]) = some (.bl false) := by refine ⟨⟨?_, ?_, ?_, ?_, ?_, ?_⟩, ?_, ?_, fun s => ?_, ?_, ?_⟩ <;> kernel_rfl
theorem f_head : (eqD (.str "head") (.str "mark") = some (.bl false) ∧ eqD (.str "head") (.str "head") = some (.bl true) ∧ eqD (.str "head") (.str "body") = some (.bl false) ∧ eqD (.str "head") (.str "numbers") = some (.bl false) ∧ eqD (.str "head") (.str "newer") = some (.bl false) ∧ eqD (.str "head") (.str "not") = some (.bl false)) ∧ inT tb_LENGTHS (.str "head") = some (.bl true) ∧ ixT tb_LENGTHS (.str "head") = some (.int 3) ∧ (∀ s, inS2 false s (.str "head") (.tup [.str "not", .str "or", .str "and"]) = some (.bl false)) ∧ inD (.str "head") (.tup [.str "mark", .str "numbers"]) = some (.bl false) ∧ inD (.str "head") (.tup [.str "or", .str "and"]) = some (.bl false) := by refine ⟨⟨?_, ?_, ?_, ?_, ?_, ?_⟩, ?_, ?_, fun s => ?_, ?_, ?_⟩ <;> kernel_rfl
theorem f_body : (eqD (.str "body") (.str "mark") = some (.bl false) ∧ eqD (.str "body") (.str "head") = some (.bl false) ∧ eqD (.str "body") (.str "body") = some (.bl true) ∧ eqD (.str "body") (.str "numbers") = some (.bl false) ∧ eqD (.str "body") (.str "newer") = some (.bl false) ∧ eqD (.str "body") (.str "not") = some (.bl false)) ∧ inT tb_LENGTHS (.str "body") = some (.bl true) ∧ ixT tb_LENGTHS (.str "body") = some (.int 2) ∧ (∀ s, inS2 false s (.str "body") (.tup [.str "not", .str "or", .str "and"]) = some (.bl false)) ∧ inD (.str "body") (.tup [.str "mark", .str "numbers"]) = some (.bl false) ∧ inD (.str "body") (.tup [.str "or", .str "and"]) = some (.bl false) := by refine ⟨⟨?_, ?_, ?_, ?_, ?_, ?_⟩, ?_, ?_, fun s => ?_, ?_, ?_⟩ <;> kernel_rfl
theorem f_numbers : (eqD (.str "numbers") (.str "mark") = some (.bl false) ∧ eqD (.str "numbers") (.str "head") = some (.bl false) ∧ eqD (.str "numbers") (.str "body") = some (.bl false) ∧ eqD (.str "numbers") (.str "numbers") = some (.bl true) ∧ eqD (.str "numbers") (.str "newer") = some (.bl false) ∧ eqD (.str "numbers") (.str "not") = some (.bl false)) ∧ inT tb_LENGTHS (.str "numbers") = some (.bl true) ∧ ixT tb_LENGTHS (.str "numbers") = some (.int 2) ∧ (∀ s, inS2 false s (.str "numbers") (.tup [.str "not", .str "or", .str "and"]) = some (.bl false)) ∧ inD (.str "numbers") (.tup [.str "mark", .str "numbers"]) = some (.bl true) ∧ inD (.str "numbers") (.tup [.str "or", .str "and"]) = some (.bl false) := by refine ⟨⟨?_, ?_, ?_, ?_, ?_, ?_⟩, ?_, ?_, fun s => ?_, ?_, ?_⟩ <;> kernel_rfl
theorem f_newer : (eqD (.str "newer") (.str "mark") = some (.bl false) ∧ eqD (.str "newer") (.str "head") = some (.bl false) ∧ eqD (.str "newer") (.str "body") = some (.bl false) ∧ eqD (.str "newer") (.str "numbers") = some (.bl false) ∧ eqD (.str "newer") (.str "newer") = some (.bl true) ∧ eqD (.str "newer") (.str "not") = some (.bl false)) ∧ inT tb_LENGTHS (.str "newer") = some (.bl true) ∧ ixT tb_LENGTHS (.str "newer") = some (.int 2) ∧ (∀ s, inS2 false s (.str "newer") (.tup [.str "not", .str "or", .str "and"]) = some (.bl false)) ∧ inD (.str "newer") (.tup [.str "mark", .str "numbers"]) = some (.bl false) ∧ inD (.str "newer") (.tup [.str "or", .str "and"]) = some (.bl false) := by refine ⟨⟨?_, ?_, ?_, ?_, ?_, ?_⟩, ?_, ?_, fun s => ?_, ?_, ?_⟩ <;> kernel_rfl
theorem f_not : (eqD (.str "not") (.str "mark") = some (.bl false) ∧ eqD (.str "not") (.str "head") = some (.bl false) ∧ eqD (.str "not") (.str "body") = some (.bl false) ∧ eqD (.str "not") (.str "numbers") = some (.bl false) ∧ eqD (.str "not") (.str "newer") = some (.bl false) ∧ eqD (.str "not") (.str "not") = some (.bl true)) ∧ inT tb_LENGTHS (.str "not") = some (.bl true) ∧ ixT tb_LENGTHS (.str "not") = some (.int 2) ∧ (∀ s, inS2 false s (.str "not") (.tup [.str "not", .str "or", .str "and"]) = some (.bl true)) ∧ inD (.str "not") (.tup [.str "mark", .str "numbers"]) = some (.bl false) ∧ inD (.str "not") (.tup [.str "or", .str "and"]) = some (.bl false) := by refine ⟨⟨?_, ?_, ?_, ?_, ?_, ?_⟩, ?_, ?_, fun s => ?_, ?_, ?_⟩ <;> kernel_rfl
theorem f_or : (eqD (.str "or") (.str "mark") = some (.bl false) ∧ eqD (.str "or") (.str "head") = some (.bl false) ∧ eqD (.str "or") (.str "body") = some (.bl false) ∧ eqD (.str "or") (.str "numbers") = some (.bl false) ∧ eqD (.str "or") (.str "newer") = some (.bl false) ∧ eqD (.str "or") (.str "not") = some (.bl false)) ∧ inT tb_LENGTHS (.str "or") = some (.bl true) ∧ ixT tb_LENGTHS (.str "or") = some (.int 3) ∧ (∀ s, inS2 false s (.str "or") (.tup [.str "not", .str "or", .str "and"]) = some (.bl true)) ∧ inD (.str "or") (.tup [.str "mark", .str "numbers"]) = some (.bl false) ∧ inD (.str "or") (.tup [.str "or", .str "and"]) = some (.bl true) := by refine ⟨⟨?_, ?_, ?_, ?_, ?_, ?_⟩, ?_, ?_, fun s => ?_, ?_, ?_⟩ <;> kernel_rfl
theorem f_and : (eqD (.str "and") (.str "mark") = some (.bl false) ∧ eqD (.str "and") (.str "head") = some (.bl false) ∧ eqD (.str "and") (.str "body") = some (.bl false) ∧ eqD (.str "and") (.str "numbers") = some (.bl false) ∧ eqD (.str "and") (.str "newer") = some (.bl false) ∧ eqD (.str "and") (.str "not") = some (.bl false)) ∧ inT tb_LENGTHS (.str "and") = some (.bl true) ∧ ixT tb_LENGTHS (.str "and") = some (.int 3) ∧ (∀ s, inS2 false s (.str "and") (.tup [.str "not", .str "or", .str "and"]) = some (.bl true)) ∧ inD (.str "and") (.tup [.str "mark", .str "numbers"]) = some (.bl false) ∧ inD (.str "and") (.tup [.str "or", .str "and"]) = some (.bl true) := by refine ⟨⟨?_, ?_, ?_, ?_, ?_, ?_⟩, ?_, ?_, fun s => ?_, ?_, ?_⟩ <;> kernel_rfl

/-! ### queries -/
abbrev Wd := List Nat
inductive Lf where
  | all
  | mark (m : Wd)
  | head (n t : Wd)
  | body (t : Wd)
  | numbers (t : Wd)
  | newer (n : Nat)
inductive Qy where
  | leaf (l : Lf)
  | not (q : Qy)
  | bin (o : Bool) (a b : Qy)
def Lf.d : Lf → D
  | .all => .tup [.str "all"]
  | .mark m => .tup [.str "mark", .str (S m)]
  | .head n t => .tup [.str "head", .str (S n), .str (S t)]
  | .body t => .tup [.str "body", .str (S t)]
  | .numbers t => .tup [.str "numbers", .str (S t)]
  | .newer n => .tup [.str "newer", .int n]
def Qy.d : Qy → D
  | .leaf l => l.d
  | .not q => .tup [.str "not", q.d]
  | .bin true a b => .tup [.str "and", a.d, b.d]
  | .bin false a b => .tup [.str "or", a.d, b.d]
def Qy.dp : Qy → Nat
  | .leaf _ => 1
  | .not q => q.dp + 1
  | .bin _ a b => max a.dp b.dp + 1
def LowW (k : Nat) (m : Wd) : Prop := (1 ≤ m.length ∧ m.length ≤ k) ∧ ∀ c ∈ m, 97 ≤ c ∧ c ≤ 122
def TxtW (t : Wd) : Prop := t.length ≤ 20 ∧ ∀ c ∈ t, 32 ≤ c ∧ c ≤ 126 ∧ c ≠ 37 ∧ c ≠ 34
def NUMS : List Wd := [[49, 58, 51], [42], [50, 44, 53], [57, 58, 42], [55, 58, 50], [49], [51, 58, 42, 44, 49], [57, 57, 57, 57, 58, 42], [49, 44, 50, 58, 51, 44, 42, 58, 52]]
def Lf.ok : Lf → Prop
  | .all => True
  | .mark m => LowW 10 m
  | .head n t => LowW 12 n ∧ TxtW t
  | .body t => TxtW t
  | .numbers t => t ∈ NUMS
  | .newer n => n ≤ 9999
def Qy.ok : Qy → Prop
  | .leaf l => l.ok
  | .not q => q.ok
  | .bin _ a b => a.ok ∧ b.ok
/-! ### small facts -/
theorem vf_wp {F : FD} {ds : List D} {d : D} (h : VF F ds d) : ∀ s Q X, wp (F ds s) Q X = Q d s := fun s Q X => by rw [h s]; rfl
theorem vf_of {F : FD} {ds : List D} {d : D} (h : ∀ s, wp (F ds s) (fun a s' => a = d ∧ s' = s) (fun _ _ => False)) : VF F ds d := fun s => by
  have := h s
  cases e : F ds s with
  | ok a s' => rw [e] at this; obtain ⟨rfl, rfl⟩ := this; rfl
  | exc c s' => rw [e] at this; exact this.elim
  | no => rw [e] at this; exact this.elim
theorem isiT (xs : List D) : isiD "tuple" (.tup xs) = some (.bl true) := by kernel_rfl
theorem isiS (x : Str) : isiD "str" (.str x) = some (.bl true) := by kernel_rfl
theorem isiI (i : Int) : isiD "int" (.int i) = some (.bl true) := by kernel_rfl
theorem isiB (i : Int) : isiD "bool" (.int i) = some (.bl false) := by kernel_rfl
theorem len1T (s : Sto) (a : D) : lenS s [.tup [a]] = some (.int 1) := by kernel_rfl
theorem len2T (s : Sto) (a b : D) : lenS s [.tup [a, b]] = some (.int 2) := by kernel_rfl
theorem len3T (s : Sto) (a b c : D) : lenS s [.tup [a, b, c]] = some (.int 3) := by kernel_rfl
theorem gt1 : gtI (.int 1) (.int 0) = some (.bl true) := by kernel_rfl
theorem gt2 : gtI (.int 2) (.int 0) = some (.bl true) := by kernel_rfl
theorem gt3 : gtI (.int 3) (.int 0) = some (.bl true) := by kernel_rfl
theorem eq1 : eqD (.int 1) (.int 1) = some (.bl true) := by kernel_rfl
theorem eq2 : eqD (.int 2) (.int 2) = some (.bl true) := by kernel_rfl
theorem eq3 : eqD (.int 3) (.int 3) = some (.bl true) := by kernel_rfl
theorem ix10 (s : Sto) (a : D) : ixS s (.tup [a]) (.int 0) = some a := by kernel_rfl
theorem ix20 (s : Sto) (a b : D) : ixS s (.tup [a, b]) (.int 0) = some a := by kernel_rfl
theorem ix21 (s : Sto) (a b : D) : ixS s (.tup [a, b]) (.int 1) = some b := by kernel_rfl
theorem ix30 (s : Sto) (a b c : D) : ixS s (.tup [a, b, c]) (.int 0) = some a := by kernel_rfl
theorem ix31 (s : Sto) (a b c : D) : ixS s (.tup [a, b, c]) (.int 1) = some b := by kernel_rfl
theorem ix32 (s : Sto) (a b c : D) : ixS s (.tup [a, b, c]) (.int 2) = some c := by kernel_rfl
theorem sl1 (a : D) : slD (.tup [a]) (some 1) none = some (.tup []) := by kernel_rfl
theorem sl2 (a b : D) : slD (.tup [a, b]) (some 1) none = some (.tup [b]) := by kernel_rfl
theorem sl3 (a b c : D) : slD (.tup [a, b, c]) (some 1) none = some (.tup [b, c]) := by kernel_rfl
theorem notF : notD (.bl false) = some (.bl true) := by kernel_rfl
theorem o_leI (i j : Int) : leD (.int i) (.int j) = some (.bl (decide (i ≤ j))) := rfl

theorem V1.ch' {op op' : D → D → Option D} {a b e : ED} {τ : Ev} {x y z d : D} (h1 : V1 a τ x) (h2 : V1 b τ y) (h3 : op x y = some (.bl true)) (h4 : V1 e τ z) (h5 : op' y z = some d) : V1 (eCh op op' a b e) τ d := fun s => by
  unfold eCh; rw [h1 s]; show (b τ s).bind _ = _; rw [h2 s]
  show (M.opt (op x y) s).bind _ = _
  rw [h3]
  show (e τ s).bind _ = _
  rw [h4 s]
  show M.opt (op' y z) s = _
  rw [h5]; rfl
theorem o_all {α : Type} (l : List α) (p : α → Bool) : allD [.lst (l.map fun c => D.bl (p c))] = some (.bl (l.all p)) := by
  have e : bls (l.map fun c => D.bl (p c)) = some (l.map p) := by
    induction l with
    | nil => rfl
    | cons c l ih =>
      show (bls (l.map fun c => D.bl (p c))).map (p c :: ·) = _
      rw [ih]; rfl
  show (bls (l.map fun c => D.bl (p c))).map (fun bs => D.bl (bs.all id)) = _
  rw [e]
  show some (D.bl ((l.map p).all id)) = _
  rw [List.all_map]
  rfl
theorem V1.e2S {op : Sto → D → D → Option D} {a b : ED} {τ : Ev} {x y d : D} (h : V1 a τ x) (k : V1 b τ y) (e : ∀ s, op s x y = some d) : V1 (Mir.e2S op a b) τ d := fun s => by
  unfold Mir.e2S; rw [h s]; show (b τ s).bind _ = _; rw [k s]; show M.opt (op s x y) s = _; rw [e s]; rfl
theorem V1.eNS {op : Sto → List D → Option D} {fs : AD} {τ : Ev} {xs : List D} {d : D} (h : VA fs τ xs) (e : ∀ s, op s xs = some d) : V1 (Mir.eNS op fs) τ d := fun s => by
  unfold Mir.eNS; rw [h s]; show M.opt (op s xs) s = _; rw [e s]; rfl
theorem lenS_s {l : Wd} (hz : l.length ≤ 16777216) (s : Sto) : lenS s [.str (S l)] = some (.int l.length) := by
  have h := o_len hz
  unfold lenS orS
  simp only [h]
theorem v_need : VF M_need_queries [.bl true] .non := VF.mkN rfl (VS.ifF (VT.not (v := true) (VT.v (V1.var rfl))) VS.next)
theorem v_signs {l : List Nat} (g : ∀ c ∈ l, 32 ≤ c ∧ c ≤ 126 ∧ c ≠ 37 ∧ c ≠ 34) (hz : l.length ≤ 1000) : VF M_are_signs [.str (S l)] (.bl true) := by
  refine VF.mk rfl (VS.ret (V1.eN (VA.one (V1.lc0M (τ := [some (.str (S l)), none]) (fun d => .bl true) (VA.str (V1.var rfl)) (small_of (by rw [List.length_map]; show l.length ≤ _; omega)) fun d hd => ?_)) ?_))
  · obtain ⟨c, hc, rfl⟩ := List.mem_map.mp hd
    obtain ⟨h1, h2, h3, _⟩ := g c hc
    refine ⟨_, rfl, V1.andT (V1.ch' (x := .str (S [32])) (y := .str (S [c])) (z := .str (S [126])) V1.c (V1.var rfl) (o_le1.trans (by rw [decide_eq_true h1])) V1.c (o_le1.trans (by rw [decide_eq_true h2]))) (V1.e2 (x := .int c) (V1.eN (VA.one (V1.var rfl)) rfl) V1.c ?_)⟩
    show some (D.bl (!decide (L2.V.int (c : Int) = L2.V.int 37))) = _
    rw [decide_eq_false (fun h => h3 (by have := L2.V.int.inj h; omega))]
    rfl
  · rw [List.map_map]
    have := o_all ((S l).cps.toList) (fun _ => true)
    refine this.trans ?_
    simp
def abc : List Nat := [97, 98, 99, 100, 101, 102, 103, 104, 105, 106, 107, 108, 109, 110, 111, 112, 113, 114, 115, 116, 117, 118, 119, 120, 121, 122]
theorem abc_mem {c : Nat} (h1 : 97 ≤ c) (h2 : c ≤ 122) : c ∈ abc := by
  have : c = 97 + (c - 97) := by omega
  have h : c - 97 < 26 := by omega
  have key : ∀ k < 26, 97 + k ∈ abc := by decide
  rw [this]
  exact key _ h
theorem in_S {s : Sto} {c : Nat} {l : Wd} : inS2 false s (.str (S [c])) (.str (S l)) = some (.bl (decide (c ∈ l))) := o_in1
theorem notIn_S {s : Sto} {c : Nat} {l : Wd} : inS2 true s (.str (S [c])) (.str (S l)) = some (.bl (!decide (c ∈ l))) := by
  have e : notInS (.str (S [c])) (.str (S l)) = some (.bl (!decide (c ∈ l))) := by
    show some (D.bl (!(!(Builtin.Str.occurrences (S l) (S [c]) 0 (S l).length 1).isEmpty))) = _
    rw [in_one]
  show notInD (.str (S [c])) (.str (S l)) = _
  unfold notInD orO
  rw [e]
theorem v_isw {k : Nat} {nm : Wd} (h : LowW k nm) (hk : k ≤ 1000) : VF M_is_word [.str (S nm), .int k] (.bl true) := by
  obtain ⟨⟨h1, h2⟩, h3⟩ := h
  refine VF.mk rfl (VS.ret (V1.andT (V1.e1 (V1.var rfl) rfl) (V1.andT (V1.ch' (x := .int 1) (y := .int nm.length) (z := .int k) V1.c (V1.eNS (VA.one (V1.var rfl)) (lenS_s (by omega))) ?_ (V1.var rfl) ?_) (V1.eN (VA.one (V1.lc0M (τ := [some (.str (S nm)), some (.int k), none]) (fun d => .bl true) (VA.str (V1.var rfl)) (small_of (by rw [List.length_map]; show nm.length ≤ _; omega)) fun d hd => ?_)) ?_))))
  · show some (D.bl (decide ((1 : Int) ≤ nm.length))) = _
    rw [decide_eq_true (by omega)]
  · show some (D.bl (decide ((nm.length : Int) ≤ k))) = _
    rw [decide_eq_true (by omega)]
  · obtain ⟨c, hc, rfl⟩ := List.mem_map.mp hd
    obtain ⟨k1, k2⟩ := h3 c hc
    exact ⟨_, rfl, V1.e2S (x := .str (S [c])) (y := .str (S abc)) (V1.var rfl) V1.c fun s => in_S.trans (by rw [decide_eq_true (abc_mem k1 k2)])⟩
  · rw [List.map_map]
    refine (o_all ((S nm).cps.toList) (fun _ => true)).trans ?_
    simp
theorem v_isText {t : Wd} (h : TxtW t) : VF M_is_text [.str (S t)] (.bl true) := by
  refine VF.mk rfl (VS.ret (V1.andT (V1.e1 (V1.var rfl) rfl) (V1.andT (V1.e2 (x := .int t.length) (V1.eNS (VA.one (V1.var rfl)) (lenS_s (by have := h.1; omega))) V1.c ?_) (V1.andT (V1.call (VA.one (V1.var rfl)) (v_signs h.2 (by have := h.1; omega))) (V1.e2S (x := .str (S [34])) (y := .str (S t)) V1.c (V1.var rfl) fun s => notIn_S.trans ?_)))))
  · show some (D.bl (decide ((t.length : Int) ≤ 20))) = _
    rw [decide_eq_true (by have := h.1; omega)]
  · rw [decide_eq_false (fun hm => (h.2 34 hm).2.2.2 rfl)]
    rfl
def runsE : ED := (eIf (tB1 (e2 neD (eVar 0) (eC (.str "")))) (eLc (iLst (eMt "str" splitD (eVar 0) (aCons (eC (.str ",")) aNil))) (gNm 7) tYesD (eCall M_ends_of (aCons (eVar 7) (aCons (eVar 1) aNil))) [7]) (eN mkL aNil))
def runsF : SD := (sFor (iLst (eVar 2)) (gTp 2 (gsCons (gNm 4) (gsCons (gNm 5) gsNil))) (sFor (iN range2D (aCons (eN maxD (aCons (eC (.int 1)) (aCons (eVar 4) aNil))) (aCons (e2 addDT (eN minD (aCons (eVar 5) (aCons (eVar 1) aNil))) (eC (.int 1))) aNil))) (gNm 6) (sSetS (eVar 3) (eVar 6) (eC (.bl true)))))
def lstOf (r : R D) : List D := match r with | .ok (.lst xs) _ => xs | _ => []
def runsOf (t : Wd) : List D := lstOf (runsE [some (.str (S t)), some (.int 0), none, none, none, none, none, none] [])
theorem runs_e {t : Wd} (h : t ∈ NUMS) (s : Sto) : runsE [some (.str (S t)), some (.int 0), none, none, none, none, none, none] s = .ok (.lst (runsOf t)) s := by
  have k : NUMS.map (fun t => runsE [some (.str (S t)), some (.int 0), none, none, none, none, none, none] s) = NUMS.map (fun t => .ok (.lst (runsOf t)) s) := by kernel_rfl
  exact List.map_inj_left.mp k t h
def okL (r : R Fl) (m : Nat) (s' : Sto) : Prop := match r with | .ok (.nx (_ :: _ :: _ :: x :: _)) s'' => x = some (.obj m) ∧ s'' = s' | _ => False
theorem runs_f {t : Wd} (h : t ∈ NUMS) (s : Sto) (m : Nat) : okL (runsF [some (.str (S t)), some (.int 0), some (.lst (runsOf t)), some (.obj m), none, none, none, none] s) m s := by
  have k : NUMS.map (fun t => okL (runsF [some (.str (S t)), some (.int 0), some (.lst (runsOf t)), some (.obj m), none, none, none, none] s) m s) = NUMS.map (fun t => (some (D.obj m) = some (.obj m) ∧ s = s)) := by kernel_rfl
  have := List.map_inj_left.mp k t h
  rw [this]
  exact ⟨rfl, rfl⟩
theorem set_of_ok {t : Wd} (h : t ∈ NUMS) (s : Sto) : M_set_of [.str (S t), .int 0] s = .ok (.lst []) (s ++ [.dct []]) := by
  have e : M_set_of = fnM 2 8 (sSeq (sSet 2 runsE) (sSeq (sSet 3 (eSto (eC (.dct [])))) (sSeq runsF (sRet (eNS sortDI (aCons (eVar 3) aNil)))))) := rfl
  have hr := runs_e h s
  have hf := runs_f h (s ++ [.dct []]) s.length
  rw [e]
  show R.bind ((sSeq (sSet 2 runsE) (sSeq (sSet 3 (eSto (eC (.dct [])))) (sSeq runsF (sRet (eNS sortDI (aCons (eVar 3) aNil)))))) [some (.str (S t)), some (.int 0), none, none, none, none, none, none] s) _ = _
  unfold sSeq sSet
  rw [hr]
  show R.bind (R.bind (runsF [some (.str (S t)), some (.int 0), some (.lst (runsOf t)), some (.obj s.length), none, none, none, none] (s ++ [.dct []])) _) _ = _
  cases z : runsF [some (.str (S t)), some (.int 0), some (.lst (runsOf t)), some (.obj s.length), none, none, none, none] (s ++ [.dct []]) with
  | exc c s2 => rw [z] at hf; exact hf.elim
  | no => rw [z] at hf; exact hf.elim
  | ok fl s2 =>
    rw [z] at hf
    unfold okL at hf
    split at hf
    · rename_i a b c x l s3 he
      cases he
      obtain ⟨rfl, rfl⟩ := hf
      show R.bind (R.bind ((M.opt (sortDI (s ++ [.dct []]) [.obj s.length])) (s ++ [.dct []])) _) _ = _
      have : sortDI (s ++ [.dct []]) [.obj s.length] = some (.lst []) := by
        show (dctAt (s ++ [.dct []]) (.obj s.length)).bind _ = _
        have e : dctAt (s ++ [.dct []]) (.obj s.length) = some [] := by
          show (match (s ++ [Ob.dct []])[s.length]? with | some (.dct kvs) => some kvs | some (.lck kvs) => some kvs | _ => none) = _
          rw [sto_new]
        rw [e]; rfl
      rw [this]; rfl
    · exact hf.elim
theorem isSet_ok {t : Wd} (h : t ∈ NUMS) (s : Sto) : M_is_set [.str (S t)] s = .ok (.bl true) (s ++ [.dct []]) := by
  have h1 := set_of_ok h s
  have h2 : eqD (.str (S t)) (.str "") = some (.bl false) := by
    have k : NUMS.map (fun t => eqD (.str (S t)) (.str "")) = NUMS.map (fun t => some (.bl false)) := by kernel_rfl
    exact List.map_inj_left.mp k t h
  have w1 : ∀ Q X, wp (sTryC M_set_of (aCons (eVar 0) (aCons (eC (.int 0)) aNil)) "BadSet" (sSet 1 (eC (.bl false))) [some (.str (S t)), some (.bl true)] s) Q X = Q (.nx [some (.str (S t)), some (.bl true)]) (s ++ [.dct []]) := fun Q X => by
    unfold sTryC
    show wp (match M_set_of [.str (S t), .int 0] s with
      | .ok _ s2 => .ok (.nx [some (.str (S t)), some (.bl true)]) s2
      | .exc cl' s2 => _
      | .no => .no) Q X = _
    rw [h1]; rfl
  have i1 := isiS (S t)
  have key : wp (M_is_set [.str (S t)] s) (fun a s' => a = .bl true ∧ s' = s ++ [.dct []]) (fun _ _ => False) := by
    clear h1 h
    unfold M_is_set b_is_set
    walk_at "wp"
  cases e : M_is_set [.str (S t)] s with
  | ok a s' => rw [e] at key; obtain ⟨rfl, rfl⟩ := key; rfl
  | exc c s' => rw [e] at key; exact key.elim
  | no => rw [e] at key; exact key.elim
theorem v_isStep {n : Nat} (h : n ≤ 9999) : VF M_is_step [.int n] (.bl true) := by
  refine VF.mk rfl (VS.ret (V1.andT (V1.e1 (V1.var rfl) (isiI _)) (V1.andT (V1.e1 (V1.e1 (V1.var rfl) (isiB _)) notF) (V1.ch' (x := .int 0) (y := .int n) (z := .int 9999) V1.c (V1.var rfl) ?_ V1.c ?_))))
  · show some (D.bl (decide ((0 : Int) ≤ n))) = _
    rw [decide_eq_true (by omega)]
  · show some (D.bl (decide ((n : Int) ≤ 9999))) = _
    rw [decide_eq_true (by omega)]
end K50

set_option Elab.async false
set_option linter.all false
set_option maxRecDepth 100000
set_option maxHeartbeats 2000000
namespace K50
open PySem Mir SX
local macro_rules | `(tactic| walk_at "wp") => `(tactic| simp -dsimp (disch := first | omega | (simp only [List.length_cons, List.length_nil, List.length_append, List.length_map]; omega)) only [*, ↓wp_eAnd, ↓wp_eOr, ↓wp_ch, ↓wp_c, ↓wp_var, ↓wp_e1, ↓wp_e2, ↓wp_eN, ↓wp_cons, ↓wp_nil, ↓wp_call, ↓wp_mt, ↓wp_sl, ↓wp_oNone, ↓wp_oSome, ↓wp_tB1, ↓wp_tNot, ↓wp_tAnd, ↓wp_tOr, ↓wp_eIf, ↓wp_told, ↓wp_next, ↓wp_raise, ↓wp_seq, ↓wp_expr, ↓wp_set, ↓wp_setO, ↓wp_setI, ↓wp_retS, ↓wp_retN, ↓wp_break, ↓wp_cont, ↓wp_if, ↓wp_app, ↓wp_asg, ↓wp_fn, ↓wp_for, ↓wp_iLst, ↓wp_iTpl, ↓wp_iN, ↓wp_iStr, ↓wp_tYes, ↓wp_ret,
  ↓wp_fld, ↓wp_fldSet, ↓wp_meth, ↓wp_new, ↓wp_sto, ↓wp_disp, ↓wp_e2S, ↓wp_eNS, ↓wp_setS, onN_non,
  onO_some, onB_bl, onI_int, onL_lst, onT_tup, onS_str, onE_go, onC_t,
  List.map_cons, List.map_nil, List.length_cons, List.length_nil, List.cons_append, List.nil_append, List.replicate, List.getElem?_cons_zero, List.getElem?_cons_succ, List.set_cons_zero, List.set_cons_succ, wipeD, decide_true, decide_false,
  Option.some.injEq, true_and, and_true, if_true, ite_true, if_false, Bool.false_eq_true, reduceIte, ite_false, Bool.not_true, Bool.not_false, Nat.reduceAdd, Nat.reduceSub, Nat.zero_add, Nat.reduceEqDiff])

/-- tells d, and may lay something behind the store -/
def VG (F : FD) (ds : List D) (d : D) : Prop := ∃ g : Sto → Sto, ∀ s, F ds s = .ok d (s ++ g s)
theorem vg_of {F : FD} {ds : List D} {d : D} (h : ∀ s, wp (F ds s) (fun a s' => a = d ∧ ∃ l, s' = s ++ l) (fun _ _ => False)) : VG F ds d := by
  have k : ∀ s, ∃ l, F ds s = .ok d (s ++ l) := fun s => by
    have := h s
    cases e : F ds s with
    | ok a s' => rw [e] at this; obtain ⟨rfl, l, rfl⟩ := this; exact ⟨l, rfl⟩
    | exc c s' => rw [e] at this; exact this.elim
    | no => rw [e] at this; exact this.elim
  exact ⟨fun s => (k s).choose, fun s => (k s).choose_spec⟩
theorem VF.vg {F : FD} {ds : List D} {d : D} (h : VF F ds d) : VG F ds d := ⟨fun _ => [], fun s => by rw [h s, List.append_nil]⟩
theorem gNm_go {i : Nat} {d : D} {τ : Ev} : gNm i d τ = some (τ.set i (some d)) := rfl
theorem v_needd : ∀ (q : Qy) (n deep : Nat), q.ok → q.dp ≤ n → deep + q.dp ≤ 8 → VG (M_need_deep n) [q.d, .int deep] .non
  | q, 0, deep, _, h, _ => by cases q <;> simp [Qy.dp] at h
  | .leaf l, n + 1, deep, ho, h, hd => by
    refine vg_of fun s => ?_
    have e : M_need_deep (n + 1) = fnM 2 4 (b_need_deep (M_need_deep n)) := rfl
    have hd : decide ((deep : Int) < 8) = true := decide_eq_true (by have : (Qy.leaf l).dp = 1 := rfl; omega)
    have l1 := @o_ltI
    have a1 := isiT
    have a2 := isiS
    have a3 := len1T
    have a4 := len2T
    have a5 := len3T
    have a6 := gt1
    have a7 := gt2
    have a8 := gt3
    have a9 := eq1
    have b1 := eq2
    have b2 := eq3
    have b3 := ix10
    have b4 := ix20
    have b5 := ix21
    have b6 := ix30
    have b7 := ix31
    have b8 := ix32
    have b9 := vf_wp v_need
    rw [e]
    unfold b_need_deep
    cases l with
    | all =>
      obtain ⟨⟨c1, c2, c3, c4, c5, c6⟩, d1, d2, d3, d4, d5⟩ := f_all
      have s1 := sl1
      have fn := @wp_forN
      clear e ho h
      show wp (fnM 2 4 _ [.tup [.str "all"], .int deep] s) _ _
      walk_at "wp"
      exact ⟨[], by rw [List.append_nil]⟩
    | mark m =>
      obtain ⟨⟨c1, c2, c3, c4, c5, c6⟩, d1, d2, d3, d4, d5⟩ := f_mark
      have k : ∀ s Q X, wp (M_is_word [.str (S m), .int 10] s) Q X = Q (.bl true) s := vf_wp (v_isw (k := 10) (nm := m) ho (by decide))
      clear e ho h
      show wp (fnM 2 4 _ [.tup [.str "mark", .str (S m)], .int deep] s) _ _
      walk_at "wp"
      exact ⟨[], by rw [List.append_nil]⟩
    | head nm t =>
      obtain ⟨⟨c1, c2, c3, c4, c5, c6⟩, d1, d2, d3, d4, d5⟩ := f_head
      have k : ∀ s Q X, wp (M_is_word [.str (S nm), .int 12] s) Q X = Q (.bl true) s := vf_wp (v_isw (k := 12) (nm := nm) ho.1 (by decide))
      have k' := vf_wp (v_isText ho.2)
      clear e ho h
      show wp (fnM 2 4 _ [.tup [.str "head", .str (S nm), .str (S t)], .int deep] s) _ _
      walk_at "wp"
      exact ⟨[], by rw [List.append_nil]⟩
    | body t =>
      obtain ⟨⟨c1, c2, c3, c4, c5, c6⟩, d1, d2, d3, d4, d5⟩ := f_body
      have k' := vf_wp (v_isText (t := t) ho)
      clear e ho h
      show wp (fnM 2 4 _ [.tup [.str "body", .str (S t)], .int deep] s) _ _
      walk_at "wp"
      exact ⟨[], by rw [List.append_nil]⟩
    | numbers t =>
      obtain ⟨⟨c1, c2, c3, c4, c5, c6⟩, d1, d2, d3, d4, d5⟩ := f_numbers
      have k' : ∀ s Q X, wp (M_is_set [.str (S t)] s) Q X = Q (.bl true) (s ++ [.dct []]) := fun s Q X => by rw [isSet_ok (t := t) ho s]; rfl
      clear e ho h
      show wp (fnM 2 4 _ [.tup [.str "numbers", .str (S t)], .int deep] s) _ _
      walk_at "wp"
      exact ⟨_, rfl⟩
    | newer n =>
      obtain ⟨⟨c1, c2, c3, c4, c5, c6⟩, d1, d2, d3, d4, d5⟩ := f_newer
      have k' := vf_wp (v_isStep (n := n) ho)
      clear e ho h
      show wp (fnM 2 4 _ [.tup [.str "newer", .int n], .int deep] s) _ _
      walk_at "wp"
      exact ⟨[], by rw [List.append_nil]⟩
  | .not q, n + 1, deep, ho, h, hd => by
    obtain ⟨g, ih⟩ := v_needd q n (deep + 1) ho (by have : (Qy.not q).dp = q.dp + 1 := rfl; omega) (by have : (Qy.not q).dp = q.dp + 1 := rfl; omega)
    refine vg_of fun s => ?_
    have e : M_need_deep (n + 1) = fnM 2 4 (b_need_deep (M_need_deep n)) := rfl
    have hd : decide ((deep : Int) < 8) = true := decide_eq_true (by have : (Qy.not q).dp = q.dp + 1 := rfl; omega)
    have k : ∀ s Q X, wp (M_need_deep n [q.d, .int ((deep : Int) + 1)] s) Q X = Q .non (s ++ g s) := fun s Q X => by
      have : M_need_deep n [q.d, .int ((deep : Int) + 1)] s = .ok .non (s ++ g s) := ih s
      rw [this]; rfl
    have l1 := @o_ltI
    have a1 := isiT
    have a2 := isiS
    have a4 := len2T
    have a7 := gt2
    have b1 := eq2
    have b4 := ix20
    have b9 := vf_wp v_need
    have s1 := sl2
    have fn := @wp_forN
    have fc := @wp_forC
    have gg := @gNm_go
    have ad := @o_addI
    obtain ⟨⟨c1, c2, c3, c4, c5, c6⟩, d1, d2, d3, d4, d5⟩ := f_not
    rw [e]
    unfold b_need_deep
    clear e ho h ih
    show wp (fnM 2 4 _ [.tup [.str "not", q.d], .int deep] s) _ _
    walk_at "wp"
    exact ⟨_, rfl⟩
  | .bin o a b, n + 1, deep, ho, h, hd => by
    have hq : (Qy.bin o a b).dp = max a.dp b.dp + 1 := rfl
    obtain ⟨g, ih⟩ := v_needd a n (deep + 1) ho.1 (by omega) (by omega)
    obtain ⟨g', ih'⟩ := v_needd b n (deep + 1) ho.2 (by omega) (by omega)
    refine vg_of fun s => ?_
    have e : M_need_deep (n + 1) = fnM 2 4 (b_need_deep (M_need_deep n)) := rfl
    have hd : decide ((deep : Int) < 8) = true := decide_eq_true (by omega)
    have k : ∀ s Q X, wp (M_need_deep n [a.d, .int ((deep : Int) + 1)] s) Q X = Q .non (s ++ g s) := fun s Q X => by
      have : M_need_deep n [a.d, .int ((deep : Int) + 1)] s = .ok .non (s ++ g s) := ih s
      rw [this]; rfl
    have k' : ∀ s Q X, wp (M_need_deep n [b.d, .int ((deep : Int) + 1)] s) Q X = Q .non (s ++ g' s) := fun s Q X => by
      have : M_need_deep n [b.d, .int ((deep : Int) + 1)] s = .ok .non (s ++ g' s) := ih' s
      rw [this]; rfl
    have l1 := @o_ltI
    have a1 := isiT
    have a2 := isiS
    have a4 := len3T
    have a7 := gt3
    have b1 := eq3
    have b4 := ix30
    have b9 := vf_wp v_need
    have s1 := sl3
    have fn := @wp_forN
    have fc := @wp_forC
    have gg := @gNm_go
    have ad := @o_addI
    rw [e]
    unfold b_need_deep
    clear e ho h ih ih' hq
    cases o with
    | true =>
      obtain ⟨⟨c1, c2, c3, c4, c5, c6⟩, d1, d2, d3, d4, d5⟩ := f_and
      show wp (fnM 2 4 _ [.tup [.str "and", a.d, b.d], .int deep] s) _ _
      walk_at "wp"
      exact ⟨_, List.append_assoc ..⟩
    | false =>
      obtain ⟨⟨c1, c2, c3, c4, c5, c6⟩, d1, d2, d3, d4, d5⟩ := f_or
      show wp (fnM 2 4 _ [.tup [.str "or", a.d, b.d], .int deep] s) _ _
      walk_at "wp"
      exact ⟨_, List.append_assoc ..⟩
theorem v_needq {q : Qy} (ho : q.ok) (h : q.dp ≤ 8) : VG M_need_query [q.d] .non := by
  obtain ⟨g, hg⟩ := v_needd q 10 0 ho (by omega) (by omega)
  have k : ∀ s Q X, wp (M_need_deep 10 [q.d, .int 0] s) Q X = Q .non (s ++ g s) := fun s Q X => by
    have := hg s
    rw [show (((0 : Nat) : Int)) = 0 from rfl] at this
    rw [this]; rfl
  refine vg_of fun s => ?_
  clear hg ho h
  unfold M_need_query b_need_query
  walk_at "wp"
  exact ⟨_, rfl⟩
end K50

set_option Elab.async false
set_option linter.all false
set_option maxRecDepth 100000
set_option maxHeartbeats 2000000
namespace K50
open PySem Mir SX
local macro_rules | `(tactic| walk_at "wp") => `(tactic| simp -dsimp (disch := first | omega | (simp only [List.length_cons, List.length_nil, List.length_append, List.length_map]; omega)) only [*, ↓wp_eAnd, ↓wp_eOr, ↓wp_ch, ↓wp_c, ↓wp_var, ↓wp_e1, ↓wp_e2, ↓wp_eN, ↓wp_cons, ↓wp_nil, ↓wp_call, ↓wp_mt, ↓wp_sl, ↓wp_oNone, ↓wp_oSome, ↓wp_tB1, ↓wp_tNot, ↓wp_tAnd, ↓wp_tOr, ↓wp_eIf, ↓wp_told, ↓wp_next, ↓wp_raise, ↓wp_seq, ↓wp_expr, ↓wp_set, ↓wp_setO, ↓wp_setI, ↓wp_retS, ↓wp_retN, ↓wp_break, ↓wp_cont, ↓wp_if, ↓wp_app, ↓wp_asg, ↓wp_fn, ↓wp_for, ↓wp_iLst, ↓wp_iTpl, ↓wp_iN, ↓wp_iStr, ↓wp_tYes, ↓wp_ret,
  ↓wp_fld, ↓wp_fldSet, ↓wp_meth, ↓wp_new, ↓wp_sto, ↓wp_disp, ↓wp_e2S, ↓wp_eNS, ↓wp_setS, onN_non,
  onO_some, onB_bl, onI_int, onL_lst, onT_tup, onS_str, onE_go, onC_t,
  List.map_cons, List.map_nil, List.length_cons, List.length_nil, List.cons_append, List.nil_append, List.replicate, List.getElem?_cons_zero, List.getElem?_cons_succ, List.set_cons_zero, List.set_cons_succ, wipeD, decide_true, decide_false,
  Option.some.injEq, true_and, and_true, if_true, ite_true, if_false, Bool.false_eq_true, reduceIte, ite_false, Bool.not_true, Bool.not_false, Nat.reduceAdd, Nat.reduceSub, Nat.zero_add, Nat.reduceEqDiff])

def wAll : Wd := [97, 108, 108]
def wMark : Wd := [109, 97, 114, 107]
def wHead : Wd := [104, 101, 97, 100]
def wBody : Wd := [98, 111, 100, 121]
def wNumbers : Wd := [110, 117, 109, 98, 101, 114, 115]
def wNewer : Wd := [110, 101, 119, 101, 114]
def wNot : Wd := [110, 111, 116]
def wOr : Wd := [111, 114]
def wAnd : Wd := [97, 110, 100]
theorem e_all : (D.str "all") = .str (S wAll) := by kernel_rfl
theorem e_mark : (D.str "mark") = .str (S wMark) := by kernel_rfl
theorem e_head : (D.str "head") = .str (S wHead) := by kernel_rfl
theorem e_body : (D.str "body") = .str (S wBody) := by kernel_rfl
theorem e_numbers : (D.str "numbers") = .str (S wNumbers) := by kernel_rfl
theorem e_newer : (D.str "newer") = .str (S wNewer) := by kernel_rfl
theorem e_not : (D.str "not") = .str (S wNot) := by kernel_rfl
theorem e_or : (D.str "or") = .str (S wOr) := by kernel_rfl
theorem e_and : (D.str "and") = .str (S wAnd) := by kernel_rfl
def qt (t : Wd) : Wd := 34 :: (t ++ [34])
def Lf.ws : Lf → List Wd
  | .all => [wAll]
  | .mark m => [wMark, m]
  | .head n t => [wHead, n, qt t]
  | .body t => [wBody, qt t]
  | .numbers t => [wNumbers, t]
  | .newer n => [wNewer, TL.numL n]
def Qy.ws : Qy → List Wd
  | .leaf l => l.ws
  | .not q => wNot :: q.ws
  | .bin true a b => wAnd :: (a.ws ++ b.ws)
  | .bin false a b => wOr :: (a.ws ++ b.ws)
def sD (ws : List Wd) : List D := ws.map fun p => D.str (S p)
def WL (ws : List Wd) : Nat := (ws.map (·.length)).sum + ws.length
theorem WL_nil : WL [] = 0 := rfl
theorem WL_cons (w : Wd) (ws : List Wd) : WL (w :: ws) = w.length + 1 + WL ws := by simp [WL]; omega
theorem WL_app (a b : List Wd) : WL (a ++ b) = WL a + WL b := by simp [WL]; omega
theorem WL_ge (a : List Wd) : a.length ≤ WL a := by simp [WL]
theorem nums_len : ∀ t ∈ NUMS, t.length ≤ 9 := by decide
theorem num_len {n : Nat} (h : n ≤ 9999) : (TL.numL n).length ≤ 4 := TL.numL_len (by decide) (by omega)
theorem qt_len (t : Wd) : (qt t).length = t.length + 2 := by simp [qt]
theorem pow3 (a b : Nat) : 3 ^ (max a b + 1) ≥ 3 ^ a + 3 ^ b + 1 := by
  have h1 : 3 ^ a ≤ 3 ^ max a b := Nat.pow_le_pow_right (by decide) (Nat.le_max_left ..)
  have h2 : 3 ^ b ≤ 3 ^ max a b := Nat.pow_le_pow_right (by decide) (Nat.le_max_right ..)
  have h3 : 1 ≤ 3 ^ max a b := Nat.pow_pos (by decide)
  rw [Nat.pow_succ]
  omega
theorem wl_ok : ∀ q : Qy, q.ok → WL q.ws ≤ 64 * 3 ^ q.dp
  | .leaf l, h => by
    show WL l.ws ≤ 192
    cases l with
    | all => decide
    | mark m =>
      have := (show LowW 10 m from h).1.2
      show WL [wMark, m] ≤ 192
      rw [WL_cons, WL_cons, WL_nil]
      show 4 + 1 + _ ≤ _
      omega
    | head n t =>
      have h1 := (show LowW 12 n ∧ TxtW t from h).1.1.2
      have h2 := (show LowW 12 n ∧ TxtW t from h).2.1
      show WL [wHead, n, qt t] ≤ 192
      rw [WL_cons, WL_cons, WL_cons, WL_nil, qt_len]
      show 4 + 1 + _ ≤ _
      omega
    | body t =>
      have h2 := (show TxtW t from h).1
      show WL [wBody, qt t] ≤ 192
      rw [WL_cons, WL_cons, WL_nil, qt_len]
      show 4 + 1 + _ ≤ _
      omega
    | numbers t =>
      have h2 := nums_len t h
      show WL [wNumbers, t] ≤ 192
      rw [WL_cons, WL_cons, WL_nil]
      show 7 + 1 + _ ≤ _
      omega
    | newer n =>
      have h2 := num_len (n := n) h
      show WL [wNewer, TL.numL n] ≤ 192
      rw [WL_cons, WL_cons, WL_nil]
      show 5 + 1 + _ ≤ _
      omega
  | .not q, h => by
    have ih := wl_ok q h
    show WL (wNot :: q.ws) ≤ 64 * 3 ^ (q.dp + 1)
    rw [WL_cons, Nat.pow_succ]
    have h3 : 1 ≤ 3 ^ q.dp := Nat.pow_pos (by decide)
    show 3 + 1 + _ ≤ _
    omega
  | .bin o a b, h => by
    have i1 := wl_ok a h.1
    have i2 := wl_ok b h.2
    have h3 := pow3 a.dp b.dp
    cases o with
    | true =>
      show WL (wAnd :: (a.ws ++ b.ws)) ≤ 64 * 3 ^ (max a.dp b.dp + 1)
      rw [WL_cons, WL_app]
      show 3 + 1 + _ ≤ _
      omega
    | false =>
      show WL (wOr :: (a.ws ++ b.ws)) ≤ 64 * 3 ^ (max a.dp b.dp + 1)
      rw [WL_cons, WL_app]
      show 2 + 1 + _ ≤ _
      omega
theorem wl_max {q : Qy} (h : q.ok) (hd : q.dp ≤ 9) : WL q.ws ≤ 1259712 :=
  Nat.le_trans (wl_ok q h) (Nat.mul_le_mul_left 64 (Nat.pow_le_pow_right (n := 3) (j := 9) (by decide) hd))
theorem ws_ne : ∀ q : Qy, q.ws ≠ []
  | .leaf l => by cases l <;> exact List.cons_ne_nil _ _
  | .not q => List.cons_ne_nil _ _
  | .bin true a b => List.cons_ne_nil _ _
  | .bin false a b => List.cons_ne_nil _ _
/-! ### words_of -/
theorem strA_s (x : Str) : strAD [.str x] = some (.str x) := by kernel_rfl
theorem strA_i {n : Nat} (h : n ≤ 9999) : strAD [.int n] = some (.str (S (TL.numL n))) := by
  have e : strOfD [.int n] = some (.str (S (TL.numL n))) := by
    show (if decide ((n : Int).natAbs.log2 < 1920) = true then some (D.str (Str.ofString (toString (n : Int)))) else none) = _
    rw [if_pos (decide_eq_true ?_), num_S]
    rw [Int.natAbs_natCast]
    exact log2_lt (by exact Nat.lt_of_le_of_lt h (Nat.lt_of_lt_of_le (by decide : 9999 < 2 ^ 14) (Nat.pow_le_pow_right (by decide) (by decide)))) (by decide)
  unfold strAD or1
  rw [e]
def strsE : ED := eLc0 (iTpl (eSl (eVar 0) (oSome (eC (.int 1))) oNone)) (gNm 3) tYesD (eN strAD (aCons (eVar 3) aNil)) [3]
theorem v_strs {a x y : D} (h : strAD [x] = some y) : ∀ s Q X, wp (strsE [some (.tup [a, x]), some a, none, none] s) Q X = Q (.lst [y]) s := fun s Q X => by
  have k : V1 strsE [some (.tup [a, x]), some a, none, none] (.lst [y]) :=
    V1.lc0M (ds := [x]) (fun _ => y) (VA.tpl (V1.sl (V1.var rfl) (VO.som V1.c) VO.non (sl2 a x))) rfl fun d hd => by
      have hd : d = x := by simpa using hd
      subst hd
      exact ⟨_, rfl, V1.eN (VA.one (V1.var rfl)) h⟩
  rw [k s]; rfl
theorem v_strs0 {a : D} : ∀ s Q X, wp (strsE [some (.tup [a]), some a, none, none] s) Q X = Q (.lst []) s := fun s Q X => by
  have k : V1 strsE [some (.tup [a]), some a, none, none] (.lst []) :=
    V1.lc0M (ds := []) (fun d => d) (VA.tpl (V1.sl (V1.var rfl) (VO.som V1.c) VO.non (sl1 a))) rfl fun d hd => by cases hd
  rw [k s]; rfl
theorem b_words (M : FD) : b_words_of M = (sSeq (sSet 1 (e2S ixS (eVar 0) (eC (.int 0))))
    (sSeq (sIf (tB1 (e2 eqD (eVar 1) (eC (.str "head")))) (sRet (eN mkL (aCons (eVar 1) (aCons (e2S ixS (eVar 0) (eC (.int 1))) (aCons (e2 addDT (e2 addDT (eC (.str "\"")) (e2S ixS (eVar 0) (eC (.int 2)))) (eC (.str "\""))) aNil))))) sNext)
    (sSeq (sIf (tB1 (e2 eqD (eVar 1) (eC (.str "body")))) (sRet (eN mkL (aCons (eVar 1) (aCons (e2 addDT (e2 addDT (eC (.str "\"")) (e2S ixS (eVar 0) (eC (.int 1)))) (eC (.str "\""))) aNil)))) sNext)
    (sSeq (sIf (tB1 (e2S (inS2 false) (eVar 1) (eN mkT (aCons (eC (.str "not")) (aCons (eC (.str "or")) (aCons (eC (.str "and")) aNil)))))) (sSeq (sSet 2 (eN mkL (aCons (eVar 1) aNil)))
    (sSeq (sFor (iTpl (eSl (eVar 0) (oSome (eC (.int 1))) oNone)) (gNm 3) (sSet 2 (e2 addDT (eVar 2) (eCall (M) (aCons (eVar 3) aNil)))))
    (sRet (eVar 2)))) sNext)
    (sRet (e2 addDT (eN mkL (aCons (eVar 1) aNil)) strsE)))))) := rfl
theorem mkL1 (a : D) : mkL [a] = some (.lst [a]) := by kernel_rfl
theorem mkL2 (a b : D) : mkL [a, b] = some (.lst [a, b]) := by kernel_rfl
theorem mkL3 (a b c : D) : mkL [a, b, c] = some (.lst [a, b, c]) := by kernel_rfl
theorem cat10 (a : D) : addDT (.lst [a]) (.lst []) = some (.lst [a]) := by kernel_rfl
theorem cat11 (a b : D) : addDT (.lst [a]) (.lst [b]) = some (.lst [a, b]) := by kernel_rfl
theorem q1 {t : Wd} (h : t.length ≤ 1000) : addDT (.str "\"") (.str (S t)) = some (.str (S (34 :: t))) := o_cat (a := [34]) (by simp; omega)
theorem q2 {t : Wd} (h : t.length ≤ 1000) : addDT (.str (S (34 :: t))) (.str "\"") = some (.str (S (qt t))) := o_cat (a := 34 :: t) (b := [34]) (by simp; omega)
theorem v_words : ∀ (q : Qy) (n : Nat), q.ok → q.dp ≤ 9 → q.dp ≤ n → VF (M_words_of n) [q.d] (.lst (sD q.ws))
  | q, 0, _, _, h => by cases q <;> simp [Qy.dp] at h
  | .leaf l, n + 1, ho, h9, h => by
    refine vf_of fun s => ?_
    have e : M_words_of (n + 1) = fnM 1 4 (b_words_of (M_words_of n)) := rfl
    rw [e, b_words]
    have b3 := ix10
    have b4 := ix20
    have b5 := ix21
    have b6 := ix30
    have b7 := ix31
    have b8 := ix32
    have m1 := mkL1
    have m2 := mkL2
    have m3 := mkL3
    have t3 := @mkT3
    have c1 := cat10
    have c2 := cat11
    clear e h9 h
    cases l with
    | all =>
      obtain ⟨⟨c1, c2, c3, c4, c5, c6⟩, d1, d2, d3, d4, d5⟩ := f_all
      have v := v_strs0 (a := .str "all")
      show wp (fnM 1 4 _ [.tup [.str "all"]] s) _ _
      clear ho
      walk_at "wp"
      kernel_rfl
    | mark m =>
      obtain ⟨⟨c1, c2, c3, c4, c5, c6⟩, d1, d2, d3, d4, d5⟩ := f_mark
      have v := v_strs (a := .str "mark") (strA_s (S m))
      show wp (fnM 1 4 _ [.tup [.str "mark", .str (S m)]] s) _ _
      clear ho
      walk_at "wp"
      kernel_rfl
    | head nm t =>
      obtain ⟨⟨c1, c2, c3, c4, c5, c6⟩, d1, d2, d3, d4, d5⟩ := f_head
      have ht := (show LowW 12 nm ∧ TxtW t from ho).2.1
      have v1 := q1 (t := t) (by omega)
      have v2 := q2 (t := t) (by omega)
      show wp (fnM 1 4 _ [.tup [.str "head", .str (S nm), .str (S t)]] s) _ _
      clear ho ht
      walk_at "wp"
      kernel_rfl
    | body t =>
      obtain ⟨⟨c1, c2, c3, c4, c5, c6⟩, d1, d2, d3, d4, d5⟩ := f_body
      have ht := (show TxtW t from ho).1
      have v1 := q1 (t := t) (by omega)
      have v2 := q2 (t := t) (by omega)
      show wp (fnM 1 4 _ [.tup [.str "body", .str (S t)]] s) _ _
      clear ho ht
      walk_at "wp"
      kernel_rfl
    | numbers t =>
      obtain ⟨⟨c1, c2, c3, c4, c5, c6⟩, d1, d2, d3, d4, d5⟩ := f_numbers
      have v := v_strs (a := .str "numbers") (strA_s (S t))
      show wp (fnM 1 4 _ [.tup [.str "numbers", .str (S t)]] s) _ _
      clear ho
      walk_at "wp"
      kernel_rfl
    | newer n =>
      obtain ⟨⟨c1, c2, c3, c4, c5, c6⟩, d1, d2, d3, d4, d5⟩ := f_newer
      have v := v_strs (a := .str "newer") (strA_i (n := n) ho)
      show wp (fnM 1 4 _ [.tup [.str "newer", .int n]] s) _ _
      clear ho
      walk_at "wp"
      kernel_rfl
  | .not q, n + 1, ho, h9, h => by
    have hq : (Qy.not q).dp = q.dp + 1 := rfl
    have k := vf_wp (v_words q n ho (by omega) (by omega))
    have hl := Nat.le_trans (WL_ge q.ws) (wl_max (q := q) ho (by omega))
    have ct : addDT (.lst [.str "not"]) (.lst (sD q.ws)) = some (.lst (.str "not" :: sD q.ws)) := o_catL (by simp [sD]; omega)
    refine vf_of fun s => ?_
    have e : M_words_of (n + 1) = fnM 1 4 (b_words_of (M_words_of n)) := rfl
    rw [e, b_words]
    have b4 := ix20
    have m1 := mkL1
    have t3 := @mkT3
    have s1 := sl2
    have fn := @wp_forN
    have fc := @wp_forC
    have gg := @gNm_go
    obtain ⟨⟨c1, c2, c3, c4, c5, c6⟩, d1, d2, d3, d4, d5⟩ := f_not
    clear e ho h h9 hl hq
    show wp (fnM 1 4 _ [.tup [.str "not", q.d]] s) _ _
    walk_at "wp"
    kernel_rfl
  | .bin o a b, n + 1, ho, h9, h => by
    have hq : (Qy.bin o a b).dp = max a.dp b.dp + 1 := rfl
    have k := vf_wp (v_words a n ho.1 (by omega) (by omega))
    have k' := vf_wp (v_words b n ho.2 (by omega) (by omega))
    have hl := Nat.le_trans (WL_ge a.ws) (wl_max (q := a) ho.1 (by omega))
    have hl' := Nat.le_trans (WL_ge b.ws) (wl_max (q := b) ho.2 (by omega))
    have ct : ∀ w : D, addDT (.lst [w]) (.lst (sD a.ws)) = some (.lst (w :: sD a.ws)) := fun w => o_catL (by simp [sD]; omega)
    have ct' : ∀ w : D, addDT (.lst (w :: sD a.ws)) (.lst (sD b.ws)) = some (.lst (w :: (sD a.ws ++ sD b.ws))) := fun w => o_catL (by simp [sD]; omega)
    have ap : sD a.ws ++ sD b.ws = sD (a.ws ++ b.ws) := by simp [sD]
    refine vf_of fun s => ?_
    have e : M_words_of (n + 1) = fnM 1 4 (b_words_of (M_words_of n)) := rfl
    rw [e, b_words]
    have b4 := ix30
    have m1 := mkL1
    have t3 := @mkT3
    have s1 := sl3
    have fn := @wp_forN
    have fc := @wp_forC
    have gg := @gNm_go
    clear e ho h h9 hl hl' hq
    cases o with
    | true =>
      obtain ⟨⟨c1, c2, c3, c4, c5, c6⟩, d1, d2, d3, d4, d5⟩ := f_and
      show wp (fnM 1 4 _ [.tup [.str "and", a.d, b.d]] s) _ _
      walk_at "wp"
      kernel_rfl
    | false =>
      obtain ⟨⟨c1, c2, c3, c4, c5, c6⟩, d1, d2, d3, d4, d5⟩ := f_or
      show wp (fnM 1 4 _ [.tup [.str "or", a.d, b.d]] s) _ _
      walk_at "wp"
      kernel_rfl
def Qy.tx (q : Qy) : Wd := TL.joinL [32] q.ws
theorem join_app {s : Wd} : ∀ {xs ys : List Wd}, xs ≠ [] → ys ≠ [] → TL.joinL s (xs ++ ys) = TL.joinL s xs ++ (s ++ TL.joinL s ys)
  | [], _, h, _ => absurd rfl h
  | [x], [], _, h => absurd rfl h
  | [x], y :: ys, _, _ => rfl
  | x :: x' :: xs, ys, _, h => by
    show x ++ (s ++ TL.joinL s (x' :: xs ++ ys)) = (x ++ (s ++ TL.joinL s (x' :: xs))) ++ _
    rw [join_app (List.cons_ne_nil _ _) h]
    simp
theorem join_len : ∀ {xs : List Wd}, xs ≠ [] → (TL.joinL [32] xs).length + 1 = WL xs
  | [], h => absurd rfl h
  | [x], _ => by rw [WL_cons, WL_nil]; rfl
  | x :: y :: xs, _ => by
    have := join_len (xs := y :: xs) (List.cons_ne_nil _ _)
    rw [WL_cons, ← this]
    show (x ++ ([32] ++ TL.joinL [32] (y :: xs))).length + 1 = _
    simp
    omega
theorem v_written {q : Qy} (ho : q.ok) (h : q.dp ≤ 8) : VG M_written_query [q.d] (.str (S q.tx)) := by
  obtain ⟨g, hg⟩ := v_needq ho h
  have k : ∀ s Q X, wp (M_need_query [q.d] s) Q X = Q .non (s ++ g s) := fun s Q X => by rw [hg s]; rfl
  have k' := vf_wp (v_words q 10 ho (by omega) (by omega))
  have jn : joinD (.str " ") [.lst (sD q.ws)] = some (.str (S q.tx)) := o_join (sep := [32]) (by
    have := wl_max ho (by omega : q.dp ≤ 9)
    show (q.ws.map (·.length)).sum + q.ws.length * 1 ≤ _
    unfold WL at this
    omega)
  have ty : isTy "str" (.str " ") = true := rfl
  refine vg_of fun s => ?_
  clear hg ho h
  unfold M_written_query b_written_query
  walk_at "wp"
  exact ⟨_, rfl⟩
end K50

set_option Elab.async false
set_option linter.all false
set_option maxRecDepth 100000
set_option maxHeartbeats 2000000
namespace K50
open PySem Mir SX
local macro_rules | `(tactic| walk_at "wp") => `(tactic| simp -dsimp (disch := first | omega | (simp only [List.length_cons, List.length_nil, List.length_append, List.length_map]; omega)) only [*, ↓wp_eAnd, ↓wp_eOr, ↓wp_ch, ↓wp_c, ↓wp_var, ↓wp_e1, ↓wp_e2, ↓wp_eN, ↓wp_cons, ↓wp_nil, ↓wp_call, ↓wp_mt, ↓wp_sl, ↓wp_oNone, ↓wp_oSome, ↓wp_tB1, ↓wp_tNot, ↓wp_tAnd, ↓wp_tOr, ↓wp_eIf, ↓wp_told, ↓wp_next, ↓wp_raise, ↓wp_seq, ↓wp_expr, ↓wp_set, ↓wp_setO, ↓wp_setI, ↓wp_retS, ↓wp_retN, ↓wp_break, ↓wp_cont, ↓wp_if, ↓wp_app, ↓wp_asg, ↓wp_fn, ↓wp_for, ↓wp_iLst, ↓wp_iTpl, ↓wp_iN, ↓wp_iStr, ↓wp_tYes, ↓wp_ret,
  ↓wp_fld, ↓wp_fldSet, ↓wp_meth, ↓wp_new, ↓wp_sto, ↓wp_disp, ↓wp_e2S, ↓wp_eNS, ↓wp_setS, onN_non,
  onO_some, onB_bl, onI_int, onL_lst, onT_tup, onS_str, onE_go, onC_t,
  List.map_cons, List.map_nil, List.length_cons, List.length_nil, List.cons_append, List.nil_append, List.replicate, List.getElem?_cons_zero, List.getElem?_cons_succ, List.set_cons_zero, List.set_cons_succ, wipeD, decide_true, decide_false,
  Option.some.injEq, true_and, and_true, if_true, ite_true, if_false, Bool.false_eq_true, reduceIte, ite_false, Bool.not_true, Bool.not_false, Nat.reduceAdd, Nat.reduceSub, Nat.zero_add, Nat.reduceEqDiff])

def subE (M : FD) : ED := eLc0 (iTpl (eSl (eVar 0) (oSome (eC (.int 1))) oNone)) (gNm 2) tYesD (eCall M (aCons (eVar 2) aNil)) [2]
def allE : ED := eLc0 (iTpl (eVar 0)) (gNm 2) tYesD (eN strAD (aCons (eVar 2) aNil)) [2]
theorem b_qtext (M : FD) : b__law_query_text M = (sSeq (sSet 1 (e2S ixS (eVar 0) (eC (.int 0))))
    (sSeq (sIf (tB1 (e2S (inS2 false) (eVar 1) (eN mkT (aCons (eC (.str "not")) (aCons (eC (.str "or")) (aCons (eC (.str "and")) aNil)))))) (sRet (eMt "str" joinD (eC (.str " ")) (aCons (e2 addDT (eN mkL (aCons (eVar 1) aNil)) (subE M)) aNil))) sNext)
    (sSeq (sIf (tB1 (e2 eqD (eVar 1) (eC (.str "head")))) (sRet (e2 addDT (e2 addDT (e2 addDT (e2 addDT (e2 addDT (eVar 1) (eC (.str " "))) (e2S ixS (eVar 0) (eC (.int 1)))) (eC (.str " \""))) (e2S ixS (eVar 0) (eC (.int 2)))) (eC (.str "\"")))) sNext)
    (sSeq (sIf (tB1 (e2 eqD (eVar 1) (eC (.str "body")))) (sRet (e2 addDT (e2 addDT (e2 addDT (eVar 1) (eC (.str " \""))) (e2S ixS (eVar 0) (eC (.int 1)))) (eC (.str "\"")))) sNext)
    (sRet (eMt "str" joinD (eC (.str " ")) (aCons allE aNil))))))) := rfl
theorem v_sub1 {M : FD} {a x y : D} (h : VF M [x] y) : ∀ s Q X, wp (subE M [some (.tup [a, x]), some a, none] s) Q X = Q (.lst [y]) s := fun s Q X => by
  have k : V1 (subE M) [some (.tup [a, x]), some a, none] (.lst [y]) :=
    V1.lc0M (ds := [x]) (fun _ => y) (VA.tpl (V1.sl (V1.var rfl) (VO.som V1.c) VO.non (sl2 a x))) rfl fun d hd => by
      have hd : d = x := by simpa using hd
      subst hd
      exact ⟨_, rfl, V1.call (VA.one (V1.var rfl)) h⟩
  rw [k s]; rfl
theorem v_lc2 {it : AD} {tg : D → Ev → Option Ev} {el : ED} {vs : List Nat} {τ : Ev} {x x' y y' : D} (hi : VA it τ [x, x']) (h : ∃ τ1, tg x (wipeD τ vs) = some τ1 ∧ V1 el τ1 y) (h' : ∃ τ1, tg x' (wipeD τ vs) = some τ1 ∧ V1 el τ1 y') : V1 (eLc0 it tg tYesD el vs) τ (.lst [y, y']) := fun s => by
  obtain ⟨τ1, t1, v1⟩ := h
  obtain ⟨τ2, t2, v2⟩ := h'
  unfold eLc0
  rw [hi s]
  show _ = _
  have e : ∀ s, lcGo tg tYesD el (wipeD τ vs) [x, x'] s = .ok [y, y'] s := fun s => by
    unfold lcGo; simp only [t1]; unfold tYesD; simp only [M.ret, R.bind]
    rw [v1 s]
    unfold lcGo; simp only [t2, M.ret, R.bind]
    rw [v2 s]
    rfl
  simp only [R.bind, List.length_cons, List.length_nil]
  rw [if_pos (by decide)]
  rw [e s]
  rfl
theorem v_sub2 {M : FD} {a x x' y y' : D} (h : VF M [x] y) (h' : VF M [x'] y') : ∀ s Q X, wp (subE M [some (.tup [a, x, x']), some a, none] s) Q X = Q (.lst [y, y']) s := fun s Q X => by
  have k : V1 (subE M) [some (.tup [a, x, x']), some a, none] (.lst [y, y']) :=
    v_lc2 (VA.tpl (V1.sl (V1.var rfl) (VO.som V1.c) VO.non (sl3 a x x'))) ⟨_, rfl, V1.call (VA.one (V1.var rfl)) h⟩ ⟨_, rfl, V1.call (VA.one (V1.var rfl)) h'⟩
  rw [k s]; rfl
theorem v_all1 {a : Str} : ∀ s Q X, wp (allE [some (.tup [.str a]), some (.str a), none] s) Q X = Q (.lst [.str a]) s := fun s Q X => by
  have k : V1 allE [some (.tup [.str a]), some (.str a), none] (.lst [.str a]) :=
    V1.lc0M (ds := [.str a]) (fun d => d) (VA.tpl (V1.var rfl)) rfl fun d hd => by
      have hd : d = .str a := by simpa using hd
      subst hd
      exact ⟨_, rfl, V1.eN (VA.one (V1.var rfl)) (strA_s a)⟩
  rw [k s]; rfl
theorem v_all2 {a : Str} {x y : D} (h : strAD [x] = some y) : ∀ s Q X, wp (allE [some (.tup [.str a, x]), some (.str a), none] s) Q X = Q (.lst [.str a, y]) s := fun s Q X => by
  have k : V1 allE [some (.tup [.str a, x]), some (.str a), none] (.lst [.str a, y]) :=
    v_lc2 (VA.tpl (V1.var rfl)) ⟨_, rfl, V1.eN (VA.one (V1.var rfl)) (strA_s a)⟩ ⟨_, rfl, V1.eN (VA.one (V1.var rfl)) h⟩
  rw [k s]; rfl
theorem cat12 (a b c : D) : addDT (.lst [a]) (.lst [b, c]) = some (.lst [a, b, c]) := by kernel_rfl
theorem jn_of {ws : List Wd} (h : WL ws ≤ 16777216) : joinD (.str " ") [.lst (sD ws)] = some (.str (S (TL.joinL [32] ws))) := o_join (sep := [32]) (by
    show (ws.map (·.length)).sum + ws.length * 1 ≤ _
    unfold WL at h
    omega)
theorem tx_len {q : Qy} (ho : q.ok) (h : q.dp ≤ 9) : q.tx.length + 1 ≤ 1259712 := by
  have := join_len (ws_ne q)
  have h2 := wl_max ho h
  unfold Qy.tx
  omega
theorem v_qtext : ∀ (q : Qy) (n : Nat), q.ok → q.dp ≤ 9 → q.dp ≤ n → VF (M__law_query_text n) [q.d] (.str (S q.tx))
  | q, 0, _, _, h => by cases q <;> simp [Qy.dp] at h
  | .leaf l, n + 1, ho, h9, h => by
    refine vf_of fun s => ?_
    have e : M__law_query_text (n + 1) = fnM 1 3 (b__law_query_text (M__law_query_text n)) := rfl
    rw [e, b_qtext]
    have hw := wl_max (q := .leaf l) ho h9
    have b3 := ix10
    have b4 := ix20
    have b5 := ix21
    have b6 := ix30
    have b7 := ix31
    have b8 := ix32
    have t3 := @mkT3
    have ty : isTy "str" (.str " ") = true := rfl
    clear e h9 h
    cases l with
    | all =>
      obtain ⟨⟨c1, c2, c3, c4, c5, c6⟩, d1, d2, d3, d4, d5⟩ := f_all
      have v := v_all1 (a := "all")
      have j : joinD (.str " ") [.lst [.str "all"]] = some (.str (S (TL.joinL [32] [wAll]))) := jn_of (ws := [wAll]) (Nat.le_trans hw (by decide))
      show wp (fnM 1 3 _ [.tup [.str "all"]] s) _ _
      clear ho hw
      walk_at "wp"
      rfl
    | mark m =>
      obtain ⟨⟨c1, c2, c3, c4, c5, c6⟩, d1, d2, d3, d4, d5⟩ := f_mark
      have v := v_all2 (a := "mark") (strA_s (S m))
      have j : joinD (.str " ") [.lst [.str "mark", .str (S m)]] = some (.str (S (TL.joinL [32] [wMark, m]))) := jn_of (ws := [wMark, m]) (Nat.le_trans hw (by decide))
      show wp (fnM 1 3 _ [.tup [.str "mark", .str (S m)]] s) _ _
      clear ho hw
      walk_at "wp"
      rfl
    | numbers m =>
      obtain ⟨⟨c1, c2, c3, c4, c5, c6⟩, d1, d2, d3, d4, d5⟩ := f_numbers
      have v := v_all2 (a := "numbers") (strA_s (S m))
      have j : joinD (.str " ") [.lst [.str "numbers", .str (S m)]] = some (.str (S (TL.joinL [32] [wNumbers, m]))) := jn_of (ws := [wNumbers, m]) (Nat.le_trans hw (by decide))
      show wp (fnM 1 3 _ [.tup [.str "numbers", .str (S m)]] s) _ _
      clear ho hw
      walk_at "wp"
      rfl
    | newer m =>
      obtain ⟨⟨c1, c2, c3, c4, c5, c6⟩, d1, d2, d3, d4, d5⟩ := f_newer
      have v := v_all2 (a := "newer") (strA_i (n := m) ho)
      have j : joinD (.str " ") [.lst [.str "newer", .str (S (TL.numL m))]] = some (.str (S (TL.joinL [32] [wNewer, TL.numL m]))) := jn_of (ws := [wNewer, TL.numL m]) (Nat.le_trans hw (by decide))
      show wp (fnM 1 3 _ [.tup [.str "newer", .int m]] s) _ _
      clear ho hw
      walk_at "wp"
      rfl
    | head nm t =>
      obtain ⟨⟨c1, c2, c3, c4, c5, c6⟩, d1, d2, d3, d4, d5⟩ := f_head
      have hn := (show LowW 12 nm ∧ TxtW t from ho).1.1.2
      have ht := (show LowW 12 nm ∧ TxtW t from ho).2.1
      have v0 : addDT (.str "head") (.str " ") = some (.str (S (wHead ++ [32]))) := o_cat (a := wHead) (b := [32]) (by decide)
      have v1 : addDT (.str (S (wHead ++ [32]))) (.str (S nm)) = some (.str (S ((wHead ++ [32]) ++ nm))) := o_cat (by simp [wHead]; omega)
      have v2 : addDT (.str (S ((wHead ++ [32]) ++ nm))) (.str " \"") = some (.str (S (((wHead ++ [32]) ++ nm) ++ [32, 34]))) := o_cat (b := [32, 34]) (by simp [wHead]; omega)
      have v3 : addDT (.str (S (((wHead ++ [32]) ++ nm) ++ [32, 34]))) (.str (S t)) = some (.str (S ((((wHead ++ [32]) ++ nm) ++ [32, 34]) ++ t))) := o_cat (by simp [wHead]; omega)
      have v4 : addDT (.str (S ((((wHead ++ [32]) ++ nm) ++ [32, 34]) ++ t))) (.str "\"") = some (.str (S (((((wHead ++ [32]) ++ nm) ++ [32, 34]) ++ t) ++ [34]))) := o_cat (b := [34]) (by simp [wHead]; omega)
      have fin : ((((wHead ++ [32]) ++ nm) ++ [32, 34]) ++ t) ++ [34] = (Qy.leaf (.head nm t)).tx := by simp [Qy.tx, Qy.ws, Lf.ws, TL.joinL, qt]
      show wp (fnM 1 3 _ [.tup [.str "head", .str (S nm), .str (S t)]] s) _ _
      generalize ((((wHead ++ [32]) ++ nm) ++ [32, 34]) ++ t) ++ [34] = z4 at v4 fin
      generalize (((wHead ++ [32]) ++ nm) ++ [32, 34]) ++ t = z3 at v3 v4
      generalize ((wHead ++ [32]) ++ nm) ++ [32, 34] = z2 at v2 v3
      generalize (wHead ++ [32]) ++ nm = z1 at v1 v2
      generalize wHead ++ [32] = z0 at v0 v1
      clear ho ht hn hw
      walk_at "wp"
    | body t =>
      obtain ⟨⟨c1, c2, c3, c4, c5, c6⟩, d1, d2, d3, d4, d5⟩ := f_body
      have ht := (show TxtW t from ho).1
      have v2 : addDT (.str "body") (.str " \"") = some (.str (S (wBody ++ [32, 34]))) := o_cat (a := wBody) (b := [32, 34]) (by decide)
      have v3 : addDT (.str (S (wBody ++ [32, 34]))) (.str (S t)) = some (.str (S ((wBody ++ [32, 34]) ++ t))) := o_cat (by simp [wBody]; omega)
      have v4 : addDT (.str (S ((wBody ++ [32, 34]) ++ t))) (.str "\"") = some (.str (S (((wBody ++ [32, 34]) ++ t) ++ [34]))) := o_cat (b := [34]) (by simp [wBody]; omega)
      have fin : ((wBody ++ [32, 34]) ++ t) ++ [34] = (Qy.leaf (.body t)).tx := by simp [Qy.tx, Qy.ws, Lf.ws, TL.joinL, qt]
      show wp (fnM 1 3 _ [.tup [.str "body", .str (S t)]] s) _ _
      generalize ((wBody ++ [32, 34]) ++ t) ++ [34] = z4 at v4 fin
      generalize (wBody ++ [32, 34]) ++ t = z3 at v3 v4
      generalize wBody ++ [32, 34] = z2 at v2 v3
      clear ho ht hw
      walk_at "wp"
  | .not q, n + 1, ho, h9, h => by
    have hq : (Qy.not q).dp = q.dp + 1 := rfl
    have k := v_sub1 (a := .str "not") (v_qtext q n ho (by omega) (by omega))
    have hl := tx_len (q := q) ho (by omega)
    have j : joinD (.str " ") [.lst [.str "not", .str (S q.tx)]] = some (.str (S (TL.joinL [32] [wNot, q.tx]))) := jn_of (ws := [wNot, q.tx]) (by rw [WL_cons, WL_cons, WL_nil]; show 3 + 1 + _ ≤ _; omega)
    have fin : TL.joinL [32] [wNot, q.tx] = (Qy.not q).tx := by
      show _ = TL.joinL [32] ([wNot] ++ q.ws)
      rw [join_app (by simp) (ws_ne q)]
      rfl
    rw [fin] at j
    refine vf_of fun s => ?_
    have e : M__law_query_text (n + 1) = fnM 1 3 (b__law_query_text (M__law_query_text n)) := rfl
    rw [e, b_qtext]
    have b4 := ix20
    have m1 := mkL1
    have ct := cat11
    have t3 := @mkT3
    have ty : isTy "str" (.str " ") = true := rfl
    obtain ⟨⟨c1, c2, c3, c4, c5, c6⟩, d1, d2, d3, d4, d5⟩ := f_not
    clear e ho h h9 hl hq fin
    show wp (fnM 1 3 _ [.tup [.str "not", q.d]] s) _ _
    walk_at "wp"
  | .bin o a b, n + 1, ho, h9, h => by
    have hq : (Qy.bin o a b).dp = max a.dp b.dp + 1 := rfl
    have k := fun w => v_sub2 (a := w) (v_qtext a n ho.1 (by omega) (by omega)) (v_qtext b n ho.2 (by omega) (by omega))
    have hl := tx_len (q := a) ho.1 (by omega)
    have hl' := tx_len (q := b) ho.2 (by omega)
    have fin : ∀ w : Wd, TL.joinL [32] [w, a.tx, b.tx] = TL.joinL [32] (w :: (a.ws ++ b.ws)) := fun w => by
      show _ = TL.joinL [32] ([w] ++ (a.ws ++ b.ws))
      rw [join_app (by simp) (by simp [ws_ne]), join_app (ws_ne a) (ws_ne b)]
      rfl
    have j1 : joinD (.str " ") [.lst [.str "and", .str (S a.tx), .str (S b.tx)]] = some (.str (S (TL.joinL [32] [wAnd, a.tx, b.tx]))) := jn_of (ws := [wAnd, a.tx, b.tx]) (by rw [WL_cons, WL_cons, WL_cons, WL_nil]; show 3 + 1 + _ ≤ _; omega)
    have j2 : joinD (.str " ") [.lst [.str "or", .str (S a.tx), .str (S b.tx)]] = some (.str (S (TL.joinL [32] [wOr, a.tx, b.tx]))) := jn_of (ws := [wOr, a.tx, b.tx]) (by rw [WL_cons, WL_cons, WL_cons, WL_nil]; show 2 + 1 + _ ≤ _; omega)
    rw [fin] at j1 j2
    refine vf_of fun s => ?_
    have e : M__law_query_text (n + 1) = fnM 1 3 (b__law_query_text (M__law_query_text n)) := rfl
    rw [e, b_qtext]
    have b4 := ix30
    have m1 := mkL1
    have ct := cat12
    have t3 := @mkT3
    have ty : isTy "str" (.str " ") = true := rfl
    clear e ho h h9 hl hl' hq fin
    cases o with
    | true =>
      obtain ⟨⟨c1, c2, c3, c4, c5, c6⟩, d1, d2, d3, d4, d5⟩ := f_and
      show wp (fnM 1 3 _ [.tup [.str "and", a.d, b.d]] s) _ _
      walk_at "wp"
      rfl
    | false =>
      obtain ⟨⟨c1, c2, c3, c4, c5, c6⟩, d1, d2, d3, d4, d5⟩ := f_or
      show wp (fnM 1 3 _ [.tup [.str "or", a.d, b.d]] s) _ _
      walk_at "wp"
      rfl
end K50

set_option Elab.async false
set_option linter.all false
set_option maxRecDepth 100000
set_option maxHeartbeats 2000000
namespace K50
open PySem Mir SX
theorem o_mid {l : Wd} {i j : Nat} (hz : l.length ≤ 16777216) (hi : i ≤ l.length) : slD (.str (S l)) (some (i : Int)) (some (j : Int)) = some (.str (S ((l.drop i).take (j - i)))) := by
  show (if small (S l).length = true then some (D.str (L2.cutS (S l) (some (i : Int)) (some (j : Int)))) else none) = _
  rw [if_pos (small_of (by rw [S_len]; exact hz))]
  unfold L2.cutS
  rw [HT.sIx_nat, HT.sIx_nat, S_len, Nat.min_eq_left hi]
  show some (D.str (S ((l.drop i).take (min j l.length - i)))) = _
  have : (l.drop i).take (min j l.length - i) = (l.drop i).take (j - i) := by
    by_cases h : j ≤ l.length
    · rw [Nat.min_eq_left h]
    · rw [Nat.min_eq_right (by omega), List.take_of_length_le (by simp), List.take_of_length_le (by simp; omega)]
  rw [this]
theorem ix_S {s : Sto} {l r : Wd} {i c : Nat} (h : l.drop i = c :: r) (hz : l.length ≤ 16777216) : ixS s (.str (S l)) (.int (i : Int)) = some (.str (S [c])) := by
  have hl : i < l.length := by
    have := congrArg List.length h
    simp at this
    omega
  have e : l[i] = c := by
    have := List.drop_eq_getElem_cons hl
    rw [h] at this
    exact (List.cons.inj this).1.symm
  show ixD (.str (S l)) (.int (i : Int)) = _
  rw [o_ixS hl hz, e]
theorem eq_S {a : Nat} {b : Nat} : eqD (.str (S [a])) (.str (S [b])) = some (.bl (decide (a = b))) := by
  rw [o_eq]; simp
theorem ne_S {a : Nat} {b : Nat} : neD (.str (S [a])) (.str (S [b])) = some (.bl (!decide (a = b))) := by
  rw [o_ne]; simp
theorem o_ltN (i j : Nat) : ltD (.int i) (.int j) = some (.bl (decide (i < j))) := by
  show some (D.bl (decide ((i : Int) < j))) = _
  congr 2; simp
def layT : List (Wd × Nat) → Wd
  | [] => []
  | (w, k) :: ps => w ++ (List.replicate k 32 ++ layT ps)
def Sep : List (Wd × Nat) → Prop
  | [] => True
  | (_, k) :: ps => (ps = [] ∨ 1 ≤ k) ∧ Sep ps
inductive Pc : Wd → Prop
  | q {t : Wd} : 34 ∉ t → Pc (qt t)
  | w {c : Nat} {r : Wd} : c ≠ 34 → 32 ∉ c :: r → Pc (c :: r)
theorem Pc.ne {w : Wd} (h : Pc w) : w ≠ [] := by cases h <;> exact List.cons_ne_nil _ _
def innerW : SD := (sWhile (tAndD (tB1 (e2 ltD (eVar 3) (eNS lenS (aCons (eVar 0) aNil)))) (tB1 (e2 neD (e2S ixS (eVar 0) (eVar 3)) (eC (.str " "))))) (sSet 3 (e2 addDT (eVar 3) (eC (.int 1)))))
def bodyQ : SD := (sSeq (sSet 3 (e2 addDT (eMt "str" find3D (eVar 0) (aCons (eC (.str "\"")) (aCons (e2 addDT (eVar 2) (eC (.int 1))) aNil))) (eC (.int 1))))
    (sSeq (sExpr (eCall M_need_queries (aCons (eAndD (e2 gtI (eVar 3) (eC (.int 0))) (e2S (inS2 false) (eSl (eVar 0) (oSome (eVar 3)) (oSome (e2 addDT (eVar 3) (eC (.int 1))))) (eN mkT (aCons (eC (.str "")) (aCons (eC (.str " ")) aNil))))) aNil)))
    (sApp 1 (eSl (eVar 0) (oSome (eVar 2)) (oSome (eVar 3))))))
def bodyW : SD := (sSeq innerW (sApp 1 (eSl (eVar 0) (oSome (eVar 2)) (oSome (eVar 3)))))
def bodyO : SD := (sSeq (sSet 3 (e2 addDT (eVar 2) (eC (.int 1))))
    (sSeq (sIf (tB1 (e2 eqD (e2S ixS (eVar 0) (eVar 2)) (eC (.str "\"")))) bodyQ (sIf (tB1 (e2 neD (e2S ixS (eVar 0) (eVar 2)) (eC (.str " ")))) bodyW sNext))
    (sSet 2 (eVar 3))))
def outerW : SD := sWhile (tB1 (e2 ltD (eVar 2) (eNS lenS (aCons (eVar 0) aNil)))) bodyO
theorem b_pcs : b_pieces_of = (sSeq (sExpr (eCall M_need_queries (aCons (e2 leD (eNS lenS (aCons (eVar 0) aNil)) (eC (.int 200))) aNil)))
    (sSeq (sSetO 1 (eN mkL aNil))
    (sSeq (sSet 2 (eC (.int 0)))
    (sSeq outerW
    (sRet (eVar 1)))))) := rfl
theorem v_inner {l w rest : Wd} {i : Nat} {fs : D} (hd : l.drop i = w ++ rest) (hw : 32 ∉ w) (hn : w ≠ []) (hr : rest = [] ∨ ∃ r, rest = 32 :: r) (hz : l.length ≤ 200) :
    VS innerW [some (.str (S l)), some fs, some (.int i), some (.int ((i : Int) + 1))] (.nx [some (.str (S l)), some fs, some (.int i), some (.int ((i + w.length : Nat) : Int))]) := by
  have hl : l.length = i + w.length + rest.length := by
    by_cases h : i ≤ l.length
    · have := congrArg List.length hd
      simp at this
      omega
    · rw [List.drop_eq_nil_of_le (by omega)] at hd
      have : w = [] := (List.append_eq_nil_iff.mp hd.symm).1
      exact absurd this hn
  have hw0 : 1 ≤ w.length := List.length_pos_iff.mpr hn
  have hdj : ∀ j, l.drop (i + j) = (w ++ rest).drop j := fun j => by rw [← hd, List.drop_drop]
  suffices hs : ∀ m τ, (∃ j, 1 ≤ j ∧ j ≤ w.length ∧ m = w.length - j ∧ τ = [some (.str (S l)), some fs, some (.int i), some (.int ((i + j : Nat) : Int))]) →
      (VT (tAndD (tB1 (e2 ltD (eVar 3) (eNS lenS (aCons (eVar 0) aNil)))) (tB1 (e2 neD (e2S ixS (eVar 0) (eVar 3)) (eC (.str " "))))) τ false ∧ (Fl.nx τ) = .nx [some (.str (S l)), some fs, some (.int i), some (.int ((i + w.length : Nat) : Int))]) ∨
      (VT (tAndD (tB1 (e2 ltD (eVar 3) (eNS lenS (aCons (eVar 0) aNil)))) (tB1 (e2 neD (e2S ixS (eVar 0) (eVar 3)) (eC (.str " "))))) τ true ∧ ((∃ d, VS (sSet 3 (e2 addDT (eVar 3) (eC (.int 1)))) τ (.rt d) ∧ (Fl.rt d) = .nx [some (.str (S l)), some fs, some (.int i), some (.int ((i + w.length : Nat) : Int))]) ∨
        ∃ τ' m', VS (sSet 3 (e2 addDT (eVar 3) (eC (.int 1)))) τ (.nx τ') ∧ m' < m ∧ ∃ j, 1 ≤ j ∧ j ≤ w.length ∧ m' = w.length - j ∧ τ' = [some (.str (S l)), some fs, some (.int i), some (.int ((i + j : Nat) : Int))])) by
    obtain ⟨fl, h1, h2⟩ := VS.while_ (I := fun m τ => ∃ j, 1 ≤ j ∧ j ≤ w.length ∧ m = w.length - j ∧ τ = [some (.str (S l)), some fs, some (.int i), some (.int ((i + j : Nat) : Int))])
      (Post := fun fl => fl = .nx [some (.str (S l)), some fs, some (.int i), some (.int ((i + w.length : Nat) : Int))]) hs (m := w.length - 1) (by omega) ⟨1, Nat.le_refl _, hw0, rfl, rfl⟩
    rw [h2] at h1
    exact h1
  intro m τ h
  · obtain ⟨j, j1, j2, rfl, rfl⟩ := h
    have lt : ∀ b, decide (i + j < l.length) = b → V1 (e2 ltD (eVar 3) (eNS lenS (aCons (eVar 0) aNil))) [some (.str (S l)), some fs, some (.int i), some (.int ((i + j : Nat) : Int))] (.bl b) := fun b hb =>
      V1.e2 (V1.var rfl) (V1.eNS (VA.one (V1.var rfl)) (lenS_s (by omega))) (by rw [o_ltN, hb])
    by_cases hj : j < w.length
    · refine .inr ⟨VT.andT (VT.v (lt true (decide_eq_true (by omega)))) (VT.v (V1.e2 (y := .str (S [32])) (V1.e2S (V1.var rfl) (V1.var rfl) fun s => ix_S (l := l) (i := i + j) (c := w[j]) (r := w.drop (j + 1) ++ rest) ?_ (by omega)) V1.c (ne_S.trans ?_))), .inr ⟨_, w.length - (j + 1), VS.set (V1.e2 (V1.var rfl) V1.c (o_add _ _)), by omega, j + 1, by omega, by omega, rfl, ?_⟩⟩
      · rw [hdj, List.drop_append_of_le_length (by omega), List.drop_eq_getElem_cons hj]; rfl
      · rw [decide_eq_false (fun h => hw (by rw [← h]; exact List.getElem_mem hj))]; rfl
      · rfl
    · have ej : j = w.length := by omega
      subst ej
      refine .inl ⟨?_, rfl⟩
      rcases hr with rfl | ⟨r, rfl⟩
      · exact VT.andF (VT.v (lt false (decide_eq_false (by simp at hl; omega))))
      · refine VT.andT (VT.v (lt true (decide_eq_true (by simp at hl; omega)))) (VT.v (V1.e2 (y := .str (S [32])) (V1.e2S (V1.var rfl) (V1.var rfl) fun s => ix_S (l := l) (i := i + w.length) (c := 32) (r := r) ?_ (by omega)) V1.c (ne_S.trans ?_)))
        · rw [hdj, List.drop_left]
        · rfl
theorem V1.mtS {op : D → List D → Option D} {a : ED} {fs : AD} {τ : Ev} {x : Str} {xs : List D} {d : D} (h : V1 a τ (.str x)) (k : VA fs τ xs) (e : op (.str x) xs = some d) : V1 (eMt "str" op a fs) τ d := V1.mt h k rfl e
theorem in_end (s : Sto) : inS2 false s (.str (S [])) (.tup [.str "", .str " "]) = some (.bl true) := by kernel_rfl
theorem in_bl (s : Sto) : inS2 false s (.str (S [32])) (.tup [.str "", .str " "]) = some (.bl true) := by kernel_rfl
theorem v_bodyQ {l t rest : Wd} {i : Nat} {fs : List Wd} (hd : l.drop i = qt t ++ rest) (ht : 34 ∉ t) (hr : rest = [] ∨ ∃ r, rest = 32 :: r) (hz : l.length ≤ 200) (hi : i ≤ l.length) (hf : fs.length ≤ 1000) {e3 : Option D} :
    VS bodyQ [some (.str (S l)), some (.lst (sD fs)), some (.int i), e3] (.nx [some (.str (S l)), some (.lst (sD (fs ++ [qt t]))), some (.int i), some (.int ((i + (qt t).length : Nat) : Int))]) := by
  have hl : l.length = i + (t.length + 2) + rest.length := by
    have := congrArg List.length hd
    rw [List.length_append, qt_len] at this
    simp at this
    omega
  have hd1 : l.drop (i + 1) = t ++ 34 :: rest := by
    rw [← List.drop_drop, hd]
    show (t ++ [34] ++ rest) = _
    simp
  have hd2 : l.drop (i + t.length + 2) = rest := by
    have : i + t.length + 2 = i + (qt t).length := by rw [qt_len]; omega
    rw [this, ← List.drop_drop, hd, List.drop_left]
  refine VS.seq (VS.set (d := .int ((i + t.length + 2 : Nat) : Int)) (V1.e2 (x := .int ((i + 1 + t.length : Nat) : Int)) (V1.mtS (V1.var rfl) (VA.cons V1.c (VA.one (V1.e2 (V1.var rfl) V1.c (o_add _ _)))) ?_) V1.c ?_)) ?_
  · show some (D.int (Txt.find3 (S l) (S [34]) ((i + 1 : Nat) : Int))) = _
    rw [find3_S hd1 ht (by omega)]
  · rw [o_add]; congr 2; omega
  refine VS.seq (VS.ex (V1.call (VA.one (V1.andT (V1.e2 (V1.var rfl) V1.c ?_) (V1.e2S (x := .str (S (rest.take 1))) (V1.sl (V1.var rfl) (VO.som (V1.var rfl)) (VO.som (V1.e2 (V1.var rfl) V1.c (o_add _ _))) ?_) (V1.eN (VA.cons V1.c (VA.one V1.c)) mkT2) (fun s => ?_)))) v_need)) ?_
  · show some (D.bl (decide ((((i + t.length + 2 : Nat) : Int)) > 0))) = _
    rw [decide_eq_true (by omega)]
  · have := o_mid (l := l) (i := i + t.length + 2) (j := i + t.length + 3) (by omega) (by omega)
    have e : i + t.length + 3 - (i + t.length + 2) = 1 := by omega
    rw [hd2, e] at this
    exact this
  · rcases hr with rfl | ⟨r, rfl⟩
    · exact in_end s
    · exact in_bl s
  · have := VS.app (i := 1) (τ := [some (.str (S l)), some (.lst (sD fs)), some (.int i), some (.int ((i + t.length + 2 : Nat) : Int))]) (xs := sD fs) (a := eSl (eVar 0) (oSome (eVar 2)) (oSome (eVar 3))) (d := .str (S (qt t))) rfl (V1.sl (V1.var rfl) (VO.som (V1.var rfl)) (VO.som (V1.var rfl)) ?_) (small_of (by simp [sD]; omega))
    · have e1 : sD fs ++ [.str (S (qt t))] = sD (fs ++ [qt t]) := by simp [sD]
      rw [e1] at this
      have e2 : i + (qt t).length = i + t.length + 2 := by rw [qt_len]; omega
      rw [e2]
      exact this
    · have := o_mid (l := l) (i := i) (j := i + t.length + 2) (by omega) hi
      have e : i + t.length + 2 - i = (qt t).length := by rw [qt_len]; omega
      rw [hd, e, List.take_left] at this
      exact this
theorem v_bodyW {l w rest : Wd} {i : Nat} {fs : List Wd} (hd : l.drop i = w ++ rest) (hw : 32 ∉ w) (hn : w ≠ []) (hr : rest = [] ∨ ∃ r, rest = 32 :: r) (hz : l.length ≤ 200) (hi : i ≤ l.length) (hf : fs.length ≤ 1000) :
    VS bodyW [some (.str (S l)), some (.lst (sD fs)), some (.int i), some (.int ((i : Int) + 1))] (.nx [some (.str (S l)), some (.lst (sD (fs ++ [w]))), some (.int i), some (.int ((i + w.length : Nat) : Int))]) := by
  refine VS.seq (v_inner hd hw hn hr hz) ?_
  have := VS.app (i := 1) (τ := [some (.str (S l)), some (.lst (sD fs)), some (.int i), some (.int ((i + w.length : Nat) : Int))]) (xs := sD fs) (a := eSl (eVar 0) (oSome (eVar 2)) (oSome (eVar 3))) (d := .str (S w)) rfl (V1.sl (V1.var rfl) (VO.som (V1.var rfl)) (VO.som (V1.var rfl)) ?_) (small_of (by simp [sD]; omega))
  · have e1 : sD fs ++ [.str (S w)] = sD (fs ++ [w]) := by simp [sD]
    rw [e1] at this
    exact this
  · have := o_mid (l := l) (i := i) (j := i + w.length) (by omega) hi
    have e : i + w.length - i = w.length := by omega
    rw [hd, e, List.take_left] at this
    exact this
end K50

set_option Elab.async false
set_option linter.all false
set_option maxRecDepth 100000
set_option maxHeartbeats 2000000
namespace K50
open PySem Mir SX
def InvP (l : Wd) (ws : List Wd) (m : Nat) (τ : Ev) : Prop := ∃ (i a : Nat) (ps : List (Wd × Nat)) (fs : List Wd) (e3 : Option D), l.drop i = List.replicate a 32 ++ layT ps ∧ i ≤ l.length ∧ Sep ps ∧ (∀ p ∈ ps, Pc p.1) ∧ fs ++ ps.map (·.1) = ws ∧ m = l.length - i ∧ τ = [some (.str (S l)), some (.lst (sD fs)), some (.int i), e3]
theorem lay_head {ps : List (Wd × Nat)} {k : Nat} (h : ps = [] ∨ 1 ≤ k) : List.replicate k 32 ++ layT ps = [] ∨ ∃ r, List.replicate k 32 ++ layT ps = 32 :: r := by
  cases k with
  | zero =>
    rcases h with rfl | h
    · exact .inl rfl
    · omega
  | succ k => exact .inr ⟨_, rfl⟩
theorem v_outer {l : Wd} {ws : List Wd} (hz : l.length ≤ 200) (hws : ws.length ≤ 1000) {m : Nat} {τ : Ev} (hm : m < 1000000) (hi : InvP l ws m τ) :
    ∃ i e3, VS outerW τ (.nx [some (.str (S l)), some (.lst (sD ws)), some (.int i), e3]) := by
  suffices hs : ∀ m τ, InvP l ws m τ → (VT (tB1 (e2 ltD (eVar 2) (eNS lenS (aCons (eVar 0) aNil)))) τ false ∧ ∃ i e3, (Fl.nx τ) = .nx [some (.str (S l)), some (.lst (sD ws)), some (.int i), e3]) ∨
      (VT (tB1 (e2 ltD (eVar 2) (eNS lenS (aCons (eVar 0) aNil)))) τ true ∧ ((∃ d, VS bodyO τ (.rt d) ∧ ∃ i e3, (Fl.rt d) = .nx [some (.str (S l)), some (.lst (sD ws)), some (.int i), e3]) ∨ ∃ τ' m', VS bodyO τ (.nx τ') ∧ m' < m ∧ InvP l ws m' τ')) by
    obtain ⟨fl, h1, i, e3, h2⟩ := VS.while_ (I := InvP l ws) (Post := fun fl => ∃ i e3, fl = .nx [some (.str (S l)), some (.lst (sD ws)), some (.int i), e3]) hs hm hi
    rw [h2] at h1
    exact ⟨i, e3, h1⟩
  rintro m τ ⟨i, a, ps, fs, e3, hd, hi, hsep, hpc, hfs, rfl, rfl⟩
  have hfl : fs.length ≤ 1000 := by
    have := congrArg List.length hfs
    simp at this
    omega
  have lt : ∀ b, decide (i < l.length) = b → VT (tB1 (e2 ltD (eVar 2) (eNS lenS (aCons (eVar 0) aNil)))) [some (.str (S l)), some (.lst (sD fs)), some (.int i), e3] b := fun b hb =>
    VT.v (V1.e2 (V1.var rfl) (V1.eNS (VA.one (V1.var rfl)) (lenS_s (by omega))) (by rw [o_ltN, hb]))
  have up : V1 (e2 addDT (eVar 2) (eC (.int 1))) [some (.str (S l)), some (.lst (sD fs)), some (.int i), e3] (.int ((i : Int) + 1)) := V1.e2 (V1.var rfl) V1.c (o_add _ _)
  cases a with
  | succ a =>
    have hlt : i < l.length := by
      have := congrArg List.length hd
      simp at this
      omega
    have hc : l.drop i = 32 :: (List.replicate a 32 ++ layT ps) := hd
    have ix : ∀ s, ixS s (.str (S l)) (.int (i : Int)) = some (.str (S [32])) := fun s => ix_S hc (by omega)
    refine .inr ⟨lt true (decide_eq_true hlt), .inr ⟨_, l.length - (i + 1), VS.seq (VS.set up) (VS.seq (VS.ifF (VT.v (V1.e2 (y := .str (S [34])) (V1.e2S (V1.var rfl) (V1.var rfl) ix) V1.c (eq_S.trans rfl))) (VS.ifF (VT.v (V1.e2 (y := .str (S [32])) (V1.e2S (V1.var rfl) (V1.var rfl) ix) V1.c (ne_S.trans rfl))) VS.next)) (VS.set (V1.var rfl))), by omega, i + 1, a, ps, fs, _, ?_, hlt, hsep, hpc, hfs, rfl, rfl⟩⟩
    rw [← List.drop_drop, hc]; rfl
  | zero =>
    have hd : l.drop i = layT ps := hd
    cases ps with
    | nil =>
      have hl : l.length ≤ i := by
        have := congrArg List.length hd
        simp [layT] at this
        omega
      have e : fs = ws := by rw [← hfs]; simp
      subst e
      exact .inl ⟨lt false (decide_eq_false (by omega)), _, _, rfl⟩
    | cons p ps =>
      obtain ⟨w, k⟩ := p
      have hp := hpc (w, k) (List.mem_cons_self ..)
      have hr := lay_head hsep.1
      have hd : l.drop i = w ++ (List.replicate k 32 ++ layT ps) := hd
      have hwn : w ≠ [] := hp.ne
      have hw0 : 1 ≤ w.length := List.length_pos_iff.mpr hwn
      have hlt : i + w.length ≤ l.length := by
        have := congrArg List.length hd
        simp at this
        omega
      have hn : l.drop (i + w.length) = List.replicate k 32 ++ layT ps := by rw [← List.drop_drop, hd, List.drop_left]
      have hfs' : (fs ++ [w]) ++ ps.map (·.1) = ws := by rw [← hfs]; simp
      refine .inr ⟨lt true (decide_eq_true (by omega)), .inr ⟨[some (.str (S l)), some (.lst (sD (fs ++ [w]))), some (.int ((i + w.length : Nat) : Int)), some (.int ((i + w.length : Nat) : Int))], l.length - (i + w.length), VS.seq (VS.set up) (VS.seq (τ' := [some (.str (S l)), some (.lst (sD (fs ++ [w]))), some (.int i), some (.int ((i + w.length : Nat) : Int))]) ?_ (VS.set (V1.var rfl))), by omega, i + w.length, k, ps, fs ++ [w], _, hn, hlt, hsep.2, fun p hp => hpc p (List.mem_cons_of_mem _ hp), hfs', rfl, rfl⟩⟩
      cases hp with
      | q ht =>
        have ix : ∀ s, ixS s (.str (S l)) (.int (i : Int)) = some (.str (S [34])) := fun s => ix_S hd (by omega)
        exact VS.ifT (VT.v (V1.e2 (y := .str (S [34])) (V1.e2S (V1.var rfl) (V1.var rfl) ix) V1.c (eq_S.trans rfl))) (v_bodyQ hd ht hr hz hi hfl)
      | @w c r hc hb =>
        have ix : ∀ s, ixS s (.str (S l)) (.int (i : Int)) = some (.str (S [c])) := fun s => ix_S hd (by omega)
        refine VS.ifF (VT.v (V1.e2 (y := .str (S [34])) (V1.e2S (V1.var rfl) (V1.var rfl) ix) V1.c (eq_S.trans (by rw [decide_eq_false hc])))) (VS.ifT (VT.v (V1.e2 (y := .str (S [32])) (V1.e2S (V1.var rfl) (V1.var rfl) ix) V1.c (ne_S.trans (by rw [decide_eq_false (fun h => hb (by rw [← h]; exact List.mem_cons_self ..))]; rfl)))) (v_bodyW hd hb hwn hr hz hi hfl))
theorem v_pieces {l : Wd} {a : Nat} {ps : List (Wd × Nat)} (hd : l = List.replicate a 32 ++ layT ps) (hz : l.length ≤ 200) (hs : Sep ps) (hp : ∀ p ∈ ps, Pc p.1) (hps : ps.length ≤ 1000) : VF M_pieces_of [.str (S l)] (.lst (sD (ps.map (·.1)))) := by
  obtain ⟨i, e3, h⟩ := v_outer (l := l) (ws := ps.map (·.1)) hz (by simpa using hps) (m := l.length) (τ := [some (.str (S l)), some (.lst []), some (.int 0), none]) (by omega) ⟨0, a, ps, [], none, by rw [List.drop_zero, hd], Nat.zero_le _, hs, hp, rfl, rfl, rfl⟩
  unfold M_pieces_of
  rw [b_pcs]
  refine VF.mk rfl (VS.seq (VS.ex (V1.call (VA.one (V1.e2 (V1.eNS (VA.one (V1.var rfl)) (lenS_s (by omega))) V1.c ?_)) v_need)) (VS.seq (VS.setO (V1.eN VA.nil rfl) rfl) (VS.seq (VS.set V1.c) (VS.seq h (VS.ret (V1.var rfl))))))
  show some (D.bl (decide ((l.length : Int) ≤ 200))) = _
  rw [decide_eq_true (by omega)]
end K50

set_option Elab.async false
set_option linter.all false
set_option maxRecDepth 100000
set_option maxHeartbeats 2000000
namespace K50
open PySem Mir SX
theorem need_b (v : Bool) (s : Sto) : M_need_queries [.bl v] s = if v = true then .ok .non s else .exc "BadQuery" s := by cases v <;> rfl
theorem seq_need {E : ED} {q : SD} {τ : Ev} {v : Bool} (h : V1 E τ (.bl v)) (s : Sto) : (sSeq (sExpr (eCall M_need_queries (aCons E aNil))) q) τ s = if v = true then q τ s else .exc "BadQuery" s := by
  unfold sSeq sExpr eCall aCons
  rw [h s]
  cases v <;> rfl
theorem o_inner {t : Wd} (hz : t.length ≤ 1000) : slD (.str (S (qt t))) (some 1) (some (-1)) = some (.str (S t)) := by
  show (if small (S (qt t)).length = true then some (D.str (L2.cutS (S (qt t)) (some 1) (some (-1)))) else none) = _
  rw [if_pos (small_of (by rw [S_len, qt_len]; omega))]
  unfold L2.cutS
  rw [S_len, qt_len]
  have e1 : HT.sIx (t.length + 2) 0 (some 1) = 1 := by
    show (if (1 : Int) < 0 then ((1 : Int) + ((t.length + 2 : Nat) : Int)).toNat else min (1 : Int).toNat (t.length + 2)) = 1
    rw [if_neg (by omega)]
    show min 1 (t.length + 2) = 1
    omega
  have e2 : HT.sIx (t.length + 2) (t.length + 2) (some (-1)) = t.length + 1 := by
    show (if (-1 : Int) < 0 then ((-1 : Int) + ((t.length + 2 : Nat) : Int)).toNat else min (-1 : Int).toNat (t.length + 2)) = t.length + 1
    rw [if_pos (by omega)]
    omega
  rw [e1, e2]
  show some (D.str (S ((t ++ [34]).take (t.length + 1 - 1)))) = _
  rw [Nat.add_sub_cancel, List.take_left]
theorem rq_q {t : Wd} (hz : t.length ≤ 1000) (m : Nat) (s : Sto) : restQ [some (.obj m), some (.str (S (qt t)))] s = .ok (.rt (.str (S t))) s := by
  have h : V1 (e2 eqD (e2S ixS (eVar 1) (eC (.int 0))) (eC (.str "\""))) [some (.obj m), some (.str (S (qt t)))] (.bl true) :=
    V1.e2 (y := .str (S [34])) (V1.e2S (V1.var rfl) V1.c fun s => ix_S (l := qt t) (i := 0) (c := 34) (r := t ++ [34]) rfl (by rw [qt_len]; omega)) V1.c (eq_S.trans rfl)
  unfold restQ
  rw [seq_need h, if_pos rfl]
  exact VS.ret (V1.sl (V1.var rfl) (VO.som V1.c) (VO.som (V1.e1 V1.c rfl)) (o_inner hz)) s
theorem rq_w {c : Nat} {r : Wd} (hc : c ≠ 34) (hz : r.length ≤ 1000) (m : Nat) (s : Sto) : restQ [some (.obj m), some (.str (S (c :: r)))] s = .exc "BadQuery" s := by
  have h : V1 (e2 eqD (e2S ixS (eVar 1) (eC (.int 0))) (eC (.str "\""))) [some (.obj m), some (.str (S (c :: r)))] (.bl false) :=
    V1.e2 (y := .str (S [34])) (V1.e2S (V1.var rfl) V1.c fun s => ix_S (l := c :: r) (i := 0) (c := c) (r := r) rfl (by simp; omega)) V1.c (eq_S.trans (by rw [decide_eq_false hc]))
  unfold restQ
  rw [seq_need h, if_neg (by decide)]
def isDg (c : Nat) : Bool := decide (48 ≤ c) && decide (c ≤ 57)
theorem dg_mem {c : Nat} : decide (c ∈ ([48, 49, 50, 51, 52, 53, 54, 55, 56, 57] : Wd)) = isDg c := by
  unfold isDg
  by_cases h : 48 ≤ c ∧ c ≤ 57
  · have : c = 48 + (c - 48) := by omega
    have key : ∀ k < 10, 48 + k ∈ ([48, 49, 50, 51, 52, 53, 54, 55, 56, 57] : Wd) := by decide
    rw [decide_eq_true h.1, decide_eq_true h.2, decide_eq_true (by rw [this]; exact key _ (by omega))]
    rfl
  · have h1 : c ∉ ([48, 49, 50, 51, 52, 53, 54, 55, 56, 57] : Wd) := fun hm => h (by
      have key : ∀ x ∈ ([48, 49, 50, 51, 52, 53, 54, 55, 56, 57] : Wd), 48 ≤ x ∧ x ≤ 57 := by decide
      exact key c hm)
    rw [decide_eq_false h1]
    by_cases h2 : 48 ≤ c
    · rw [decide_eq_true h2, decide_eq_false (fun h3 => h ⟨h2, h3⟩)]; rfl
    · rw [decide_eq_false h2]; rfl
def E1 : ED := (eAndD (eCh leD leD (eC (.int 1)) (eNS lenS (aCons (eVar 1) aNil)) (eC (.int 4))) (eN allD (aCons (eLc0 (iStrD (eVar 1)) (gNm 2) tYesD (e2S (inS2 false) (eVar 2) (eC (.str "0123456789"))) [2]) aNil)))
def E2 : ED := (eOrD (e2 eqD (eVar 1) (eC (.str "0"))) (e2 neD (e2S ixS (eVar 1) (eC (.int 0))) (eC (.str "0"))))
theorem rest_c : restC = sSeq (sExpr (eCall M_need_queries (aCons E1 aNil))) (sSeq (sExpr (eCall M_need_queries (aCons E2 aNil))) (sRet (eN intD (aCons (eVar 1) aNil)))) := rfl
def dgW (w : Wd) : Bool := decide (w.length ≤ 4) && w.all isDg
theorem v_E1 {w : Wd} (h1 : w ≠ []) (hz : w.length ≤ 1000) (m : Nat) : V1 E1 [some (.obj m), some (.str (S w)), none] (.bl (dgW w)) := by
  have h0 : 1 ≤ w.length := List.length_pos_iff.mpr h1
  have hc : V1 (eCh leD leD (eC (.int 1)) (eNS lenS (aCons (eVar 1) aNil)) (eC (.int 4))) [some (.obj m), some (.str (S w)), none] (.bl (decide (w.length ≤ 4))) := by
    refine V1.ch' (x := .int 1) (y := .int w.length) (z := .int 4) V1.c (V1.eNS (VA.one (V1.var rfl)) (lenS_s (by omega))) ?_ V1.c ?_
    · show some (D.bl (decide ((1 : Int) ≤ w.length))) = _
      rw [decide_eq_true (by omega)]
    · show some (D.bl (decide ((w.length : Int) ≤ 4))) = _
      congr 2
      exact decide_eq_decide.mpr ⟨fun h => by omega, fun h => by omega⟩
  unfold dgW
  by_cases h4 : w.length ≤ 4
  · rw [decide_eq_true h4] at hc ⊢
    refine V1.andT hc (V1.eN (VA.one (V1.lc0M (ds := (S w).cps.toList.map fun k => .str ⟨#[k]⟩) (fun d => match d with | .str z => .bl (match z.cps.toList with | [c] => isDg c | _ => false) | _ => .bl false) (VA.str (V1.var rfl)) (small_of (by rw [List.length_map]; show w.length ≤ _; omega)) fun d hd => ?_)) ?_)
    · obtain ⟨c, hc, rfl⟩ := List.mem_map.mp hd
      exact ⟨_, rfl, V1.e2S (x := .str (S [c])) (y := .str (S [48, 49, 50, 51, 52, 53, 54, 55, 56, 57])) (V1.var rfl) V1.c fun s => in_S.trans (by rw [dg_mem])⟩
    · rw [List.map_map]
      refine (o_all w isDg).trans ?_
      rfl
  · rw [decide_eq_false h4] at hc ⊢
    exact V1.andF hc
def e2W (w : Wd) : Bool := decide (w = [48]) || !decide (w.head? = some 48)
theorem v_E2 {w : Wd} (h1 : w ≠ []) (hz : w.length ≤ 1000) (m : Nat) : V1 E2 [some (.obj m), some (.str (S w)), none] (.bl (e2W w)) := by
  have ha : V1 (e2 eqD (eVar 1) (eC (.str "0"))) [some (.obj m), some (.str (S w)), none] (.bl (decide (w = [48]))) := V1.e2 (y := .str (S [48])) (V1.var rfl) V1.c o_eq
  unfold e2W
  by_cases h : w = [48]
  · rw [decide_eq_true h] at ha ⊢
    exact V1.orT ha
  · rw [decide_eq_false h] at ha ⊢
    cases w with
    | nil => exact absurd rfl h1
    | cons c r =>
      refine V1.orF ha (V1.e2 (y := .str (S [48])) (V1.e2S (V1.var rfl) V1.c fun s => ix_S (l := c :: r) (i := 0) (c := c) (r := r) rfl (by omega)) V1.c (ne_S.trans ?_))
      simp
theorem int_w {w : Wd} {i : Int} (h : PySem.intText? (S w) = some i) (hz : w.length ≤ 640) : intD [.str (S w)] = some (.int i) := by
  show (if decide ((S w).length ≤ 640) = true then (PySem.intText? (S w)).map D.int else none) = _
  rw [S_len, if_pos (decide_eq_true hz), h]
  rfl
theorem rc_any {w : Wd} (h1 : w ≠ []) (hz : w.length ≤ 1000) (m : Nat) (s : Sto) : restC [some (.obj m), some (.str (S w)), none] s = if dgW w = true then (if e2W w = true then .ok (.rt (.int (NumText.digitsVal w : Nat))) s else .exc "BadQuery" s) else .exc "BadQuery" s := by
  rw [rest_c, seq_need (v_E1 h1 hz m), seq_need (v_E2 h1 hz m)]
  by_cases hd : dgW w = true
  · rw [if_pos hd, if_pos hd]
    by_cases he : e2W w = true
    · rw [if_pos he, if_pos he]
      refine VS.ret (V1.eN (VA.one (V1.var rfl)) ?_) s
      have ha : w.all (fun c => decide (48 ≤ c) && decide (c ≤ 57)) = true := (Bool.and_eq_true_iff.mp hd).2
      have := int_S ha h1 (by omega)
      exact int_w this (by have : w.length ≤ 4 := of_decide_eq_true (Bool.and_eq_true_iff.mp hd).1; omega)
    · rw [if_neg he, if_neg he]
  · rw [if_neg hd, if_neg hd]
theorem wok {w : Wd} (h : Pc w) (hz : w.length ≤ 1000) : WOk (.str (S w)) := by
  refine ⟨fun s m => ?_, fun s m => ?_⟩
  · cases h with
    | @q t ht =>
      rw [qt_len] at hz
      exact .inl ⟨_, rq_q (by omega) m s, rq_q (by omega) 0 []⟩
    | @w c r hc hb => exact .inr ⟨rq_w hc (by simp at hz; omega) m s, rq_w hc (by simp at hz; omega) 0 []⟩
  · rw [rc_any h.ne hz, rc_any h.ne hz]
    by_cases hd : dgW w = true
    · rw [if_pos hd, if_pos hd]
      by_cases he : e2W w = true
      · rw [if_pos he, if_pos he]; exact .inl ⟨_, rfl, rfl⟩
      · rw [if_neg he, if_neg he]; exact .inr ⟨rfl, rfl⟩
    · rw [if_neg hd, if_neg hd]; exact .inr ⟨rfl, rfl⟩
theorem num_head : ∀ (k n : Nat), n < k → 1 ≤ n → (TL.numL n).head? ≠ some 48
  | 0, _, h, _ => absurd h (Nat.not_lt_zero _)
  | k + 1, n, hk, h => by
    by_cases h10 : n < 10
    · rw [TL.numL_lt h10]
      show some (48 + n) ≠ some 48
      intro e
      have := Option.some.inj e
      omega
    · rw [TL.numL_step (by omega)]
      have ih := num_head k (n / 10) (by omega) (by omega)
      have hne := TL.numL_ne (n / 10)
      cases e : TL.numL (n / 10) with
      | nil => exact absurd e hne
      | cons c r => rw [e] at ih; exact ih
theorem num_dg {n : Nat} (h : n ≤ 9999) : dgW (TL.numL n) = true := by
  unfold dgW
  rw [decide_eq_true (num_len h)]
  refine List.all_eq_true.mpr fun c hc => ?_
  have := TL.numL_digits n c hc
  unfold isDg
  rw [decide_eq_true this.1, decide_eq_true this.2]
  rfl
theorem num_e2 {n : Nat} : e2W (TL.numL n) = true := by
  unfold e2W
  by_cases h : n = 0
  · subst h; rfl
  · rw [decide_eq_false (num_head (n + 1) n (by omega) (by omega))]
    simp
theorem rc_num {n : Nat} (h : n ≤ 9999) (m : Nat) (s : Sto) : restC [some (.obj m), some (.str (S (TL.numL n))), none] s = .ok (.rt (.int n)) s := by
  rw [rc_any (TL.numL_ne n) (by have := num_len h; omega), if_pos (num_dg h), if_pos num_e2, TL.numL_val]
end K50

set_option Elab.async false
set_option linter.all false
set_option maxRecDepth 100000
set_option maxHeartbeats 2000000
namespace K50
open PySem Mir SX
theorem take_get {L : List Wd} {r : Nat} {w : Wd} (h : L[r]? = some w) : pTake (sD L) r = .ok (.str (S w)) (r + 1) := by
  unfold pTake
  have : (sD L)[r]? = some (.str (S w)) := by simp [sD, h]
  rw [this]
theorem quoted_get {L : List Wd} {r : Nat} {t : Wd} (h : L[r]? = some (qt t)) (hz : t.length ≤ 1000) : pQuoted (sD L) r = .ok (.str (S t)) (r + 1) := by
  unfold pQuoted
  rw [take_get h]
  show ofF (restQ [some (.obj 0), some (.str (S (qt t)))] []) (r + 1) = _
  rw [rq_q hz]
  rfl
theorem counted_get {L : List Wd} {r : Nat} {n : Nat} (h : L[r]? = some (TL.numL n)) (hz : n ≤ 9999) : pCounted (sD L) r = .ok (.int n) (r + 1) := by
  unfold pCounted
  rw [take_get h]
  show ofF (restC [some (.obj 0), some (.str (S (TL.numL n))), none] []) (r + 1) = _
  rw [rc_num hz]
  rfl
theorem tst_t {a b : PR} : tst (some (.bl true)) a b = a := rfl
theorem tst_f {a b : PR} : tst (some (.bl false)) a b = b := rfl
theorem bind_ok {d : D} {r : Nat} {f : D → Nat → PR} : (PR.ok d r).bind f = f d r := rfl
theorem pq_ok : ∀ (q : Qy) (n deep : Nat) (pre post : List Wd), q.ok → q.dp ≤ n → deep + q.dp ≤ 8 → pq n (sD (pre ++ (q.ws ++ post))) pre.length deep = .ok q.d (pre.length + q.ws.length)
  | q, 0, _, _, _, _, h, _ => by cases q <;> simp [Qy.dp] at h
  | .leaf l, n + 1, deep, pre, post, ho, h, hd => by
    have hd : decide ((deep : Int) < 8) = true := decide_eq_true (by have : (Qy.leaf l).dp = 1 := rfl; omega)
    unfold pq
    rw [o_ltI, hd, tst_t]
    cases l with
    | all =>
      obtain ⟨⟨c1, c2, c3, c4, c5, c6⟩, d1, d2, d3, d4, d5⟩ := f_all
      have g0 : (pre ++ ((Qy.leaf .all).ws ++ post))[pre.length]? = some wAll := by simp [Qy.ws, Lf.ws]
      rw [take_get g0, bind_ok, ← e_all, c2, tst_f, c3, tst_f, c5, tst_f, d4, tst_f, c6, tst_f, d5, tst_f]
      rfl
    | mark m =>
      obtain ⟨⟨c1, c2, c3, c4, c5, c6⟩, d1, d2, d3, d4, d5⟩ := f_mark
      have g0 : (pre ++ ((Qy.leaf (.mark m)).ws ++ post))[pre.length]? = some wMark := by simp [Qy.ws, Lf.ws]
      have g1 : (pre ++ ((Qy.leaf (.mark m)).ws ++ post))[pre.length + 1]? = some m := by simp [Qy.ws, Lf.ws, List.getElem?_append_right]
      rw [take_get g0, bind_ok, ← e_mark, c2, tst_f, c3, tst_f, c5, tst_f, d4, tst_t, take_get g1, bind_ok]
      rfl
    | numbers m =>
      obtain ⟨⟨c1, c2, c3, c4, c5, c6⟩, d1, d2, d3, d4, d5⟩ := f_numbers
      have g0 : (pre ++ ((Qy.leaf (.numbers m)).ws ++ post))[pre.length]? = some wNumbers := by simp [Qy.ws, Lf.ws]
      have g1 : (pre ++ ((Qy.leaf (.numbers m)).ws ++ post))[pre.length + 1]? = some m := by simp [Qy.ws, Lf.ws, List.getElem?_append_right]
      rw [take_get g0, bind_ok, ← e_numbers, c2, tst_f, c3, tst_f, c5, tst_f, d4, tst_t, take_get g1, bind_ok]
      rfl
    | newer m =>
      obtain ⟨⟨c1, c2, c3, c4, c5, c6⟩, d1, d2, d3, d4, d5⟩ := f_newer
      have g0 : (pre ++ ((Qy.leaf (.newer m)).ws ++ post))[pre.length]? = some wNewer := by simp [Qy.ws, Lf.ws]
      have g1 : (pre ++ ((Qy.leaf (.newer m)).ws ++ post))[pre.length + 1]? = some (TL.numL m) := by simp [Qy.ws, Lf.ws, List.getElem?_append_right]
      rw [take_get g0, bind_ok, ← e_newer, c2, tst_f, c3, tst_f, c5, tst_t, counted_get g1 ho, bind_ok]
      rfl
    | body t =>
      obtain ⟨⟨c1, c2, c3, c4, c5, c6⟩, d1, d2, d3, d4, d5⟩ := f_body
      have g0 : (pre ++ ((Qy.leaf (.body t)).ws ++ post))[pre.length]? = some wBody := by simp [Qy.ws, Lf.ws]
      have g1 : (pre ++ ((Qy.leaf (.body t)).ws ++ post))[pre.length + 1]? = some (qt t) := by simp [Qy.ws, Lf.ws, List.getElem?_append_right]
      rw [take_get g0, bind_ok, ← e_body, c2, tst_f, c3, tst_t, quoted_get g1 (by have := (show TxtW t from ho).1; omega), bind_ok]
      rfl
    | head nm t =>
      obtain ⟨⟨c1, c2, c3, c4, c5, c6⟩, d1, d2, d3, d4, d5⟩ := f_head
      have g0 : (pre ++ ((Qy.leaf (.head nm t)).ws ++ post))[pre.length]? = some wHead := by simp [Qy.ws, Lf.ws]
      have g1 : (pre ++ ((Qy.leaf (.head nm t)).ws ++ post))[pre.length + 1]? = some nm := by simp [Qy.ws, Lf.ws, List.getElem?_append_right]
      have g2 : (pre ++ ((Qy.leaf (.head nm t)).ws ++ post))[pre.length + 1 + 1]? = some (qt t) := by simp [Qy.ws, Lf.ws, List.getElem?_append_right, Nat.add_assoc]
      rw [take_get g0, bind_ok, ← e_head, c2, tst_t, take_get g1, bind_ok, quoted_get g2 (by have := (show LowW 12 nm ∧ TxtW t from ho).2.1; omega), bind_ok]
      rfl
  | .not q, n + 1, deep, pre, post, ho, h, hd => by
    have hq : (Qy.not q).dp = q.dp + 1 := rfl
    have ih := pq_ok q n (deep + 1) (pre ++ [wNot]) post ho (by omega) (by omega)
    have hd : decide ((deep : Int) < 8) = true := decide_eq_true (by omega)
    unfold pq
    rw [o_ltI, hd, tst_t]
    obtain ⟨⟨c1, c2, c3, c4, c5, c6⟩, d1, d2, d3, d4, d5⟩ := f_not
    have g0 : (pre ++ ((Qy.not q).ws ++ post))[pre.length]? = some wNot := by simp [Qy.ws]
    rw [take_get g0, bind_ok, ← e_not, c2, tst_f, c3, tst_f, c5, tst_f, d4, tst_f, c6, tst_t]
    have e1 : pre ++ ((Qy.not q).ws ++ post) = pre ++ [wNot] ++ (q.ws ++ post) := by simp [Qy.ws]
    have e2 : (pre ++ [wNot]).length = pre.length + 1 := by simp
    rw [e2] at ih
    rw [e1]
    have ih : pq n (sD (pre ++ [wNot] ++ (q.ws ++ post))) (pre.length + 1) ((deep : Int) + 1) = _ := ih
    rw [ih, bind_ok]
    show PR.ok (Qy.not q).d (pre.length + 1 + q.ws.length) = .ok _ (pre.length + (q.ws.length + 1))
    congr 1; omega
  | .bin o a b, n + 1, deep, pre, post, ho, h, hd => by
    have hq : (Qy.bin o a b).dp = max a.dp b.dp + 1 := rfl
    have hd8 : decide ((deep : Int) < 8) = true := decide_eq_true (by omega)
    have key : ∀ w : Wd, (Qy.bin o a b).ws = w :: (a.ws ++ b.ws) → (∃ c : D, .str (S w) = c ∧ eqD c (.str "head") = some (.bl false) ∧ eqD c (.str "body") = some (.bl false) ∧ eqD c (.str "newer") = some (.bl false) ∧ inD c (.tup [.str "mark", .str "numbers"]) = some (.bl false) ∧ eqD c (.str "not") = some (.bl false) ∧ inD c (.tup [.str "or", .str "and"]) = some (.bl true) ∧ (Qy.bin o a b).d = .tup [c, a.d, b.d]) →
        pq (n + 1) (sD (pre ++ ((Qy.bin o a b).ws ++ post))) pre.length deep = .ok (Qy.bin o a b).d (pre.length + (Qy.bin o a b).ws.length) := by
      intro w hw hc
      obtain ⟨c, hc, c2, c3, c5, d4, c6, d5, hdd⟩ := hc
      have ih := pq_ok a n (deep + 1) (pre ++ [w]) (b.ws ++ post) ho.1 (by omega) (by omega)
      have ih' := pq_ok b n (deep + 1) (pre ++ (w :: a.ws)) post ho.2 (by omega) (by omega)
      rw [hw, hdd]
      unfold pq
      rw [o_ltI, hd8, tst_t]
      have g0 : (pre ++ (w :: (a.ws ++ b.ws) ++ post))[pre.length]? = some w := by simp
      rw [take_get g0, bind_ok, hc, c2, tst_f, c3, tst_f, c5, tst_f, d4, tst_f, c6, tst_f, d5, tst_t]
      have e1 : pre ++ [w] ++ (a.ws ++ (b.ws ++ post)) = pre ++ (w :: (a.ws ++ b.ws) ++ post) := by simp
      have e2 : (pre ++ [w]).length = pre.length + 1 := by simp
      have e3 : pre ++ (w :: a.ws) ++ (b.ws ++ post) = pre ++ (w :: (a.ws ++ b.ws) ++ post) := by simp
      have e4 : (pre ++ (w :: a.ws)).length = pre.length + 1 + a.ws.length := by simp; omega
      rw [e1, e2] at ih
      rw [e3, e4] at ih'
      have ih : pq n (sD (pre ++ (w :: (a.ws ++ b.ws) ++ post))) (pre.length + 1) ((deep : Int) + 1) = _ := ih
      have ih' : pq n (sD (pre ++ (w :: (a.ws ++ b.ws) ++ post))) (pre.length + 1 + a.ws.length) ((deep : Int) + 1) = _ := ih'
      rw [ih, bind_ok, ih', bind_ok]
      congr 1
      simp
      omega
    cases o with
    | true =>
      obtain ⟨⟨c1, c2, c3, c4, c5, c6⟩, d1, d2, d3, d4, d5⟩ := f_and
      exact key wAnd rfl ⟨_, e_and.symm, c2, c3, c5, d4, c6, d5, rfl⟩
    | false =>
      obtain ⟨⟨c1, c2, c3, c4, c5, c6⟩, d1, d2, d3, d4, d5⟩ := f_or
      exact key wOr rfl ⟨_, e_or.symm, c2, c3, c5, d4, c6, d5, rfl⟩
/-! ### the words are pieces -/
theorem low_pc {k : Nat} {m : Wd} (h : LowW k m) : Pc m := by
  cases m with
  | nil => exact absurd h.1.1 (by simp)
  | cons c r => exact .w (by have := (h.2 c (List.mem_cons_self ..)).1; omega) (fun hm => by have := (h.2 32 hm).1; omega)
theorem nums_pc : ∀ t ∈ NUMS, t.head? ≠ some 34 ∧ 32 ∉ t ∧ t ≠ [] := by decide
theorem pc_of {t : Wd} (h1 : t.head? ≠ some 34) (h2 : 32 ∉ t) (h3 : t ≠ []) : Pc t := by
  cases t with
  | nil => exact absurd rfl h3
  | cons c r => exact .w (fun h => h1 (by rw [h]; rfl)) h2
theorem num_pc (n : Nat) : Pc (TL.numL n) := by
  refine pc_of (fun h => ?_) (TL.numL_free (.inl (by decide))) (TL.numL_ne n)
  cases e : TL.numL n with
  | nil => rw [e] at h; cases h
  | cons c r =>
    rw [e] at h
    have hc : c = 34 := Option.some.inj h
    exact TL.numL_free (n := n) (s := 34) (.inl (by decide)) (by rw [e, hc]; exact List.mem_cons_self ..)
theorem ws_pc : ∀ q : Qy, q.ok → ∀ w ∈ q.ws, Pc w
  | .leaf l, ho => by
    cases l with
    | all => intro w hw; simp [Qy.ws, Lf.ws] at hw; subst hw; exact pc_of (by decide) (by decide) (by decide)
    | mark m =>
      intro w hw; simp [Qy.ws, Lf.ws] at hw
      rcases hw with rfl | rfl
      · exact pc_of (by decide) (by decide) (by decide)
      · exact low_pc ho
    | head nm t =>
      intro w hw; simp [Qy.ws, Lf.ws] at hw
      rcases hw with rfl | rfl | rfl
      · exact pc_of (by decide) (by decide) (by decide)
      · exact low_pc ho.1
      · exact .q (fun hm => (ho.2.2 34 hm).2.2.2 rfl)
    | body t =>
      intro w hw; simp [Qy.ws, Lf.ws] at hw
      rcases hw with rfl | rfl
      · exact pc_of (by decide) (by decide) (by decide)
      · exact .q (fun hm => (ho.2 34 hm).2.2.2 rfl)
    | numbers t =>
      intro w hw; simp [Qy.ws, Lf.ws] at hw
      rcases hw with rfl | rfl
      · exact pc_of (by decide) (by decide) (by decide)
      · obtain ⟨h1, h2, h3⟩ := nums_pc _ ho
        exact pc_of h1 h2 h3
    | newer n =>
      intro w hw; simp [Qy.ws, Lf.ws] at hw
      rcases hw with rfl | rfl
      · exact pc_of (by decide) (by decide) (by decide)
      · exact num_pc n
  | .not q, ho => by
    intro w hw
    rcases List.mem_cons.mp hw with rfl | hw
    · exact pc_of (by decide) (by decide) (by decide)
    · exact ws_pc q ho w hw
  | .bin true a b, ho => by
    intro w hw
    rcases List.mem_cons.mp hw with rfl | hw
    · exact pc_of (by decide) (by decide) (by decide)
    · rcases List.mem_append.mp hw with hw | hw
      · exact ws_pc a ho.1 w hw
      · exact ws_pc b ho.2 w hw
  | .bin false a b, ho => by
    intro w hw
    rcases List.mem_cons.mp hw with rfl | hw
    · exact pc_of (by decide) (by decide) (by decide)
    · rcases List.mem_append.mp hw with hw | hw
      · exact ws_pc a ho.1 w hw
      · exact ws_pc b ho.2 w hw
/-- a text that has the words of a query, with blanks, is read as it -/
theorem v_read {q : Qy} (ho : q.ok) (h8 : q.dp ≤ 8) {l : Wd} {a : Nat} {ps : List (Wd × Nat)} (hd : l = List.replicate a 32 ++ layT ps) (hz : l.length ≤ 200) (hs : Sep ps) (hw : ps.map (·.1) = q.ws) : VG M_read_query [.str (S l)] q.d := by
  have hpc : ∀ p ∈ ps, Pc p.1 := fun p hp => ws_pc q ho p.1 (by rw [← hw]; exact List.mem_map_of_mem hp)
  have hlen : ∀ ps : List (Wd × Nat), (∀ p ∈ ps, Pc p.1) → ps.length ≤ (layT ps).length ∧ ∀ p ∈ ps, p.1.length ≤ (layT ps).length := by
    intro ps
    induction ps with
    | nil => intro _; exact ⟨Nat.le_refl _, fun p hp => by cases hp⟩
    | cons p ps ih =>
      intro h
      obtain ⟨i1, i2⟩ := ih fun p hp => h p (List.mem_cons_of_mem _ hp)
      have h0 : 1 ≤ p.1.length := List.length_pos_iff.mpr (h p (List.mem_cons_self ..)).ne
      have e : (layT (p :: ps)).length = p.1.length + (p.2 + (layT ps).length) := by
        obtain ⟨w, k⟩ := p
        simp [layT]
      refine ⟨by rw [e]; simp; omega, fun x hx => ?_⟩
      rcases List.mem_cons.mp hx with rfl | hx
      · omega
      · have := i2 x hx; omega
  have hl : (layT ps).length ≤ 200 := by rw [hd] at hz; simp at hz; omega
  obtain ⟨l1, l2⟩ := hlen ps hpc
  have vp := v_pieces hd hz hs hpc (by omega)
  rw [hw] at vp
  have wk : ∀ w ∈ sD q.ws, WOk w := fun w hm => by
    obtain ⟨x, hx, rfl⟩ := List.mem_map.mp hm
    refine wok (ws_pc q ho x hx) ?_
    rw [← hw] at hx
    obtain ⟨p, hp, rfl⟩ := List.mem_map.mp hx
    have := l2 p hp
    omega
  have hq := pq_ok q 10 0 [] [] ho (by omega) (by omega)
  simp only [List.nil_append, List.append_nil, List.length_nil, Nat.zero_add] at hq
  have hq : pq 10 (sD q.ws) 0 0 = .ok q.d q.ws.length := hq
  have hll : (sD q.ws).length = q.ws.length := by simp [sD]
  obtain ⟨g, hg⟩ := v_needq ho h8
  refine vg_of fun s => ?_
  rw [read_q vp wk, hq]
  show (if q.ws.length = (sD q.ws).length then _ else _)
  rw [if_pos hll.symm]
  rw [hg]
  exact ⟨rfl, _, List.append_assoc ..⟩
end K50

set_option Elab.async false
set_option linter.all false
set_option maxRecDepth 100000
set_option maxHeartbeats 2000000
namespace K50
open PySem Mir SX
def laid (k e : Nat) : List Wd → List (Wd × Nat)
  | [] => []
  | [w] => [(w, e)]
  | w :: x :: r => (w, k) :: laid k e (x :: r)
theorem laid_map (k e : Nat) : ∀ ws, (laid k e ws).map (·.1) = ws
  | [] => rfl
  | [w] => rfl
  | w :: x :: r => by
    show w :: (laid k e (x :: r)).map (·.1) = _
    rw [laid_map k e (x :: r)]
theorem laid_sep {k e : Nat} (hk : 1 ≤ k) : ∀ ws, Sep (laid k e ws)
  | [] => trivial
  | [w] => ⟨.inl rfl, trivial⟩
  | w :: x :: r => ⟨.inr hk, laid_sep hk (x :: r)⟩
theorem lay_join : ∀ ws, layT (laid 1 0 ws) = TL.joinL [32] ws
  | [] => rfl
  | [w] => by simp [laid, layT, TL.joinL]
  | w :: x :: r => by
    show w ++ ([32] ++ layT (laid 1 0 (x :: r))) = w ++ ([32] ++ TL.joinL [32] (x :: r))
    rw [lay_join (x :: r)]
theorem lay_end {k : Nat} : ∀ ws, ws ≠ [] → layT (laid k 0 ws) ++ [32] = layT (laid k 1 ws)
  | [], h => absurd rfl h
  | [w], _ => by simp [laid, layT]
  | w :: x :: r, _ => by
    show (w ++ (List.replicate k 32 ++ layT (laid k 0 (x :: r)))) ++ [32] = w ++ (List.replicate k 32 ++ layT (laid k 1 (x :: r)))
    rw [← lay_end (x :: r) (List.cons_ne_nil _ _)]
    simp
/-! ### blanks made wide -/
def trip (z : Wd) (l : Wd) : Wd := l.flatMap fun c => if c = 32 then z else [c]
theorem pre1 (c d : Nat) (r : List Nat) : TL.pre [d] (c :: r) = decide (c = d) := by
  unfold TL.pre
  show ([c] == [d]) = _
  by_cases h : c = d
  · subst h; simp
  · rw [decide_eq_false h]; simp [h]
theorem spl_ne {d : Nat} : ∀ (l acc : Wd), TL.spl [d] 0 acc l ≠ []
  | [], acc => by rw [TL.spl_nil]; simp
  | c :: r, acc => by
    by_cases h : c = d
    · rw [TL.spl_hit (by rw [pre1, decide_eq_true h])]; simp
    · rw [TL.spl_miss (by rw [pre1, decide_eq_false h])]; exact spl_ne r _
theorem join_cons {s p : Wd} {ps : List Wd} (h : ps ≠ []) : TL.joinL s (p :: ps) = p ++ (s ++ TL.joinL s ps) := by
  cases ps with
  | nil => exact absurd rfl h
  | cons q r => rfl
theorem join_trip (z : Wd) : ∀ (l acc : Wd), TL.joinL z (TL.spl [32] 0 acc l) = acc ++ trip z l
  | [], acc => by rw [TL.spl_nil]; simp [trip, TL.joinL]
  | c :: r, acc => by
    by_cases h : c = 32
    · rw [TL.spl_hit (by rw [pre1, decide_eq_true h])]
      show TL.joinL z (acc :: TL.spl [32] 0 [] r) = _
      rw [join_cons (spl_ne r []), join_trip z r []]
      simp [trip, h]
    · rw [TL.spl_miss (by rw [pre1, decide_eq_false h]), join_trip z r]
      simp [trip, h]
def gB (b : Bool) (p : Wd) : Wd := if b = true then p else trip [32, 32, 32] p
def alt : Bool → List Wd → List Wd
  | _, [] => []
  | b, p :: ps => gB b p :: alt (!b) ps
def wf : Bool → Wd → Wd
  | _, [] => []
  | b, c :: r => if c = 34 then 34 :: wf (!b) r else gB b [c] ++ wf b r
theorem gB_app (b : Bool) (x y : Wd) : gB b (x ++ y) = gB b x ++ gB b y := by
  cases b <;> simp [gB, trip]
theorem gB_nil (b : Bool) : gB b [] = [] := by cases b <;> rfl
theorem alt_ne {b : Bool} {ps : List Wd} (h : ps ≠ []) : alt b ps ≠ [] := by
  cases ps with
  | nil => exact absurd rfl h
  | cons p ps => exact List.cons_ne_nil _ _
theorem join_alt : ∀ (l acc : Wd) (b : Bool), TL.joinL [34] (alt b (TL.spl [34] 0 acc l)) = gB b acc ++ wf b l
  | [], acc, b => by rw [TL.spl_nil]; simp [alt, TL.joinL, wf]
  | c :: r, acc, b => by
    by_cases h : c = 34
    · rw [TL.spl_hit (by rw [pre1, decide_eq_true h])]
      show TL.joinL [34] (gB b acc :: alt (!b) (TL.spl [34] 0 [] r)) = _
      rw [join_cons (alt_ne (spl_ne r [])), join_alt r [] (!b), gB_nil]
      show _ = gB b acc ++ (if c = 34 then 34 :: wf (!b) r else gB b [c] ++ wf b r)
      rw [if_pos h]
      rfl
    · rw [TL.spl_miss (by rw [pre1, decide_eq_false h]), join_alt r, gB_app]
      show _ = gB b acc ++ (if c = 34 then _ else gB b [c] ++ wf b r)
      rw [if_neg h, List.append_assoc]
inductive Pw : Wd → Prop
  | q {t : Wd} : 34 ∉ t → Pw (qt t)
  | w {w : Wd} : 34 ∉ w → 32 ∉ w → Pw w
theorem wf_in : ∀ (t rest : Wd), 34 ∉ t → wf true (t ++ 34 :: rest) = t ++ 34 :: wf false rest
  | [], rest, _ => rfl
  | c :: r, rest, h => by
    have hc : c ≠ 34 := fun e => h (by rw [e]; exact List.mem_cons_self ..)
    show (if c = 34 then _ else gB true [c] ++ wf true (r ++ 34 :: rest)) = _
    rw [if_neg hc, wf_in r rest (fun hm => h (List.mem_cons_of_mem _ hm))]
    rfl
theorem wf_out : ∀ (t rest : Wd), 34 ∉ t → 32 ∉ t → wf false (t ++ rest) = t ++ wf false rest
  | [], rest, _, _ => rfl
  | c :: r, rest, h, k => by
    have hc : c ≠ 34 := fun e => h (by rw [e]; exact List.mem_cons_self ..)
    have hk : c ≠ 32 := fun e => k (by rw [e]; exact List.mem_cons_self ..)
    show (if c = 34 then _ else gB false [c] ++ wf false (r ++ rest)) = _
    rw [if_neg hc, wf_out r rest (fun hm => h (List.mem_cons_of_mem _ hm)) (fun hm => k (List.mem_cons_of_mem _ hm))]
    simp [gB, trip, hk]
theorem wf_w {w : Wd} (h : Pw w) (rest : Wd) : wf false (w ++ rest) = w ++ wf false rest := by
  cases h with
  | @q t ht =>
    show 34 :: wf true (t ++ [34] ++ rest) = 34 :: (t ++ [34]) ++ wf false rest
    rw [List.append_assoc, show [34] ++ rest = 34 :: rest from rfl, wf_in t rest ht]
    simp
  | w h k => exact wf_out w rest h k
theorem wf_lay : ∀ ws : List Wd, (∀ w ∈ ws, Pw w) → wf false (layT (laid 1 0 ws)) = layT (laid 3 0 ws)
  | [], _ => rfl
  | [w], h => by
    have := wf_w (h w (List.mem_cons_self ..)) []
    simp [laid, layT] at this ⊢
    rw [this]
    simp [wf]
  | w :: x :: r, h => by
    show wf false (w ++ (32 :: layT (laid 1 0 (x :: r)))) = w ++ ([32, 32, 32] ++ layT (laid 3 0 (x :: r)))
    rw [wf_w (h w (List.mem_cons_self ..))]
    show w ++ (gB false [32] ++ wf false (layT (laid 1 0 (x :: r)))) = _
    rw [wf_lay (x :: r) fun y hy => h y (List.mem_cons_of_mem _ hy)]
    rfl
theorem low_pw {k : Nat} {m : Wd} (h : LowW k m) : Pw m := .w (fun hm => by have := (h.2 34 hm).1; omega) (fun hm => by have := (h.2 32 hm).1; omega)
theorem nums_pw : ∀ t ∈ NUMS, 34 ∉ t ∧ 32 ∉ t := by decide
theorem ws_pw : ∀ q : Qy, q.ok → ∀ w ∈ q.ws, Pw w
  | .leaf l, ho => by
    cases l with
    | all => intro w hw; simp [Qy.ws, Lf.ws] at hw; subst hw; exact .w (by decide) (by decide)
    | mark m =>
      intro w hw; simp [Qy.ws, Lf.ws] at hw
      rcases hw with rfl | rfl
      · exact .w (by decide) (by decide)
      · exact low_pw ho
    | head nm t =>
      intro w hw; simp [Qy.ws, Lf.ws] at hw
      rcases hw with rfl | rfl | rfl
      · exact .w (by decide) (by decide)
      · exact low_pw ho.1
      · exact .q (fun hm => (ho.2.2 34 hm).2.2.2 rfl)
    | body t =>
      intro w hw; simp [Qy.ws, Lf.ws] at hw
      rcases hw with rfl | rfl
      · exact .w (by decide) (by decide)
      · exact .q (fun hm => (ho.2 34 hm).2.2.2 rfl)
    | numbers t =>
      intro w hw; simp [Qy.ws, Lf.ws] at hw
      rcases hw with rfl | rfl
      · exact .w (by decide) (by decide)
      · exact .w (nums_pw _ ho).1 (nums_pw _ ho).2
    | newer n =>
      intro w hw; simp [Qy.ws, Lf.ws] at hw
      rcases hw with rfl | rfl
      · exact .w (by decide) (by decide)
      · exact .w (TL.numL_free (.inl (by decide))) (TL.numL_free (.inl (by decide)))
  | .not q, ho => by
    intro w hw
    rcases List.mem_cons.mp hw with rfl | hw
    · exact .w (by decide) (by decide)
    · exact ws_pw q ho w hw
  | .bin true a b, ho => by
    intro w hw
    rcases List.mem_cons.mp hw with rfl | hw
    · exact .w (by decide) (by decide)
    · rcases List.mem_append.mp hw with hw | hw
      · exact ws_pw a ho.1 w hw
      · exact ws_pw b ho.2 w hw
  | .bin false a b, ho => by
    intro w hw
    rcases List.mem_cons.mp hw with rfl | hw
    · exact .w (by decide) (by decide)
    · rcases List.mem_append.mp hw with hw | hw
      · exact ws_pw a ho.1 w hw
      · exact ws_pw b ho.2 w hw
def Qy.wide (q : Qy) : Wd := TL.joinL [34] (alt false (TL.spl [34] 0 [] q.tx))
theorem wide_eq {q : Qy} (ho : q.ok) : ([32, 32] ++ q.wide) ++ [32] = List.replicate 2 32 ++ layT (laid 3 1 q.ws) := by
  unfold Qy.wide
  rw [join_alt, gB_nil, List.nil_append, Qy.tx, ← lay_join, wf_lay q.ws (ws_pw q ho), ← lay_end q.ws (ws_ne q)]
  simp
theorem read_due {q : Qy} (ho : q.ok) (h8 : q.dp ≤ 8) (hz : q.tx.length ≤ 200) : VG M_read_query [.str (S q.tx)] q.d :=
  v_read ho h8 (a := 0) (ps := laid 1 0 q.ws) (by rw [lay_join]; rfl) hz (laid_sep (Nat.le_refl _) _) (laid_map _ _ _)
theorem read_wide {q : Qy} (ho : q.ok) (h8 : q.dp ≤ 8) (hz : (([32, 32] ++ q.wide) ++ [32]).length ≤ 200) : VG M_read_query [.str (S (([32, 32] ++ q.wide) ++ [32]))] q.d :=
  v_read ho h8 (a := 2) (ps := laid 3 1 q.ws) (wide_eq ho) hz (laid_sep (by decide) _) (laid_map _ _ _)
end K50

set_option Elab.async false
set_option linter.all false
set_option maxRecDepth 100000
set_option maxHeartbeats 2000000
namespace K50
open PySem Mir SX
local macro_rules | `(tactic| walk_at "wp") => `(tactic| simp -dsimp (disch := first | omega | (simp only [List.length_cons, List.length_nil, List.length_append, List.length_map]; omega)) only [*, ↓wp_eAnd, ↓wp_eOr, ↓wp_ch, ↓wp_c, ↓wp_var, ↓wp_e1, ↓wp_e2, ↓wp_eN, ↓wp_cons, ↓wp_nil, ↓wp_call, ↓wp_mt, ↓wp_sl, ↓wp_oNone, ↓wp_oSome, ↓wp_tB1, ↓wp_tNot, ↓wp_tAnd, ↓wp_tOr, ↓wp_eIf, ↓wp_told, ↓wp_next, ↓wp_raise, ↓wp_seq, ↓wp_expr, ↓wp_set, ↓wp_setO, ↓wp_setI, ↓wp_retS, ↓wp_retN, ↓wp_break, ↓wp_cont, ↓wp_if, ↓wp_app, ↓wp_asg, ↓wp_fn, ↓wp_for, ↓wp_iLst, ↓wp_iTpl, ↓wp_iN, ↓wp_iStr, ↓wp_tYes, ↓wp_ret,
  ↓wp_fld, ↓wp_fldSet, ↓wp_meth, ↓wp_new, ↓wp_sto, ↓wp_disp, ↓wp_e2S, ↓wp_eNS, ↓wp_setS, onN_non,
  onO_some, onB_bl, onI_int, onL_lst, onT_tup, onS_str, onE_go, onC_t,
  List.map_cons, List.map_nil, List.length_cons, List.length_nil, List.cons_append, List.nil_append, List.replicate, List.getElem?_cons_zero, List.getElem?_cons_succ, List.set_cons_zero, List.set_cons_succ, wipeD, decide_true, decide_false,
  Option.some.injEq, true_and, and_true, if_true, ite_true, if_false, Bool.false_eq_true, reduceIte, ite_false, Bool.not_true, Bool.not_false, Nat.reduceAdd, Nat.reduceSub, Nat.zero_add, Nat.reduceEqDiff])
abbrev B : Int := 340282366920938463463374607431768211507
theorem v_drawn (cell k : Int) (h1 : 0 ≤ k) (h2 : k < 1000000) : VF M__law_drawn [.int cell, .int k] (.int (drawn cell k)) := by
  unfold M__law_drawn b__law_drawn
  have m1 : 0 ≤ (cell * 6364136223846793005 + (k + 1) * 1442695040888963407) % B := Int.emod_nonneg _ (by decide)
  have m2 : (cell * 6364136223846793005 + (k + 1) * 1442695040888963407) % B < B := Int.emod_lt_of_pos _ (by decide)
  generalize hm : (cell * 6364136223846793005 + (k + 1) * 1442695040888963407) % B = m at m1 m2
  have n1 : 0 ≤ m * m % 340282366920938463463374607431768211297 := Int.emod_nonneg _ (by decide)
  have n2 : m * m % 340282366920938463463374607431768211297 < 340282366920938463463374607431768211297 := Int.emod_lt_of_pos _ (by decide)
  generalize hn : m * m % 340282366920938463463374607431768211297 = n at n1 n2
  have p1 : 0 ≤ n % 18446744073709551557 := Int.emod_nonneg _ (by decide)
  have p2 : n % 18446744073709551557 < 18446744073709551557 := Int.emod_lt_of_pos _ (by decide)
  have q1 : 0 ≤ n / 18446744073709551557 := Int.ediv_nonneg n1 (by decide)
  have q2 : n / 18446744073709551557 ≤ n := Int.ediv_le_self _ n1
  have r1 : 0 ≤ (n % 18446744073709551557 + 1) * (n / 18446744073709551557 + 1) := Int.mul_nonneg (by omega) (by omega)
  have r2 : (n % 18446744073709551557 + 1) * (n / 18446744073709551557 + 1) < 2 ^ 250 := by
    have : (n % 18446744073709551557 + 1) * (n / 18446744073709551557 + 1) ≤ 18446744073709551557 * 340282366920938463463374607431768211297 := Int.mul_le_mul (by omega) (by omega) (by omega) (by decide)
    exact Int.lt_of_le_of_lt this (by decide)
  refine VF.mk rfl (VS.seq (VS.set (V1.e2 (V1.e2 (V1.e2 (V1.var rfl) V1.c (o_mul (mulOk_r (by decide) (by decide)))) (V1.e2 (V1.e2 (V1.var rfl) V1.c (o_add _ _)) V1.c (o_mul (mulOk_r (by decide) (by decide)))) (o_add _ _)) V1.c (o_mod (by decide)))) ?_)
  rw [hm]
  refine VS.seq (VS.set (V1.e2 (V1.e2 (V1.var rfl) (V1.var rfl) (o_mul (mulOk_b m1 (Int.lt_trans m2 (by decide)) m1 (Int.lt_trans m2 (by decide))))) V1.c (o_mod (by decide)))) ?_
  rw [hn]
  refine VS.seq (VS.set (V1.e2 (V1.e2 (V1.e2 (V1.e2 (V1.var rfl) V1.c (o_mod (by decide))) V1.c (o_add _ _)) (V1.e2 (V1.e2 (V1.var rfl) V1.c (o_div (by decide +kernel))) V1.c (o_add _ _)) (o_mul (mulOk_b (by omega) (by omega) (by omega) (by omega)))) (V1.var rfl) (o_mul (mulOk_b r1 r2 n1 (Int.lt_trans n2 (by decide)))))) ?_
  have e : drawn cell k = (n % 18446744073709551557 + 1) * (n / 18446744073709551557 + 1) * n % B := by
    unfold drawn
    dsimp only
    rw [hm, hn]
  rw [e]
  exact VS.ret (V1.e2 (V1.var rfl) V1.c (o_mod (by decide)))
theorem v_cell (ns : List Int) (k : Int) (h0 : 0 ≤ k) (h1 : k < 1000) (hl : ns.length ≤ 63) : ∃ c, VF M__law_cell [.scr ns, .int k] (.int c) := by
  have key : ∃ c, ∀ s, wp (M__law_cell [.scr ns, .int k] s) (fun d s' => d = .int c ∧ s' = s) (fun _ _ => False) := by
    have e0 : mkL [] = some (.lst []) := rfl
    cases ns with
    | nil =>
      have e2 : mulD (.int k) (.int 7919) = some (.int (k * 7919)) := o_mul (mulOk_r (by decide) (by decide))
      have e1 : eqD (.scr []) (.lst []) = some (.bl true) := o_eqScr []
      refine ⟨k * 7919, fun s => ?_⟩
      unfold M__law_cell b__law_cell
      walk_at "wp"
    | cons n ns =>
      have hp : (0 : Int) < ((n :: ns).length : Int) := by simp only [List.length_cons]; omega
      have hd : divOk ((n :: ns).length : Int) = true := by
        unfold divOk
        rw [decide_eq_true hp, decide_eq_true (Nat.lt_of_lt_of_le (log2_lt (k := 64) (by simp only [List.length_cons] at hl ⊢; omega) (by decide)) (by decide))]
        rfl
      have i0 : 0 ≤ k % ((n :: ns).length : Int) := Int.emod_nonneg _ (by omega)
      have i1 : k % ((n :: ns).length : Int) < ((n :: ns).length : Int) := Int.emod_lt_of_pos _ hp
      have e4 : ∀ s, ixS s (.scr (n :: ns)) (.int (k % ((n :: ns).length : Int))) = some (.int ((n :: ns)[(k % ((n :: ns).length : Int)).toNat]'(by omega))) := fun s => by
        show (L2.atI (n :: ns) _).map D.int = _
        rw [atI_get i0 i1]
        rfl
      have e5 : modI (.int k) (.int ((n :: ns).length : Int)) = some (.int (k % ((n :: ns).length : Int))) := o_mod hp
      have e6 : fdivI (.int k) (.int ((n :: ns).length : Int)) = some (.int (k / ((n :: ns).length : Int))) := o_div hd
      have e7 : mulD (.int (k / ((n :: ns).length : Int))) (.int 104729) = some (.int (k / ((n :: ns).length : Int) * 104729)) := o_mul (mulOk_r (by decide) (by decide))
      have e1 : eqD (.scr (n :: ns)) (.lst []) = some (.bl false) := o_eqScr (n :: ns)
      have e8 : ∀ s, lenS s [.scr (n :: ns)] = some (.int ((n :: ns).length : Int)) := fun s => rfl
      generalize ((n :: ns)[(k % ((n :: ns).length : Int)).toNat]'(by omega)) = v at *
      generalize ((n :: ns).length : Int) = L at *
      have e9 := o_add v (k / L * 104729)
      refine ⟨v + k / L * 104729, fun s => ?_⟩
      unfold M__law_cell b__law_cell
      clear hp hd i0 i1 hl h0 h1
      walk_at "wp"
  obtain ⟨c, h⟩ := key
  refine ⟨c, fun s => ?_⟩
  have := h s
  cases e : M__law_cell [.scr ns, .int k] s with
  | ok a s' => rw [e] at this; obtain ⟨h1, h2⟩ := this; rw [h1, h2]
  | exc c s' => rw [e] at this; exact this.elim
  | no => rw [e] at this; exact this.elim
theorem w_0 : eqD (.int 0) (.int 0) = some (.bl true) ∧ ltD (.int 0) (.int 4) = some (.bl true) ∧ eqD (.int 0) (.int 4) = some (.bl false) ∧ eqD (.int 0) (.int 5) = some (.bl false) ∧ gtI (.int 0) (.int 7) = some (.bl false) ∧ eqD (.int 0) (.int 6) = some (.bl false) := by refine ⟨?_, ?_, ?_, ?_, ?_, ?_⟩ <;> kernel_rfl
theorem w_1 : eqD (.int 1) (.int 0) = some (.bl false) ∧ ltD (.int 1) (.int 4) = some (.bl true) ∧ eqD (.int 1) (.int 4) = some (.bl false) ∧ eqD (.int 1) (.int 5) = some (.bl false) ∧ gtI (.int 1) (.int 7) = some (.bl false) ∧ eqD (.int 1) (.int 6) = some (.bl false) := by refine ⟨?_, ?_, ?_, ?_, ?_, ?_⟩ <;> kernel_rfl
theorem w_2 : eqD (.int 2) (.int 0) = some (.bl false) ∧ ltD (.int 2) (.int 4) = some (.bl true) ∧ eqD (.int 2) (.int 4) = some (.bl false) ∧ eqD (.int 2) (.int 5) = some (.bl false) ∧ gtI (.int 2) (.int 7) = some (.bl false) ∧ eqD (.int 2) (.int 6) = some (.bl false) := by refine ⟨?_, ?_, ?_, ?_, ?_, ?_⟩ <;> kernel_rfl
theorem w_3 : eqD (.int 3) (.int 0) = some (.bl false) ∧ ltD (.int 3) (.int 4) = some (.bl true) ∧ eqD (.int 3) (.int 4) = some (.bl false) ∧ eqD (.int 3) (.int 5) = some (.bl false) ∧ gtI (.int 3) (.int 7) = some (.bl false) ∧ eqD (.int 3) (.int 6) = some (.bl false) := by refine ⟨?_, ?_, ?_, ?_, ?_, ?_⟩ <;> kernel_rfl
theorem w_4 : eqD (.int 4) (.int 0) = some (.bl false) ∧ ltD (.int 4) (.int 4) = some (.bl false) ∧ eqD (.int 4) (.int 4) = some (.bl true) ∧ eqD (.int 4) (.int 5) = some (.bl false) ∧ gtI (.int 4) (.int 7) = some (.bl false) ∧ eqD (.int 4) (.int 6) = some (.bl false) := by refine ⟨?_, ?_, ?_, ?_, ?_, ?_⟩ <;> kernel_rfl
theorem w_5 : eqD (.int 5) (.int 0) = some (.bl false) ∧ ltD (.int 5) (.int 4) = some (.bl false) ∧ eqD (.int 5) (.int 4) = some (.bl false) ∧ eqD (.int 5) (.int 5) = some (.bl true) ∧ gtI (.int 5) (.int 7) = some (.bl false) ∧ eqD (.int 5) (.int 6) = some (.bl false) := by refine ⟨?_, ?_, ?_, ?_, ?_, ?_⟩ <;> kernel_rfl
theorem w_6 : eqD (.int 6) (.int 0) = some (.bl false) ∧ ltD (.int 6) (.int 4) = some (.bl false) ∧ eqD (.int 6) (.int 4) = some (.bl false) ∧ eqD (.int 6) (.int 5) = some (.bl false) ∧ gtI (.int 6) (.int 7) = some (.bl false) ∧ eqD (.int 6) (.int 6) = some (.bl true) := by refine ⟨?_, ?_, ?_, ?_, ?_, ?_⟩ <;> kernel_rfl
theorem w_7 : eqD (.int 7) (.int 0) = some (.bl false) ∧ ltD (.int 7) (.int 4) = some (.bl false) ∧ eqD (.int 7) (.int 4) = some (.bl false) ∧ eqD (.int 7) (.int 5) = some (.bl false) ∧ gtI (.int 7) (.int 7) = some (.bl false) ∧ eqD (.int 7) (.int 6) = some (.bl false) := by refine ⟨?_, ?_, ?_, ?_, ?_, ?_⟩ <;> kernel_rfl
theorem w_8 : eqD (.int 8) (.int 0) = some (.bl false) ∧ ltD (.int 8) (.int 4) = some (.bl false) ∧ eqD (.int 8) (.int 4) = some (.bl false) ∧ eqD (.int 8) (.int 5) = some (.bl false) ∧ gtI (.int 8) (.int 7) = some (.bl true) ∧ eqD (.int 8) (.int 6) = some (.bl false) := by refine ⟨?_, ?_, ?_, ?_, ?_, ?_⟩ <;> kernel_rfl
def mTxt : List Wd := [[109], [], [110, 101, 119, 115], [109, 49], [121, 111, 117], [105], [49], [101, 119]]
theorem mTxt_e : ([.str "m", .str "", .str "news", .str "m1", .str "you", .str "i", .str "1", .str "ew"] : List D) = sD mTxt := by kernel_rfl
def mNam : List Wd := [[105, 100], [115, 117, 98, 106, 101, 99, 116], [114, 101], [120]]
theorem mNam_e : ([.str "id", .str "subject", .str "re", .str "x"] : List D) = sD mNam := by kernel_rfl
def mBod : List Wd := [[], [98, 111, 100, 121], [110, 101, 119, 115], [97, 32, 110], [120]]
theorem mBod_e : ([.str "", .str "body", .str "news", .str "a n", .str "x"] : List D) = sD mBod := by kernel_rfl
def mMrk : List Wd := [[115, 101, 101, 110], [102, 108, 97, 103], [111, 108, 100], [97], [122, 122]]
theorem mMrk_e : ([.str "seen", .str "flag", .str "old", .str "a", .str "zz"] : List D) = sD mMrk := by kernel_rfl
def mNum : List Wd := [[49, 58, 51], [42], [50, 44, 53], [57, 58, 42], [55, 58, 50], [49], [51, 58, 42, 44, 49]]
theorem mNum_e : ([.str "1:3", .str "*", .str "2,5", .str "9:*", .str "7:2", .str "1", .str "3:*,1"] : List D) = sD mNum := by kernel_rfl
theorem mTxt_ok : ∀ t ∈ mTxt, t.length ≤ 20 ∧ ∀ c ∈ t, 32 ≤ c ∧ c ≤ 126 ∧ c ≠ 37 ∧ c ≠ 34 := by decide
theorem mBod_ok : ∀ t ∈ mBod, t.length ≤ 20 ∧ ∀ c ∈ t, 32 ≤ c ∧ c ≤ 126 ∧ c ≠ 37 ∧ c ≠ 34 := by decide
theorem mNam_ok : ∀ t ∈ mNam, (1 ≤ t.length ∧ t.length ≤ 12) ∧ ∀ c ∈ t, 97 ≤ c ∧ c ≤ 122 := by decide
theorem mMrk_ok : ∀ t ∈ mMrk, (1 ≤ t.length ∧ t.length ≤ 10) ∧ ∀ c ∈ t, 97 ≤ c ∧ c ≤ 122 := by decide
theorem mNum_ok : ∀ t ∈ mNum, t ∈ NUMS := by decide
theorem ix_menu {ms : List Wd} {ds : List D} (e : ds = sD ms) (i : Int) (h0 : 0 ≤ i) (h1 : i < ms.length) : ∃ w ∈ ms, ∀ s, ixS s (.lst ds) (.int i) = some (.str (S w)) :=
  ⟨ms[i.toNat], List.getElem_mem _, fun s => by
    subst e
    show L2.atI (sD ms) i = _
    rw [atI_get h0 (by simpa [sD] using h1)]
    simp [sD]⟩
def mNew : List Nat := [0, 1, 3, 9, 9999]
theorem ix_new (i : Int) (h0 : 0 ≤ i) (h1 : i < 5) : ∃ n, n ≤ 9999 ∧ ∀ s, ixS s (.lst [.int 0, .int 1, .int 3, .int 9, .int 9999]) (.int i) = some (.int (n : Nat)) := by
  have h : ∀ n ∈ mNew, n ≤ 9999 := by decide
  refine ⟨mNew[i.toNat]'(by show i.toNat < 5; omega), h _ (List.getElem_mem _), fun s => ?_⟩
  have e : ([.int 0, .int 1, .int 3, .int 9, .int 9999] : List D) = mNew.map fun n => D.int (n : Nat) := by kernel_rfl
  rw [e]
  show L2.atI (mNew.map fun n => D.int (n : Nat)) i = _
  rw [atI_get h0 (by simp [mNew]; omega)]
  simp
theorem md {i j : Int} (h : 0 < j) : 0 ≤ i % j ∧ i % j < j := ⟨Int.emod_nonneg _ (by omega), Int.emod_lt_of_pos _ h⟩
theorem mkL8 (a b c d e f g h : D) : mkL [a, b, c, d, e, f, g, h] = some (.lst [a, b, c, d, e, f, g, h]) := by kernel_rfl
theorem mkL4 (a b c d : D) : mkL [a, b, c, d] = some (.lst [a, b, c, d]) := by kernel_rfl
theorem mkL5 (a b c d e : D) : mkL [a, b, c, d, e] = some (.lst [a, b, c, d, e]) := by kernel_rfl
theorem mkL7 (a b c d e f g : D) : mkL [a, b, c, d, e, f, g] = some (.lst [a, b, c, d, e, f, g]) := by kernel_rfl
theorem eqIJ (i j : Int) : eqD (.int i) (.int j) = some (.bl (decide (i = j))) := by
  show some (D.bl (decide (L2.V.int i = L2.V.int j))) = _
  congr 2
  by_cases h : i = j
  · rw [h]; simp
  · rw [decide_eq_false h, decide_eq_false (fun e => h (L2.V.int.inj e))]
theorem gtIJ (i j : Int) : gtI (.int i) (.int j) = some (.bl (decide (j < i))) := rfl
theorem ltIJ (i j : Int) : ltD (.int i) (.int j) = some (.bl (decide (i < j))) := rfl
def leafT : SD := (sSeq (sIf (tB1 (e2 eqD (eVar 4) (eC (.int 4)))) (sSeq (sSet 6 (e2S ixS (eN mkL (aCons (eC (.str "m")) (aCons (eC (.str "")) (aCons (eC (.str "news")) (aCons (eC (.str "m1")) (aCons (eC (.str "you")) (aCons (eC (.str "i")) (aCons (eC (.str "1")) (aCons (eC (.str "ew")) aNil))))))))) (e2 modI (e2 fdivI (eVar 3) (eC (.int 4))) (eC (.int 8)))))
    (sRet (eN mkT (aCons (eC (.str "head")) (aCons (e2S ixS (eN mkL (aCons (eC (.str "id")) (aCons (eC (.str "subject")) (aCons (eC (.str "re")) (aCons (eC (.str "x")) aNil))))) (e2 modI (eVar 3) (eC (.int 4)))) (aCons (eVar 6) aNil)))))) sNext)
    (sSeq (sIf (tB1 (e2 eqD (eVar 4) (eC (.int 5)))) (sRet (eN mkT (aCons (eC (.str "body")) (aCons (e2S ixS (eN mkL (aCons (eC (.str "")) (aCons (eC (.str "body")) (aCons (eC (.str "news")) (aCons (eC (.str "a n")) (aCons (eC (.str "x")) aNil)))))) (e2 modI (eVar 3) (eC (.int 5)))) aNil)))) sNext)
    (sSeq (sIf (tOrD (tB1 (eVar 2)) (tB1 (e2 gtI (eVar 4) (eC (.int 7))))) (sRet (eN mkT (aCons (eC (.str "all")) aNil))) sNext)
    (sSeq (sIf (tB1 (e2 eqD (eVar 4) (eC (.int 6)))) (sRet (eN mkT (aCons (eC (.str "mark")) (aCons (e2S ixS (eN mkL (aCons (eC (.str "seen")) (aCons (eC (.str "flag")) (aCons (eC (.str "old")) (aCons (eC (.str "a")) (aCons (eC (.str "zz")) aNil)))))) (e2 modI (eVar 3) (eC (.int 5)))) aNil)))) sNext)
    (sSeq (sIf (tB1 (e2 eqD (e2 modI (eVar 3) (eC (.int 2))) (eC (.int 0)))) (sRet (eN mkT (aCons (eC (.str "numbers")) (aCons (e2S ixS (eN mkL (aCons (eC (.str "1:3")) (aCons (eC (.str "*")) (aCons (eC (.str "2,5")) (aCons (eC (.str "9:*")) (aCons (eC (.str "7:2")) (aCons (eC (.str "1")) (aCons (eC (.str "3:*,1")) aNil)))))))) (e2 modI (e2 fdivI (eVar 3) (eC (.int 2))) (eC (.int 7)))) aNil)))) sNext)
    (sRet (eN mkT (aCons (eC (.str "newer")) (aCons (e2S ixS (eN mkL (aCons (eC (.int 0)) (aCons (eC (.int 1)) (aCons (eC (.int 3)) (aCons (eC (.int 9)) (aCons (eC (.int 9999)) aNil)))))) (e2 modI (e2 fdivI (eVar 3) (eC (.int 2))) (eC (.int 5)))) aNil)))))))))
def recT (M : FD) : SD := (sIf (tAndD (tB1 (e2 gtI (eVar 1) (eC (.int 0)))) (tB1 (e2 ltD (eVar 4) (eC (.int 4))))) (sSeq (sSet 5 (eCall (M) (aCons (eCall M__law_drawn (aCons (eVar 0) (aCons (eC (.int 1)) aNil))) (aCons (e2 subI (eVar 1) (eC (.int 1))) (aCons (eVar 2) aNil)))))
    (sSeq (sIf (tB1 (e2 eqD (eVar 4) (eC (.int 0)))) (sRet (eN mkT (aCons (eC (.str "not")) (aCons (eVar 5) aNil)))) sNext)
    (sRet (eN mkT (aCons (e2S ixS (eN mkL (aCons (eC (.str "or")) (aCons (eC (.str "and")) aNil))) (e2 modI (eVar 4) (eC (.int 2)))) (aCons (eVar 5) (aCons (eCall (M) (aCons (eCall M__law_drawn (aCons (eVar 0) (aCons (eC (.int 2)) aNil))) (aCons (e2 subI (eVar 1) (eC (.int 1))) (aCons (eVar 2) aNil)))) aNil))))))) sNext)
theorem b_qry (M : FD) : b__law_query M = sSeq (sSet 3 (e2 fdivI (eVar 0) (eC (.int 16)))) (sSeq (sSet 4 (e2 modI (eVar 0) (eC (.int 9)))) (sSeq (recT M) leafT)) := rfl
theorem leaf_q (here way : Int) {x0 x1 x5 x6 : Option D} : ∃ l : Lf, l.ok ∧ ∀ s Q X, wp (leafT [x0, x1, some (.bl false), some (.int here), some (.int way), x5, x6] s) Q X = Q (.rt l.d) s := by
  have e4 := eqIJ way 4
  have e5 := eqIJ way 5
  have e6 := eqIJ way 6
  have g7 := gtIJ way 7
  have f0 := @mkT1
  have f3 := @mkT2
  have f4 := @mkT3
  have f5 := mkL8
  have f6 := mkL4
  have f7 := mkL5
  have f8 := mkL7
  by_cases h4 : way = 4
  · rw [decide_eq_true h4] at e4
    have y1 : fdivI (.int here) (.int 4) = some (.int (here / 4)) := o_div (by decide +kernel)
    have y2 : modI (.int (here / 4)) (.int 8) = some (.int (here / 4 % 8)) := o_mod (by decide)
    have y3 : modI (.int here) (.int 4) = some (.int (here % 4)) := o_mod (by decide)
    obtain ⟨t, ht, et⟩ := ix_menu mTxt_e (here / 4 % 8) (md (by decide)).1 (md (by decide)).2
    obtain ⟨m, hm, em⟩ := ix_menu mNam_e (here % 4) (md (by decide)).1 (md (by decide)).2
    refine ⟨.head m t, ⟨mNam_ok m hm, mTxt_ok t ht⟩, fun s Q X => ?_⟩
    clear h4 ht hm e5 e6 g7
    unfold leafT
    walk_at "wp"
    rfl
  rw [decide_eq_false h4] at e4
  by_cases h5 : way = 5
  · rw [decide_eq_true h5] at e5
    have y3 : modI (.int here) (.int 5) = some (.int (here % 5)) := o_mod (by decide)
    obtain ⟨t, ht, et⟩ := ix_menu mBod_e (here % 5) (md (by decide)).1 (md (by decide)).2
    refine ⟨.body t, mBod_ok t ht, fun s Q X => ?_⟩
    clear h4 h5 ht e6 g7
    unfold leafT
    walk_at "wp"
    rfl
  rw [decide_eq_false h5] at e5
  by_cases h7 : 7 < way
  · rw [decide_eq_true h7] at g7
    refine ⟨.all, trivial, fun s Q X => ?_⟩
    clear h4 h5 h7 e6
    unfold leafT
    walk_at "wp"
    rfl
  rw [decide_eq_false h7] at g7
  by_cases h6 : way = 6
  · rw [decide_eq_true h6] at e6
    have y3 : modI (.int here) (.int 5) = some (.int (here % 5)) := o_mod (by decide)
    obtain ⟨t, ht, et⟩ := ix_menu mMrk_e (here % 5) (md (by decide)).1 (md (by decide)).2
    refine ⟨.mark t, mMrk_ok t ht, fun s Q X => ?_⟩
    clear h4 h5 h6 h7 ht
    unfold leafT
    walk_at "wp"
    rfl
  rw [decide_eq_false h6] at e6
  have y1 : fdivI (.int here) (.int 2) = some (.int (here / 2)) := o_div (by decide +kernel)
  have y2 : modI (.int (here / 2)) (.int 7) = some (.int (here / 2 % 7)) := o_mod (by decide)
  have y3 : modI (.int here) (.int 2) = some (.int (here % 2)) := o_mod (by decide)
  have y4 : modI (.int (here / 2)) (.int 5) = some (.int (here / 2 % 5)) := o_mod (by decide)
  obtain ⟨t, ht, et⟩ := ix_menu mNum_e (here / 2 % 7) (md (by decide)).1 (md (by decide)).2
  obtain ⟨nn, hn, en⟩ := ix_new (here / 2 % 5) (md (by decide)).1 (md (by decide)).2
  have y5 := eqIJ (here % 2) 0
  by_cases h2 : here % 2 = 0
  · rw [decide_eq_true h2] at y5
    refine ⟨.numbers t, mNum_ok t ht, fun s Q X => ?_⟩
    clear h4 h5 h6 h7 h2 ht hn en
    unfold leafT
    walk_at "wp"
    rfl
  · rw [decide_eq_false h2] at y5
    refine ⟨.newer nn, hn, fun s Q X => ?_⟩
    clear h4 h5 h6 h7 h2 ht hn et
    unfold leafT
    walk_at "wp"
    rfl
/-- no further down -/
theorem rec_no {M : FD} {deep way : Int} (h : ¬ (0 < deep ∧ way < 4)) {x0 x2 x3 x5 x6 : Option D} : ∀ s Q X, wp (recT M [x0, some (.int deep), x2, x3, some (.int way), x5, x6] s) Q X = Q (.nx [x0, some (.int deep), x2, x3, some (.int way), x5, x6]) s := fun s Q X => by
  have g1 := gtIJ deep 0
  have l1 := ltIJ way 4
  by_cases hd : 0 < deep
  · rw [decide_eq_true hd] at g1
    rw [decide_eq_false (fun z => h ⟨hd, z⟩)] at l1
    clear h hd
    unfold recT
    walk_at "wp"
  · rw [decide_eq_false hd] at g1
    clear h hd
    unfold recT
    walk_at "wp"
/-- further down -/
theorem rec_yes {M : FD} {more deep way m1 m2 : Int} {d1 d2 : D} (h0 : 0 < deep) (h4 : way < 4) (k1 : VF M__law_drawn [.int more, .int 1] (.int m1)) (k2 : VF M__law_drawn [.int more, .int 2] (.int m2)) (q1 : VF M [.int m1, .int (deep - 1), .bl false] d1) (q2 : VF M [.int m2, .int (deep - 1), .bl false] d2) {x3 x6 : Option D} :
    ∃ o : Bool, ∀ s Q X, wp (recT M [some (.int more), some (.int deep), some (.bl false), x3, some (.int way), none, x6] s) Q X = Q (.rt (if way = 0 then .tup [.str "not", d1] else .tup [.str (if o = true then "and" else "or"), d1, d2])) s := by
  have g1 := gtIJ deep 0
  rw [decide_eq_true h0] at g1
  have l1 := ltIJ way 4
  rw [decide_eq_true h4] at l1
  have k1 := vf_wp k1
  have k2 := vf_wp k2
  have q1 := vf_wp q1
  have q2 := vf_wp q2
  have sb : subI (.int deep) (.int 1) = some (.int (deep - 1)) := rfl
  have e0 := eqIJ way 0
  have f3 := @mkT2
  have f4 := @mkT3
  have f9 := mkL2
  by_cases hw : way = 0
  · rw [decide_eq_true hw] at e0
    refine ⟨true, fun s Q X => ?_⟩
    rw [if_pos hw]
    clear hw h0 h4 q2 k2
    unfold recT
    walk_at "wp"
  · rw [decide_eq_false hw] at e0
    have y3 : modI (.int way) (.int 2) = some (.int (way % 2)) := o_mod (by decide)
    have hm := md (i := way) (j := 2) (by decide)
    have hcs : way % 2 = 0 ∨ way % 2 = 1 := by omega
    generalize way % 2 = z at *
    clear hm
    rcases hcs with rfl | rfl
    · have i0 : ∀ s a b, ixS s (.lst [a, b]) (.int 0) = some a := fun s a b => by kernel_rfl
      refine ⟨false, fun s Q X => ?_⟩
      rw [if_neg hw]
      show _ = Q (.rt (.tup [.str "or", d1, d2])) s
      clear hw h0 h4
      unfold recT
      walk_at "wp"
    · have i1 : ∀ s a b, ixS s (.lst [a, b]) (.int 1) = some b := fun s a b => by kernel_rfl
      refine ⟨true, fun s Q X => ?_⟩
      rw [if_neg hw]
      show _ = Q (.rt (.tup [.str "and", d1, d2])) s
      clear hw h0 h4
      unfold recT
      walk_at "wp"
theorem top_no {M : FD} {more : Int} {deep : Nat} {l : Lf} (hr : ∀ s Q X, wp (recT M [some (.int more), some (.int (deep : Int)), some (.bl false), some (.int (more / 16)), some (.int (more % 9)), none, none] s) Q X = Q (.nx [some (.int more), some (.int (deep : Int)), some (.bl false), some (.int (more / 16)), some (.int (more % 9)), none, none]) s)
    (hl : ∀ s Q X, wp (leafT [some (.int more), some (.int (deep : Int)), some (.bl false), some (.int (more / 16)), some (.int (more % 9)), none, none] s) Q X = Q (.rt l.d) s) : VF (fnM 3 7 (b__law_query M)) [.int more, .int deep, .bl false] l.d := vf_of fun s => by
  have f1 : fdivI (.int more) (.int 16) = some (.int (more / 16)) := o_div (by decide +kernel)
  have f2 : modI (.int more) (.int 9) = some (.int (more % 9)) := o_mod (by decide)
  rw [b_qry]
  walk_at "wp"
theorem top_yes {M : FD} {more : Int} {deep : Nat} {d : D} (hr : ∀ s Q X, wp (recT M [some (.int more), some (.int (deep : Int)), some (.bl false), some (.int (more / 16)), some (.int (more % 9)), none, none] s) Q X = Q (.rt d) s) : VF (fnM 3 7 (b__law_query M)) [.int more, .int deep, .bl false] d := vf_of fun s => by
  have f1 : fdivI (.int more) (.int 16) = some (.int (more / 16)) := o_div (by decide +kernel)
  have f2 : modI (.int more) (.int 9) = some (.int (more % 9)) := o_mod (by decide)
  rw [b_qry]
  walk_at "wp"
theorem v_query (n : Nat) : ∀ (deep : Nat) (more : Int), deep + 1 ≤ n → ∃ q : Qy, q.ok ∧ q.dp ≤ deep + 1 ∧ VF (M__law_query n) [.int more, .int deep, .bl false] q.d := by
  induction n with
  | zero => exact fun deep more h => absurd h (Nat.not_succ_le_zero _)
  | succ n ih =>
    intro deep more h
    show ∃ q : Qy, q.ok ∧ q.dp ≤ deep + 1 ∧ VF (fnM 3 7 (b__law_query (M__law_query n))) [.int more, .int deep, .bl false] q.d
    by_cases hr : 0 < (deep : Int) ∧ more % 9 < 4
    · obtain ⟨d', rfl⟩ : ∃ d', deep = d' + 1 := ⟨deep - 1, by omega⟩
      obtain ⟨q1, a1, a2, a3⟩ := ih d' (drawn more 1) (by omega)
      obtain ⟨q2, b1, b2, b3⟩ := ih d' (drawn more 2) (by omega)
      have e : ((d' + 1 : Nat) : Int) - 1 = (d' : Int) := by omega
      obtain ⟨o, hk⟩ := rec_yes (M := M__law_query n) (more := more) (deep := ((d' + 1 : Nat) : Int)) (way := more % 9) hr.1 hr.2 (v_drawn more 1 (by omega) (by omega)) (v_drawn more 2 (by omega) (by omega)) (by rw [e]; exact a3) (by rw [e]; exact b3) (x3 := some (.int (more / 16))) (x6 := none)
      by_cases hw : more % 9 = 0
      · rw [if_pos hw] at hk
        exact ⟨.not q1, a1, Nat.succ_le_succ a2, top_yes hk⟩
      · rw [if_neg hw] at hk
        have hd : max q1.dp q2.dp + 1 ≤ d' + 1 + 1 := Nat.succ_le_succ (Nat.max_le.mpr ⟨a2, b2⟩)
        cases o
        · exact ⟨.bin false q1 q2, ⟨a1, b1⟩, hd, top_yes hk⟩
        · exact ⟨.bin true q1 q2, ⟨a1, b1⟩, hd, top_yes hk⟩
    · obtain ⟨l, hl, hk⟩ := leaf_q (more / 16) (more % 9) (x0 := some (.int more)) (x1 := some (.int (deep : Int))) (x5 := none) (x6 := none)
      exact ⟨.leaf l, hl, Nat.succ_le_succ (Nat.zero_le _), top_no (l := l) (rec_no hr) hk⟩
end K50

set_option Elab.async false
set_option linter.all false
set_option maxRecDepth 100000
set_option maxHeartbeats 2000000
namespace K50
open PySem Mir SX
local macro_rules | `(tactic| walk_at "wp") => `(tactic| simp -dsimp (disch := first | omega | (simp only [List.length_cons, List.length_nil, List.length_append, List.length_map]; omega)) only [*, ↓wp_eAnd, ↓wp_eOr, ↓wp_ch, ↓wp_c, ↓wp_var, ↓wp_e1, ↓wp_e2, ↓wp_eN, ↓wp_cons, ↓wp_nil, ↓wp_call, ↓wp_mt, ↓wp_sl, ↓wp_oNone, ↓wp_oSome, ↓wp_tB1, ↓wp_tNot, ↓wp_tAnd, ↓wp_tOr, ↓wp_eIf, ↓wp_told, ↓wp_next, ↓wp_raise, ↓wp_seq, ↓wp_expr, ↓wp_set, ↓wp_setO, ↓wp_setI, ↓wp_retS, ↓wp_retN, ↓wp_break, ↓wp_cont, ↓wp_if, ↓wp_app, ↓wp_asg, ↓wp_fn, ↓wp_for, ↓wp_iLst, ↓wp_iTpl, ↓wp_iN, ↓wp_iStr, ↓wp_tYes, ↓wp_ret,
  ↓wp_fld, ↓wp_fldSet, ↓wp_meth, ↓wp_new, ↓wp_sto, ↓wp_disp, ↓wp_e2S, ↓wp_eNS, ↓wp_setS, onN_non,
  onO_some, onB_bl, onI_int, onL_lst, onT_tup, onS_str, onE_go, onC_t,
  List.map_cons, List.map_nil, List.length_cons, List.length_nil, List.cons_append, List.nil_append, List.replicate, List.getElem?_cons_zero, List.getElem?_cons_succ, List.set_cons_zero, List.set_cons_succ, wipeD, decide_true, decide_false,
  Option.some.injEq, true_and, and_true, if_true, ite_true, if_false, Bool.false_eq_true, reduceIte, ite_false, Bool.not_true, Bool.not_false, Nat.reduceAdd, Nat.reduceSub, Nat.zero_add, Nat.reduceEqDiff])

def SG : Wd := [32, 33, 35, 36, 38, 39, 40, 41, 42, 43, 44, 45, 46, 47, 48, 49, 50, 51, 52, 53, 54, 55, 56, 57, 58, 59, 60, 61, 62, 63, 64, 65, 66, 67, 68, 69, 70, 71, 72, 73, 74, 75, 76, 77, 78, 79, 80, 81, 82, 83, 84, 85, 86, 87, 88, 89, 90, 91, 92, 93, 94, 95, 96, 97, 98, 99, 100, 101, 102, 103, 104, 105, 106, 107, 108, 109, 110, 111, 112, 113, 114, 115, 116, 117, 118, 119, 120, 121, 122, 123, 124, 125, 126]
theorem SG_ok : ∀ c ∈ SG, 32 ≤ c ∧ c ≤ 126 ∧ c ≠ 37 ∧ c ≠ 34 := by decide
theorem SG_len : SG.length = 93 := by decide
theorem v_sgn : VF M__law_signs [] (.str (S SG)) := fun s => by kernel_rfl
theorem range_small {n : Int} (h0 : 0 ≤ n) (h1 : n ≤ 1000000) : range1D [.int n] = some ((List.range n.toNat).map fun (i : Nat) => D.int (0 + (i : Int))) := by
  show (if rg62 n = true then some ((List.range n.toNat).map fun (i : Nat) => D.int (0 + (i : Int))) else none) = _
  rw [if_pos ?_]
  unfold rg62
  simp only [Bool.and_eq_true, decide_eq_true_eq]
  omega
def sgE : ED := (eLc0 (iN range1D (aCons (e2S ixS (eN mkL (aCons (eC (.int 0)) (aCons (eC (.int 1)) (aCons (eC (.int 5)) (aCons (eC (.int 20)) aNil))))) (e2 modI (eVar 1) (eC (.int 4)))) aNil)) (gNm 5) tYesD (e2S ixS (eVar 2) (e2 modI (eCall M__law_drawn (aCons (eVar 1) (aCons (eVar 5) aNil))) (eNS lenS (aCons (eVar 2) aNil)))) [5])
theorem cnt4 (more : Int) : ∃ n : Nat, n ≤ 20 ∧ ∀ s, ixS s (.lst [.int 0, .int 1, .int 5, .int 20]) (.int (more % 4)) = some (.int n) := by
  have h := md (i := more) (j := 4) (by decide)
  have hm : ∀ n ∈ ([0, 1, 5, 20] : List Nat), n ≤ 20 := by decide
  refine ⟨([0, 1, 5, 20] : List Nat)[(more % 4).toNat]'(by show _ < 4; omega), hm _ (List.getElem_mem _), fun s => ?_⟩
  have e : ([.int 0, .int 1, .int 5, .int 20] : List D) = ([0, 1, 5, 20] : List Nat).map fun n => D.int (n : Nat) := by kernel_rfl
  rw [e]
  show L2.atI (([0, 1, 5, 20] : List Nat).map fun n => D.int (n : Nat)) _ = _
  rw [atI_get h.1 (by simp; omega), List.getElem_map]
theorem join_one : ∀ l : Wd, TL.joinL [] (l.map fun c => [c]) = l
  | [] => rfl
  | [c] => rfl
  | c :: d :: r => by
    show [c] ++ ([] ++ TL.joinL [] ((d :: r).map fun c => [c])) = _
    rw [join_one (d :: r)]
    rfl
theorem v_sgE (q : D) (more : Int) : ∃ t : Wd, TxtW t ∧ (∀ s Q X, wp (sgE [some q, some (.int more), some (.str (S SG)), none, none, none] s) Q X = Q (.lst (t.map fun c => D.str (S [c]))) s) ∧ joinD (.str "") [.lst (t.map fun c => D.str (S [c]))] = some (.str (S t)) := by
  obtain ⟨n, hn, en⟩ := cnt4 more
  have er := range_small (n := (n : Int)) (by omega) (by omega)
  rw [Int.toNat_natCast] at er
  let pk : Nat → Nat := fun j => SG[(drawn more (j : Int) % 93).toNat]'(by have := md (i := drawn more (j : Int)) (j := 93) (by decide); rw [SG_len]; omega)
  have hz : ((List.range n).map pk).length = n := by simp
  refine ⟨(List.range n).map pk, ⟨by rw [hz]; exact hn, fun c hc => ?_⟩, fun s Q X => ?_, ?_⟩
  · obtain ⟨j, _, rfl⟩ := List.mem_map.mp hc
    exact SG_ok _ (List.getElem_mem _)
  · have k : V1 sgE [some q, some (.int more), some (.str (S SG)), none, none, none] (.lst (((List.range n).map fun (i : Nat) => D.int (0 + (i : Int))).map fun d => match d with | .int j => .str (S [pk j.toNat]) | _ => .non)) := by
      refine V1.lc0M (ds := (List.range n).map fun (i : Nat) => D.int (0 + (i : Int))) _ (VA.iN (VA.one (V1.e2S (V1.eN (VA.cons V1.c (VA.cons V1.c (VA.cons V1.c (VA.one V1.c)))) (mkL4 _ _ _ _)) (V1.e2 (V1.var rfl) V1.c (o_mod (by decide))) en)) er) (small_of (by simp; omega)) fun d hd => ?_
      obtain ⟨j, hj, rfl⟩ := List.mem_map.mp hd
      have hj : j < n := List.mem_range.mp hj
      refine ⟨_, rfl, ?_⟩
      have e0 : (0 : Int) + (j : Int) = (j : Int) := Int.zero_add _
      rw [e0]
      show V1 _ _ (.str (S [pk ((j : Int)).toNat]))
      rw [Int.toNat_natCast]
      have hd := md (i := drawn more (j : Int)) (j := 93) (by decide)
      refine V1.e2S (V1.var rfl) (V1.e2 (V1.call (VA.cons (V1.var rfl) (VA.one (V1.var rfl))) (v_drawn more (j : Int) (by omega) (by omega))) (V1.eNS (VA.one (V1.var rfl)) (lenS_s (by rw [SG_len]; omega))) (by rw [SG_len]; exact o_mod (by decide))) fun s => ?_
      have hlt : (drawn more (j : Int) % 93).toNat < SG.length := by rw [SG_len]; omega
      have h := ix_S (s := s) (l := SG) (i := (drawn more (j : Int) % 93).toNat) (c := pk j) (r := SG.drop ((drawn more (j : Int) % 93).toNat + 1)) (List.drop_eq_getElem_cons hlt) (by rw [SG_len]; omega)
      rw [Int.toNat_of_nonneg hd.1] at h
      exact h
    have e2 : (((List.range n).map fun (i : Nat) => D.int (0 + (i : Int))).map fun d => match d with | .int j => .str (S [pk j.toNat]) | _ => .non) = (((List.range n).map pk).map fun c => D.str (S [c])) := by
      rw [List.map_map, List.map_map]
      refine List.map_congr_left fun j hj => ?_
      show D.str (S [pk ((0 : Int) + (j : Int)).toNat]) = D.str (S [pk j])
      rw [Int.zero_add, Int.toNat_natCast]
    rw [k s, e2, wp_ok]
  · have h := o_join (sep := []) (ps := ((List.range n).map pk).map fun c => [c]) (by
      have : ∀ l : Wd, ((l.map fun c => [c]).map (·.length)).sum = l.length := fun l => by
        induction l with
        | nil => rfl
        | cons c r ih => simp at ih ⊢; omega
      rw [this]
      simp
      omega)
    rw [join_one, List.map_map] at h
    exact h
end K50

set_option Elab.async false
set_option linter.all false
set_option maxRecDepth 100000
set_option maxHeartbeats 2000000
namespace K50
open PySem Mir SX
local macro_rules | `(tactic| walk_at "wp") => `(tactic| simp -dsimp (disch := first | omega | (simp only [List.length_cons, List.length_nil, List.length_append, List.length_map]; omega)) only [*, ↓wp_eAnd, ↓wp_eOr, ↓wp_ch, ↓wp_c, ↓wp_var, ↓wp_e1, ↓wp_e2, ↓wp_eN, ↓wp_cons, ↓wp_nil, ↓wp_call, ↓wp_mt, ↓wp_sl, ↓wp_oNone, ↓wp_oSome, ↓wp_tB1, ↓wp_tNot, ↓wp_tAnd, ↓wp_tOr, ↓wp_eIf, ↓wp_told, ↓wp_next, ↓wp_raise, ↓wp_seq, ↓wp_expr, ↓wp_set, ↓wp_setO, ↓wp_setI, ↓wp_retS, ↓wp_retN, ↓wp_break, ↓wp_cont, ↓wp_if, ↓wp_app, ↓wp_asg, ↓wp_fn, ↓wp_for, ↓wp_iLst, ↓wp_iTpl, ↓wp_iN, ↓wp_iStr, ↓wp_tYes, ↓wp_ret,
  ↓wp_fld, ↓wp_fldSet, ↓wp_meth, ↓wp_new, ↓wp_sto, ↓wp_disp, ↓wp_e2S, ↓wp_eNS, ↓wp_setS, onN_non,
  onO_some, onB_bl, onI_int, onL_lst, onT_tup, onS_str, onE_go, onC_t,
  List.map_cons, List.map_nil, List.length_cons, List.length_nil, List.cons_append, List.nil_append, List.replicate, List.getElem?_cons_zero, List.getElem?_cons_succ, List.set_cons_zero, List.set_cons_succ, wipeD, decide_true, decide_false,
  Option.some.injEq, true_and, and_true, if_true, ite_true, if_false, Bool.false_eq_true, reduceIte, ite_false, Bool.not_true, Bool.not_false, Nat.reduceAdd, Nat.reduceSub, Nat.zero_add, Nat.reduceEqDiff])

def mSp : List Wd := [[32], [32, 120], [120, 32], [32, 32]]
theorem mSp_e : ([.str " ", .str " x", .str "x ", .str "  "] : List D) = sD mSp := by kernel_rfl
theorem mSp_ok : ∀ t ∈ mSp, t.length ≤ 20 ∧ ∀ c ∈ t, 32 ≤ c ∧ c ≤ 126 ∧ c ≠ 37 ∧ c ≠ 34 := by decide
def mN3 : List Wd := [[57, 57, 57, 57, 58, 42], [49, 44, 50, 58, 51, 44, 42, 58, 52], [42]]
theorem mN3_e : ([.str "9999:*", .str "1,2:3,*:4", .str "*"] : List D) = sD mN3 := by kernel_rfl
theorem mN3_ok : ∀ t ∈ mN3, t ∈ NUMS := by decide
def aL : Wd := [97, 98, 99, 100, 101, 102, 103, 104, 105, 106, 107, 108]
def aJ : Wd := [97, 98, 99, 100, 101, 102, 103, 104, 105, 106]
theorem low_take {a : Wd} (k : Nat) (ha : ∀ c ∈ a, 97 ≤ c ∧ c ≤ 122) (h1 : 1 ≤ k) (h2 : k ≤ a.length) : LowW a.length (a.take k) :=
  ⟨by rw [List.length_take]; omega, fun c hc => ha c (List.mem_of_mem_take hc)⟩
theorem cut_pre {a : Wd} {x : Str} (e : x = S a) {i : Int} (ha : ∀ c ∈ a, 97 ≤ c ∧ c ≤ 122) (h0 : 0 ≤ i) (h1 : i < a.length) (hz : a.length ≤ 100) : ∃ w, LowW a.length w ∧ slD (.str x) none (some (1 + i)) = some (.str (S w)) := by
  subst e
  refine ⟨a.take (1 + i).toNat, low_take _ ha (by omega) (by omega), ?_⟩
  have h := o_to (l := a) (i := (1 + i).toNat) (by omega)
  rw [Int.toNat_of_nonneg (by omega)] at h
  exact h
theorem ix_lf {ls : List Lf} {ds : List D} (e : ds = ls.map Lf.d) (i : Int) (h0 : 0 ≤ i) (h1 : i < ls.length) : ∃ l ∈ ls, ∀ s, ixS s (.lst ds) (.int i) = some l.d :=
  ⟨ls[i.toNat], List.getElem_mem _, fun s => by
    subst e
    show L2.atI (ls.map Lf.d) i = _
    rw [atI_get h0 (by simpa using h1), List.getElem_map]⟩
theorem cat21 (a b c : D) : addDT (.lst [a, b]) (.lst [c]) = some (.lst [a, b, c]) := by kernel_rfl
theorem cat32 (a b c d e : D) : addDT (.lst [a, b, c]) (.lst [d, e]) = some (.lst [a, b, c, d, e]) := by kernel_rfl
/-- from the text on -/
def sgTail : SD := (sSeq (sSet 4 (eN mkL (aCons (eN mkT (aCons (eC (.str "body")) (aCons (eVar 3) aNil))) (aCons (eN mkT (aCons (eC (.str "head")) (aCons (eSl (eC (.str "abcdefghijkl")) oNone (oSome (e2 addDT (eC (.int 1)) (e2 modI (e2 fdivI (eVar 1) (eC (.int 4))) (eC (.int 12)))))) (aCons (eVar 3) aNil)))) aNil))))
    (sSeq (sSet 4 (e2 addDT (eVar 4) (eN mkL (aCons (eN mkT (aCons (eC (.str "mark")) (aCons (eSl (eC (.str "abcdefghij")) oNone (oSome (e2 addDT (eC (.int 1)) (e2 modI (e2 fdivI (eVar 1) (eC (.int 4))) (eC (.int 10)))))) aNil))) aNil))))
    (sSeq (sSet 4 (e2 addDT (eVar 4) (eN mkL (aCons (eN mkT (aCons (eC (.str "newer")) (aCons (e2 modI (e2 fdivI (eVar 1) (eC (.int 8))) (eC (.int 10000))) aNil))) (aCons (eN mkT (aCons (eC (.str "numbers")) (aCons (e2S ixS (eN mkL (aCons (eC (.str "9999:*")) (aCons (eC (.str "1,2:3,*:4")) (aCons (eC (.str "*")) aNil)))) (e2 modI (e2 fdivI (eVar 1) (eC (.int 4))) (eC (.int 3)))) aNil))) aNil)))))
    (sRet (e2S ixS (eN mkL (aCons (eN mkT (aCons (eC (.str "and")) (aCons (e2S ixS (eVar 4) (e2 modI (e2 fdivI (eVar 1) (eC (.int 64))) (eC (.int 5)))) (aCons (eVar 0) aNil)))) (aCons (eN mkT (aCons (eC (.str "or")) (aCons (eVar 0) (aCons (e2S ixS (eVar 4) (e2 modI (e2 fdivI (eVar 1) (eC (.int 64))) (eC (.int 5)))) aNil)))) aNil))) (e2 modI (e2 fdivI (eVar 1) (eC (.int 512))) (eC (.int 2))))))))
def sgIf : SD := (sIf (tB1 (e2 eqD (e2 modI (e2 fdivI (eVar 1) (e2 powI (eC (.int 2)) (eC (.int 20)))) (eC (.int 3))) (eC (.int 0)))) (sSet 3 (e2S ixS (eN mkL (aCons (eC (.str " ")) (aCons (eC (.str " x")) (aCons (eC (.str "x ")) (aCons (eC (.str "  ")) aNil))))) (e2 modI (e2 fdivI (eVar 1) (e2 powI (eC (.int 2)) (eC (.int 22)))) (eC (.int 4))))) sNext)
theorem b_sgn : b__law_signed = sSeq (sSet 2 (eCall M__law_signs aNil)) (sSeq (sSet 3 (eMt "str" joinD (eC (.str "")) (aCons sgE aNil))) (sSeq sgIf sgTail)) := rfl
theorem dp_pos : ∀ q : Qy, 1 ≤ q.dp
  | .leaf _ => Nat.le_refl _
  | .not _ => Nat.succ_le_succ (Nat.zero_le _)
  | .bin _ _ _ => Nat.succ_le_succ (Nat.zero_le _)
theorem v_sgTail {q : Qy} (ho : q.ok) {t : Wd} (ht : TxtW t) (more : Int) : ∃ q' : Qy, q'.ok ∧ q'.dp ≤ q.dp + 1 ∧ ∀ s Q X, wp (sgTail [some q.d, some (.int more), some (.str (S SG)), some (.str (S t)), none, none] s) Q X = Q (.rt q'.d) s := by
  have y1 : fdivI (.int more) (.int 4) = some (.int (more / 4)) := o_div (by decide +kernel)
  have y2 : modI (.int (more / 4)) (.int 12) = some (.int (more / 4 % 12)) := o_mod (by decide)
  have y3 : modI (.int (more / 4)) (.int 10) = some (.int (more / 4 % 10)) := o_mod (by decide)
  have y4 : fdivI (.int more) (.int 8) = some (.int (more / 8)) := o_div (by decide +kernel)
  have y6 : modI (.int (more / 4)) (.int 3) = some (.int (more / 4 % 3)) := o_mod (by decide)
  have y7 : fdivI (.int more) (.int 64) = some (.int (more / 64)) := o_div (by decide +kernel)
  have y8 : modI (.int (more / 64)) (.int 5) = some (.int (more / 64 % 5)) := o_mod (by decide)
  have y9 : fdivI (.int more) (.int 512) = some (.int (more / 512)) := o_div (by decide +kernel)
  have z1 : modI (.int (more / 512)) (.int 2) = some (.int (more / 512 % 2)) := o_mod (by decide)
  have a1 := o_addI 1 (more / 4 % 12)
  have a2 := o_addI 1 (more / 4 % 10)
  obtain ⟨wh, lh, eh⟩ := cut_pre (a := aL) (x := "abcdefghijkl") (by kernel_rfl) (i := more / 4 % 12) (by decide) (md (by decide)).1 (md (by decide)).2 (by decide)
  obtain ⟨wm, lm, em⟩ := cut_pre (a := aJ) (x := "abcdefghij") (by kernel_rfl) (i := more / 4 % 10) (by decide) (md (by decide)).1 (md (by decide)).2 (by decide)
  obtain ⟨nn, hn, y5⟩ : ∃ n : Nat, n ≤ 9999 ∧ modI (.int (more / 8)) (.int 10000) = some (.int (n : Nat)) := by
    have h := md (i := more / 8) (j := 10000) (by decide)
    refine ⟨(more / 8 % 10000).toNat, by omega, ?_⟩
    rw [Int.toNat_of_nonneg h.1]
    exact o_mod (by decide)
  obtain ⟨w3, h3, e3⟩ := ix_menu mN3_e (more / 4 % 3) (md (by decide)).1 (md (by decide)).2
  obtain ⟨l, hl, el⟩ := ix_lf (ls := [.body t, .head wh t, .mark wm, .newer nn, .numbers w3]) (ds := [.tup [.str "body", .str (S t)], .tup [.str "head", .str (S wh), .str (S t)], .tup [.str "mark", .str (S wm)], .tup [.str "newer", .int (nn : Nat)], .tup [.str "numbers", .str (S w3)]]) rfl (more / 64 % 5) (md (by decide)).1 (md (by decide)).2
  have okl : l.ok := by
    simp only [List.mem_cons, List.not_mem_nil, or_false] at hl
    rcases hl with rfl | rfl | rfl | rfl | rfl
    · exact ht
    · exact ⟨lh, ht⟩
    · exact lm
    · exact hn
    · exact mN3_ok w3 h3
  have f3 := @mkT2
  have f4 := @mkT3
  have f5 := mkL1
  have f6 := mkL2
  have f7 := mkL3
  have c1 := cat21
  have c2 := cat32
  have hp := dp_pos q
  have h2 := md (i := more / 512) (j := 2) (by decide)
  have hcs : more / 512 % 2 = 0 ∨ more / 512 % 2 = 1 := by omega
  generalize more / 512 % 2 = w2 at *
  clear h2
  rcases hcs with rfl | rfl
  · have i0 : ∀ s a b, ixS s (.lst [a, b]) (.int 0) = some a := fun s a b => by kernel_rfl
    refine ⟨.bin true (.leaf l) q, ⟨okl, ho⟩, ?_, fun s Q X => ?_⟩
    · show max 1 q.dp + 1 ≤ _
      omega
    · clear hl okl hp h3 lh lm ht hn ho
      show _ = Q (.rt (.tup [.str "and", l.d, q.d])) s
      unfold sgTail
      walk_at "wp"
  · have i1 : ∀ s a b, ixS s (.lst [a, b]) (.int 1) = some b := fun s a b => by kernel_rfl
    refine ⟨.bin false q (.leaf l), ⟨ho, okl⟩, ?_, fun s Q X => ?_⟩
    · show max q.dp 1 + 1 ≤ _
      omega
    · clear hl okl hp h3 lh lm ht hn ho
      show _ = Q (.rt (.tup [.str "or", q.d, l.d])) s
      unfold sgTail
      walk_at "wp"
theorem v_signed {q : Qy} (ho : q.ok) (more : Int) : ∃ q' : Qy, q'.ok ∧ q'.dp ≤ q.dp + 1 ∧ VF M__law_signed [q.d, .int more] q'.d := by
  obtain ⟨t0, ht0, e0, j0⟩ := v_sgE q.d more
  have y0 := vf_wp v_sgn
  have p1 : powI (.int 2) (.int 20) = some (.int 1048576) := by kernel_rfl
  have p2 : powI (.int 2) (.int 22) = some (.int 4194304) := by kernel_rfl
  have y1 : fdivI (.int more) (.int 1048576) = some (.int (more / 1048576)) := o_div (by decide +kernel)
  have y2 : modI (.int (more / 1048576)) (.int 3) = some (.int (more / 1048576 % 3)) := o_mod (by decide)
  have y3 : fdivI (.int more) (.int 4194304) = some (.int (more / 4194304)) := o_div (by decide +kernel)
  have y4 : modI (.int (more / 4194304)) (.int 4) = some (.int (more / 4194304 % 4)) := o_mod (by decide)
  obtain ⟨w3, h3, e3⟩ := ix_menu mSp_e (more / 4194304 % 4) (md (by decide)).1 (md (by decide)).2
  have f6 := mkL4
  have ty : isTy "str" (.str "") = true := rfl
  obtain ⟨t, ht, hif⟩ : ∃ t : Wd, TxtW t ∧ ∀ s Q X, wp (sgIf [some q.d, some (.int more), some (.str (S SG)), some (.str (S t0)), none, none] s) Q X = Q (.nx [some q.d, some (.int more), some (.str (S SG)), some (.str (S t)), none, none]) s := by
    by_cases h : more / 1048576 % 3 = 0
    · have y5 : eqD (.int (more / 1048576 % 3)) (.int 0) = some (.bl true) := by rw [h]; kernel_rfl
      refine ⟨w3, mSp_ok w3 h3, fun s Q X => ?_⟩
      clear h h3 ht0 e0 j0 ho
      unfold sgIf
      walk_at "wp"
    · have y5 : eqD (.int (more / 1048576 % 3)) (.int 0) = some (.bl false) := by
        show some (D.bl (decide (L2.V.int (more / 1048576 % 3) = L2.V.int 0))) = _
        rw [decide_eq_false (fun e => h (L2.V.int.inj e))]
      refine ⟨t0, ht0, fun s Q X => ?_⟩
      clear h h3 ht0 e0 j0 ho
      unfold sgIf
      walk_at "wp"
  obtain ⟨q', o', d', k'⟩ := v_sgTail ho ht more
  refine ⟨q', o', d', vf_of fun s => ?_⟩
  clear ho ht0 ht o' d' h3 e3 p1 p2 y1 y2 y3 y4
  unfold M__law_signed
  rw [b_sgn]
  walk_at "wp"
end K50

set_option Elab.async false
set_option linter.all false
set_option maxRecDepth 100000
set_option maxHeartbeats 2000000
namespace K50
open PySem Mir SX
/-- plain things: what they are, how deep -/
def Pl (n : Nat) (d : D) : Prop := ∃ p, toP d = some p ∧ PyData.canLay0 p = true ∧ PyData.depth p ≤ n
def Pls (n : Nat) (ds : List D) : Prop := ∃ ps, toPs ds = some ps ∧ PyData.canLayAll0 ps = true ∧ PyData.depthAll ps ≤ n
theorem strOk_of {l : List Nat} (h : ∀ c ∈ l, c < 1114112) : PyData.strOk (S l) = true := by
  show (l.toArray).all _ = true
  simpa using h
theorem Pl.str (n : Nat) {x : Str} (h : PyData.strOk x = true) : Pl n (.str x) := ⟨.str x, rfl, by simp [PyData.canLay0, h], by simp [PyData.depth]⟩
theorem Pl.int (n : Nat) (i : Int) : Pl n (.int i) := ⟨.int i, rfl, by simp [PyData.canLay0], by simp [PyData.depth]⟩
theorem Pls.nil (n : Nat) : Pls n [] := ⟨[], rfl, by simp [PyData.canLayAll0], by simp [PyData.depthAll]⟩
theorem Pls.cons {n : Nat} {d : D} {ds : List D} (h : Pl n d) (k : Pls n ds) : Pls n (d :: ds) := by
  obtain ⟨p, h1, h2, h3⟩ := h
  obtain ⟨ps, k1, k2, k3⟩ := k
  refine ⟨p :: ps, ?_, ?_, ?_⟩
  · show (match toP d, toPs ds with | some p, some ps => some (p :: ps) | _, _ => none) = _
    rw [h1, k1]
  · simp [PyData.canLayAll0, h2, k2]
  · simp only [PyData.depthAll]; omega
theorem Pl.tup {n : Nat} {ds : List D} (k : Pls n ds) : Pl (n + 1) (.tup ds) := by
  obtain ⟨ps, k1, k2, k3⟩ := k
  exact ⟨.tuple ps, toP_tup k1, by rw [PyData.canLay0]; exact k2, by rw [PyData.depth]; omega⟩
theorem Pl.mono {n m : Nat} {d : D} (h : Pl n d) (e : n ≤ m) : Pl m d := by
  obtain ⟨p, h1, h2, h3⟩ := h
  exact ⟨p, h1, h2, by omega⟩
theorem ne_self {n : Nat} {ds : List D} (h : Pl n (.tup ds)) (hn : n ≤ 64) : neD (.tup ds) (.tup ds) = some (.bl false) := by
  obtain ⟨p, h1, h2, h3⟩ := h
  have hs : SeqAt.shaped p = true := by
    unfold SeqAt.shaped
    rw [h2, decide_eq_true (by omega)]
    rfl
  refine orO_r rfl ((eqP_of h1 h1 hs hs).trans ?_)
  rw [SeqAt.eqv_refl p h2]
  rfl
theorem low_so {k : Nat} {m : Wd} (h : LowW k m) : PyData.strOk (S m) = true := strOk_of fun c hc => by have := (h.2 c hc).2; omega
theorem txt_so {m : Wd} (h : TxtW m) : PyData.strOk (S m) = true := strOk_of fun c hc => by have := (h.2 c hc).2.1; omega
theorem nums_so : ∀ t ∈ NUMS, ∀ c ∈ t, c < 1114112 := by decide
theorem Lf.pl : ∀ l : Lf, l.ok → Pl 1 l.d
  | .all, _ => Pl.tup (Pls.cons (Pl.str _ (by decide +kernel)) (Pls.nil _))
  | .mark m, h => Pl.tup (Pls.cons (Pl.str _ (by decide +kernel)) (Pls.cons (Pl.str _ (low_so h)) (Pls.nil _)))
  | .head n t, h => Pl.tup (Pls.cons (Pl.str _ (by decide +kernel)) (Pls.cons (Pl.str _ (low_so h.1)) (Pls.cons (Pl.str _ (txt_so h.2)) (Pls.nil _))))
  | .body t, h => Pl.tup (Pls.cons (Pl.str _ (by decide +kernel)) (Pls.cons (Pl.str _ (txt_so h)) (Pls.nil _)))
  | .numbers t, h => Pl.tup (Pls.cons (Pl.str _ (by decide +kernel)) (Pls.cons (Pl.str _ (strOk_of (nums_so t h))) (Pls.nil _)))
  | .newer n, h => Pl.tup (Pls.cons (Pl.str _ (by decide +kernel)) (Pls.cons (Pl.int _ _) (Pls.nil _)))
theorem Qy.pl : ∀ q : Qy, q.ok → Pl q.dp q.d
  | .leaf l, h => l.pl h
  | .not q, h => Pl.tup (Pls.cons (Pl.str _ (by decide +kernel)) (Pls.cons (q.pl h) (Pls.nil _)))
  | .bin true p q, h => Pl.tup (n := max p.dp q.dp) (Pls.cons (Pl.str _ (x := "and") (by decide +kernel)) (Pls.cons ((p.pl h.1).mono (Nat.le_max_left _ _)) (Pls.cons ((q.pl h.2).mono (Nat.le_max_right _ _)) (Pls.nil _))))
  | .bin false p q, h => Pl.tup (n := max p.dp q.dp) (Pls.cons (Pl.str _ (x := "or") (by decide +kernel)) (Pls.cons ((p.pl h.1).mono (Nat.le_max_left _ _)) (Pls.cons ((q.pl h.2).mono (Nat.le_max_right _ _)) (Pls.nil _))))
theorem Qy.isT : ∀ q : Qy, ∃ ds, q.d = .tup ds
  | .leaf l => by cases l <;> exact ⟨_, rfl⟩
  | .not q => ⟨_, rfl⟩
  | .bin true p q => ⟨_, rfl⟩
  | .bin false p q => ⟨_, rfl⟩
theorem q_ne {q : Qy} (ho : q.ok) (h : q.dp ≤ 60) : neD q.d q.d = some (.bl false) := by
  have hp := q.pl ho
  obtain ⟨ds, e⟩ := q.isT
  rw [e] at hp ⊢
  exact ne_self hp (by omega)
end K50

set_option Elab.async false
set_option linter.all false
set_option maxRecDepth 100000
set_option maxHeartbeats 4000000
namespace K50
open PySem Mir SX
local macro_rules | `(tactic| walk_at "wp") => `(tactic| simp -dsimp (disch := first | omega | (simp only [List.length_cons, List.length_nil, List.length_append, List.length_map]; omega)) only [*, ↓wp_eAnd, ↓wp_eOr, ↓wp_ch, ↓wp_c, ↓wp_var, ↓wp_e1, ↓wp_e2, ↓wp_eN, ↓wp_cons, ↓wp_nil, ↓wp_call, ↓wp_mt, ↓wp_sl, ↓wp_oNone, ↓wp_oSome, ↓wp_tB1, ↓wp_tNot, ↓wp_tAnd, ↓wp_tOr, ↓wp_eIf, ↓wp_told, ↓wp_next, ↓wp_raise, ↓wp_seq, ↓wp_expr, ↓wp_set, ↓wp_setO, ↓wp_setI, ↓wp_retS, ↓wp_retN, ↓wp_break, ↓wp_cont, ↓wp_if, ↓wp_app, ↓wp_asg, ↓wp_fn, ↓wp_for, ↓wp_iLst, ↓wp_iTpl, ↓wp_iN, ↓wp_iStr, ↓wp_tYes, ↓wp_ret,
  ↓wp_fld, ↓wp_fldSet, ↓wp_meth, ↓wp_new, ↓wp_sto, ↓wp_disp, ↓wp_e2S, ↓wp_eNS, ↓wp_setS, onN_non,
  onO_some, onB_bl, onI_int, onL_lst, onT_tup, onS_str, onE_go, onC_t,
  List.map_cons, List.map_nil, List.length_cons, List.length_nil, List.cons_append, List.nil_append, List.replicate, List.getElem?_cons_zero, List.getElem?_cons_succ, List.set_cons_zero, List.set_cons_succ, wipeD, decide_true, decide_false,
  Option.some.injEq, true_and, and_true, if_true, ite_true, if_false, Bool.false_eq_true, reduceIte, ite_false, Bool.not_true, Bool.not_false, Nat.reduceAdd, Nat.reduceSub, Nat.zero_add, Nat.reduceEqDiff])
/-! ### the text made wide -/
theorem spl_size : ∀ (l acc : Wd), ((TL.spl [34] 0 acc l).map (·.length)).sum + (TL.spl [34] 0 acc l).length = acc.length + l.length + 1
  | [], acc => by rw [TL.spl_nil]; simp
  | c :: r, acc => by
    by_cases h : c = 34
    · rw [TL.spl_hit (by rw [pre1, decide_eq_true h])]
      have := spl_size r []
      simp at this ⊢
      omega
    · rw [TL.spl_miss (by rw [pre1, decide_eq_false h])]
      have := spl_size r (acc ++ [c])
      simp at this ⊢
      omega
theorem trip_len (l : Wd) : (trip [32, 32, 32] l).length ≤ 3 * l.length := by
  induction l with
  | nil => simp [trip]
  | cons c r ih =>
    show ((if c = 32 then [32, 32, 32] else [c]) ++ trip [32, 32, 32] r).length ≤ _
    rw [List.length_append]
    have : (if c = 32 then [32, 32, 32] else [c] : Wd).length ≤ 3 := by split <;> simp
    simp only [List.length_cons]
    omega
theorem gB_len (b : Bool) (l : Wd) : (gB b l).length ≤ 3 * l.length := by
  cases b
  · exact trip_len l
  · show l.length ≤ _; omega
theorem alt_size : ∀ (ps : List Wd) (b : Bool), ((alt b ps).map (·.length)).sum ≤ 3 * (ps.map (·.length)).sum ∧ (alt b ps).length = ps.length
  | [], b => by simp [alt]
  | p :: ps, b => by
    obtain ⟨h1, h2⟩ := alt_size ps (!b)
    have := gB_len b p
    simp only [alt, List.map_cons, List.sum_cons, List.length_cons]
    omega
def wideF : D → D
  | .tup [.int j, .str x] => if j % 2 = 1 then .str x else .str (Txt.replace x " " "   ")
  | _ => .non
theorem repl_trip (p : Wd) : Txt.replace (S p) " " "   " = S (trip [32, 32, 32] p) := by
  have h := repl_S (l := p) (z := [32, 32, 32]) (c := 32)
  rw [join_trip] at h
  exact h
theorem enum_wide : ∀ (ps : List Wd) (n : Nat), (enumFrom n (sD ps)).map wideF = sD (alt (decide (n % 2 = 1)) ps)
  | [], n => rfl
  | p :: ps, n => by
    have ih := enum_wide ps (n + 1)
    have e : decide ((n + 1) % 2 = 1) = !decide (n % 2 = 1) := by
      by_cases h : n % 2 = 1
      · rw [decide_eq_true h, decide_eq_false (by omega)]; rfl
      · rw [decide_eq_false h, decide_eq_true (by omega)]; rfl
    rw [e] at ih
    show wideF (.tup [.int (n : Nat), .str (S p)]) :: (enumFrom (n + 1) (sD ps)).map wideF = .str (S (gB (decide (n % 2 = 1)) p)) :: sD (alt (!decide (n % 2 = 1)) ps)
    rw [ih]
    congr 1
    show (if ((n : Nat) : Int) % 2 = 1 then D.str (S p) else .str (Txt.replace (S p) " " "   ")) = _
    by_cases h : n % 2 = 1
    · rw [if_pos (by omega), decide_eq_true h]; rfl
    · rw [if_neg (by omega), decide_eq_false h, repl_trip]; rfl
def wideE : ED := (eLc (iN enumD (aCons (eVar 7) aNil)) (gTp 2 (gsCons (gNm 4) (gsCons (gNm 9) gsNil))) tYesD (eIf (tB1 (e2 eqD (e2 modI (eVar 4) (eC (.int 2))) (eC (.int 1)))) (eVar 9) (e1 (replD " " "   ") (eVar 9))) [4, 9])
theorem o_eqI (i j : Int) : eqD (.int i) (.int j) = some (.bl (decide (i = j))) := by
  show some (D.bl (decide (L2.V.int i = L2.V.int j))) = _
  congr 2
  by_cases h : i = j
  · rw [h]; simp
  · rw [decide_eq_false h, decide_eq_false (fun e => h (L2.V.int.inj e))]
theorem v_wide {ps : List Wd} (hz : ps.length ≤ 2000000) (hp : ∀ p ∈ ps, p.length ≤ 2000000) {x0 x1 x2 x3 x4 x5 x6 x8 x9 : Option D} : V1 wideE [x0, x1, x2, x3, x4, x5, x6, some (.lst (sD ps)), x8, x9] (.lst (sD (alt false ps))) := by
  have h := V1.lcM (τ := [x0, x1, x2, x3, x4, x5, x6, some (.lst (sD ps)), x8, x9]) (it := iN enumD (aCons (eVar 7) aNil)) (tg := gTp 2 (gsCons (gNm 4) (gsCons (gNm 9) gsNil))) (el := eIf (tB1 (e2 eqD (e2 modI (eVar 4) (eC (.int 2))) (eC (.int 1)))) (eVar 9) (e1 (replD " " "   ") (eVar 9))) (vs := [4, 9]) wideF (ds := enumFrom 0 (sD ps)) (VA.iN (VA.one (V1.var rfl)) rfl) (small_of (by rw [enum_len]; simp [sD]; omega)) (fun d hd => ?_)
  · rw [enum_wide] at h
    exact h
  · obtain ⟨i, hi⟩ := List.mem_iff_getElem?.mp hd
    obtain ⟨x, hx, rfl⟩ := enum_get (sD ps) 0 i d hi
    rw [Nat.zero_add]
    rw [sD, List.getElem?_map] at hx
    cases hq : ps[i]? with
    | none => rw [hq] at hx; cases hx
    | some p =>
      rw [hq] at hx
      cases hx
      have hm : p ∈ ps := List.mem_of_getElem? hq
      have hl := hp p hm
      refine ⟨_, rfl, ?_⟩
      show V1 _ [x0, x1, x2, x3, some (.int (i : Nat)), x5, x6, some (.lst (sD ps)), x8, some (.str (S p))] (if ((i : Nat) : Int) % 2 = 1 then D.str (S p) else .str (Txt.replace (S p) " " "   "))
      by_cases h : ((i : Nat) : Int) % 2 = 1
      · rw [if_pos h]
        exact V1.ifT (VT.v (V1.e2 (V1.e2 (V1.var rfl) V1.c (o_mod (by decide))) V1.c ((o_eqI _ _).trans (by rw [decide_eq_true h])))) (V1.var rfl)
      · rw [if_neg h]
        refine V1.ifF (VT.v (V1.e2 (V1.e2 (V1.var rfl) V1.c (o_mod (by decide))) V1.c ((o_eqI _ _).trans (by rw [decide_eq_false h])))) (V1.e1 (V1.var rfl) ?_)
        show (if decide ((S p).length + ((S p).length + 1) * (PySem.Str.length "   ") ≤ 16777216) = true then some (D.str (Txt.replace (S p) " " "   ")) else none) = _
        have e3 : PySem.Str.length "   " = 3 := rfl
        rw [if_pos (decide_eq_true (by rw [S_len, e3]; omega))]
/-! ### the tower -/
def towB : SD := (sSeq (sSet 5 (eN mkL (aCons (eN mkT (aCons (eC (.str "not")) (aCons (eVar 3) aNil))) (aCons (eN mkT (aCons (eC (.str "and")) (aCons (eN mkT (aCons (eC (.str "all")) aNil)) (aCons (eVar 3) aNil)))) (aCons (eN mkT (aCons (eC (.str "or")) (aCons (eVar 3) (aCons (eN mkT (aCons (eC (.str "mark")) (aCons (eC (.str "a")) aNil))) aNil)))) aNil)))))
    (sSet 3 (e2S ixS (eVar 5) (e2 modI (eCall M__law_drawn (aCons (eVar 2) (aCons (eVar 4) aNil))) (eC (.int 3))))))
def towL (q : Qy) : D := .lst [.tup [.str "not", q.d], .tup [.str "and", .tup [.str "all"], q.d], .tup [.str "or", q.d, .tup [.str "mark", .str "a"]]]
theorem tow_step {q : Qy} (ho : q.ok) (more : Int) (j : Nat) (hj : j < 1000) {x0 x1 x5 x6 x7 x8 x9 : Option D} : ∃ q' : Qy, q'.ok ∧ q'.dp ≤ q.dp + 1 ∧ ∃ y, ∀ s Q X, wp (towB [x0, x1, some (.int more), some q.d, some (.int (j : Int)), x5, x6, x7, x8, x9] s) Q X = Q (.nx [x0, x1, some (.int more), some q'.d, some (.int (j : Int)), y, x6, x7, x8, x9]) s := by
  have kd := vf_wp (v_drawn more j (by omega) (by omega))
  have y2 : modI (.int (drawn more (j : Int))) (.int 3) = some (.int (drawn more (j : Int) % 3)) := o_mod (by decide)
  have h3 := md (i := drawn more (j : Int)) (j := 3) (by decide)
  have hcs : drawn more (j : Int) % 3 = 0 ∨ drawn more (j : Int) % 3 = 1 ∨ drawn more (j : Int) % 3 = 2 := by omega
  have f1 := @mkT1
  have f3 := @mkT2
  have f4 := @mkT3
  have f7 := mkL3
  have hp := dp_pos q
  have i0 : ∀ s a b c, ixS s (.lst [a, b, c]) (.int 0) = some a := fun s a b c => by kernel_rfl
  have i1 : ∀ s a b c, ixS s (.lst [a, b, c]) (.int 1) = some b := fun s a b c => by kernel_rfl
  have i2 : ∀ s a b c, ixS s (.lst [a, b, c]) (.int 2) = some c := fun s a b c => by kernel_rfl
  generalize drawn more (j : Int) % 3 = w at *
  clear h3
  rcases hcs with rfl | rfl | rfl
  · refine ⟨.not q, ho, Nat.le_refl _, some (towL q), fun s Q X => ?_⟩
    show _ = Q (.nx [x0, x1, some (.int more), some (.tup [.str "not", q.d]), some (.int (j : Int)), some (.lst [.tup [.str "not", q.d], .tup [.str "and", .tup [.str "all"], q.d], .tup [.str "or", q.d, .tup [.str "mark", .str "a"]]]), x6, x7, x8, x9]) s
    clear ho hp hj
    unfold towB
    walk_at "wp"
  · refine ⟨.bin true (.leaf .all) q, ⟨trivial, ho⟩, ?_, some (towL q), fun s Q X => ?_⟩
    · show max 1 q.dp + 1 ≤ _
      omega
    · show _ = Q (.nx [x0, x1, some (.int more), some (.tup [.str "and", .tup [.str "all"], q.d]), some (.int (j : Int)), some (.lst [.tup [.str "not", q.d], .tup [.str "and", .tup [.str "all"], q.d], .tup [.str "or", q.d, .tup [.str "mark", .str "a"]]]), x6, x7, x8, x9]) s
      clear ho hp hj
      unfold towB
      walk_at "wp"
  · refine ⟨.bin false q (.leaf (.mark [97])), ⟨ho, ⟨by decide, by decide⟩, by decide⟩, ?_, some (towL q), fun s Q X => ?_⟩
    · show max q.dp 1 + 1 ≤ _
      omega
    · show _ = Q (.nx [x0, x1, some (.int more), some (.tup [.str "or", q.d, .tup [.str "mark", .str (S [97])]]), some (.int (j : Int)), some (.lst [.tup [.str "not", q.d], .tup [.str "and", .tup [.str "all"], q.d], .tup [.str "or", q.d, .tup [.str "mark", .str "a"]]]), x6, x7, x8, x9]) s
      have ea : (D.str "a") = .str (S [97]) := by kernel_rfl
      rw [ea]
      clear ho hp hj
      unfold towB
      rw [ea]
      clear ea
      walk_at "wp"
end K50

set_option Elab.async false
set_option linter.all false
set_option maxRecDepth 100000
set_option maxHeartbeats 400000
namespace K50
open PySem Mir SX
local macro_rules | `(tactic| walk_at "wp") => `(tactic| simp -dsimp (disch := first | omega | (simp only [List.length_cons, List.length_nil, List.length_append, List.length_map]; omega)) only [*, ↓wp_eAnd, ↓wp_eOr, ↓wp_ch, ↓wp_c, ↓wp_var, ↓wp_e1, ↓wp_e2, ↓wp_eN, ↓wp_cons, ↓wp_nil, ↓wp_call, ↓wp_mt, ↓wp_sl, ↓wp_oNone, ↓wp_oSome, ↓wp_tB1, ↓wp_tNot, ↓wp_tAnd, ↓wp_tOr, ↓wp_eIf, ↓wp_told, ↓wp_next, ↓wp_raise, ↓wp_seq, ↓wp_expr, ↓wp_set, ↓wp_setO, ↓wp_setI, ↓wp_retS, ↓wp_retN, ↓wp_break, ↓wp_cont, ↓wp_if, ↓wp_app, ↓wp_asg, ↓wp_fn, ↓wp_for, ↓wp_iLst, ↓wp_iTpl, ↓wp_iN, ↓wp_iStr, ↓wp_tYes, ↓wp_ret,
  ↓wp_fld, ↓wp_fldSet, ↓wp_meth, ↓wp_new, ↓wp_sto, ↓wp_disp, ↓wp_e2S, ↓wp_eNS, ↓wp_setS, onN_non,
  onO_some, onB_bl, onI_int, onL_lst, onT_tup, onS_str, onE_go, onC_t,
  List.map_cons, List.map_nil, List.length_cons, List.length_nil, List.cons_append, List.nil_append, List.replicate, List.getElem?_cons_zero, List.getElem?_cons_succ, List.set_cons_zero, List.set_cons_succ, wipeD, decide_true, decide_false,
  Option.some.injEq, true_and, and_true, if_true, ite_true, if_false, Bool.false_eq_true, reduceIte, ite_false, Bool.not_true, Bool.not_false, Nat.reduceAdd, Nat.reduceSub, Nat.zero_add, Nat.reduceEqDiff])
theorem range_at {n i : Nat} {d : D} (hd : ((List.range n).map fun (i : Nat) => D.int (0 + (i : Int)))[i]? = some d) : i < n ∧ d = .int (i : Int) := by
  have hi : i < n := by
    have := (List.getElem?_eq_some_iff.mp hd).1
    simpa using this
  refine ⟨hi, ?_⟩
  rw [List.getElem?_map, List.getElem?_range hi] at hd
  cases hd
  show D.int (0 + (i : Int)) = _
  rw [Int.zero_add]
theorem cnt_ok {ns : List Int} {n0 : Int} (h0 : 0 ≤ n0) : ∃ n : Nat, n ≤ (if n0 > 1 then n0.toNat else 1) ∧ maxD [.int 1, .int (if (ns.length : Int) < n0 then (ns.length : Int) else n0)] = some (.int n) := by
  refine ⟨(if (if (ns.length : Int) < n0 then (ns.length : Int) else n0) > 1 then (if (ns.length : Int) < n0 then (ns.length : Int) else n0) else 1).toNat, ?_, ?_⟩
  · repeat' split
    all_goals omega
  · rw [Int.toNat_of_nonneg (by split <;> split <;> omega)]
    rfl
theorem vg_wp {F : FD} {ds : List D} {d : D} (h : VG F ds d) : ∃ g : Sto → Sto, ∀ s Q X, wp (F ds s) Q X = Q d (s ++ g s) := by
  obtain ⟨g, h⟩ := h
  exact ⟨g, fun s Q X => by rw [h s]; rfl⟩
theorem joinL_len (s : Wd) : ∀ xs : List Wd, (TL.joinL s xs).length ≤ (xs.map (·.length)).sum + xs.length * s.length
  | [] => by simp [TL.joinL]
  | [x] => by simp [TL.joinL]
  | x :: y :: r => by
    have h := joinL_len s (y :: r)
    show (x ++ (s ++ TL.joinL s (y :: r))).length ≤ _
    simp only [List.length_append, List.map_cons, List.sum_cons, List.length_cons, Nat.add_mul, Nat.one_mul] at h ⊢
    omega
theorem le_sumN {n : Nat} : ∀ {l : List Nat}, n ∈ l → n ≤ l.sum
  | a :: l, h => by
    rw [List.sum_cons]
    rcases List.mem_cons.mp h with rfl | h
    · omega
    · have := le_sumN h; omega
/-- the asking -/
def askB : SD := (sSeq (sSet 6 (eCall (M__law_query_text 10) (aCons (eVar 3) aNil)))
    (sSeq (sIf (tOrD (tB1 (e2 isNotNonD (eTold errs (eCall M_need_query (aCons (eVar 3) aNil))) (eC .non))) (tB1 (e2 neD (eCall M_written_query (aCons (eVar 3) aNil)) (eVar 6)))) (sRet (eC (.bl false))) sNext)
    (sSeq (sIf (tAndD (tB1 (e2 leD (eNS lenS (aCons (eVar 6) aNil)) (eC (.int 200)))) (tB1 (e2 neD (eTold errs (eCall M_read_query (aCons (eVar 6) aNil))) (eVar 3)))) (sRet (eC (.bl false))) sNext)
    (sSeq (sSet 7 (eMt "str" splitD (eVar 6) (aCons (eC (.str "\"")) aNil)))
    (sSeq (sSet 8 (eMt "str" joinD (eC (.str "\"")) (aCons wideE aNil)))
    (sSeq (sSet 8 (e2 addDT (e2 addDT (eC (.str "  ")) (eVar 8)) (eC (.str " "))))
    (sIf (tAndD (tB1 (e2 leD (eNS lenS (aCons (eVar 8) aNil)) (eC (.int 200)))) (tB1 (e2 neD (eTold errs (eCall M_read_query (aCons (eVar 8) aNil))) (eVar 3)))) (sRet (eC (.bl false))) sNext)))))))
theorem v_ask {q : Qy} (ho : q.ok) (h8 : q.dp ≤ 8) {x0 x1 x2 x4 x5 x6 x7 x8 x9 : Option D} {s : Sto} {QS : Fl → Sto → Prop} {X : XP} (h : ∀ x6 x7 x8 s, QS (.nx [x0, x1, x2, some q.d, x4, x5, x6, x7, x8, x9]) s) :
    wp (askB [x0, x1, x2, some q.d, x4, x5, x6, x7, x8, x9] s) QS X := by
  have hl := tx_len ho (by omega)
  obtain ⟨g1, k1⟩ := vg_wp (v_needq ho h8)
  obtain ⟨g2, k2⟩ := vg_wp (v_written ho h8)
  have k0 := vf_wp (v_qtext q 10 ho (by omega) (by omega))
  have n0 : isNotNonD .non .non = some (.bl false) := rfl
  have n1 : neD (.str (S q.tx)) (.str (S q.tx)) = some (.bl false) := by rw [o_ne, decide_eq_true rfl]; rfl
  have n2 := q_ne ho (by omega)
  have l1 := fun s => lenS_s (l := q.tx) (by omega) s
  have e1 : leD (.int (q.tx.length : Int)) (.int 200) = some (.bl (decide ((q.tx.length : Int) ≤ 200))) := o_leI _ _
  have t0 : isTy "str" (.str (S q.tx)) = true := rfl
  have t1 : isTy "str" (.str "\"") = true := rfl
  have s1 : splitD (.str (S q.tx)) [.str "\""] = some (.lst (sD (TL.spl [34] 0 [] q.tx))) := o_split (c := 34) (by decide) (by omega)
  have hsz : (List.map (fun x : List Nat => List.length x) (TL.spl [34] 0 [] q.tx)).sum + (TL.spl [34] 0 [] q.tx).length = 0 + q.tx.length + 1 := spl_size q.tx []
  have hel : ∀ p ∈ TL.spl [34] 0 [] q.tx, p.length ≤ 2000000 := fun p hp => by
    have := le_sumN (List.mem_map.mpr ⟨p, hp, rfl⟩ : List.length p ∈ List.map (fun x : List Nat => List.length x) (TL.spl [34] 0 [] q.tx))
    omega
  have kw : ∀ (y8 : Option D) s Q X, wp (wideE [x0, x1, x2, some q.d, x4, x5, some (.str (S q.tx)), some (.lst (sD (TL.spl [34] 0 [] q.tx))), y8, x9] s) Q X = Q (.lst (sD (alt false (TL.spl [34] 0 [] q.tx)))) s := fun y8 s Q X => by
    rw [v_wide (by omega) hel s]; rfl
  obtain ⟨a1, a2⟩ : (List.map (fun x : List Nat => List.length x) (alt false (TL.spl [34] 0 [] q.tx))).sum ≤ 3 * (List.map (fun x : List Nat => List.length x) (TL.spl [34] 0 [] q.tx)).sum ∧ (alt false (TL.spl [34] 0 [] q.tx)).length = (TL.spl [34] 0 [] q.tx).length := alt_size (TL.spl [34] 0 [] q.tx) false
  have j1 : joinD (.str "\"") [.lst (sD (alt false (TL.spl [34] 0 [] q.tx)))] = some (.str (S q.wide)) := o_join (sep := [34]) (by
    show (List.map (fun x : List Nat => List.length x) (alt false (TL.spl [34] 0 [] q.tx))).sum + (alt false (TL.spl [34] 0 [] q.tx)).length * 1 ≤ _
    omega)
  have hwl : q.wide.length ≤ 10000000 := by
    have : (TL.joinL [34] (alt false (TL.spl [34] 0 [] q.tx))).length ≤ (List.map (fun x : List Nat => List.length x) (alt false (TL.spl [34] 0 [] q.tx))).sum + (alt false (TL.spl [34] 0 [] q.tx)).length * 1 := joinL_len [34] (alt false (TL.spl [34] 0 [] q.tx))
    show (TL.joinL [34] (alt false (TL.spl [34] 0 [] q.tx))).length ≤ _
    omega
  have c1 : addDT (.str "  ") (.str (S q.wide)) = some (.str (S ([32, 32] ++ q.wide))) := o_cat (a := [32, 32]) (by simp; omega)
  have c2 : addDT (.str (S ([32, 32] ++ q.wide))) (.str " ") = some (.str (S (([32, 32] ++ q.wide) ++ [32]))) := o_cat (b := [32]) (by simp; omega)
  have l2 := fun s => lenS_s (l := ([32, 32] ++ q.wide) ++ [32]) (by simp; omega) s
  generalize hW : ([32, 32] ++ q.wide) ++ [32] = W at c2 l2
  generalize hV : ([32, 32] ++ q.wide) = V at c1 c2 hW
  have e2 : leD (.int (W.length : Int)) (.int 200) = some (.bl (decide ((W.length : Int) ≤ 200))) := o_leI _ _
  by_cases hA : (q.tx.length : Int) ≤ 200
  · obtain ⟨g3, k3⟩ := vg_wp (read_due ho h8 (by omega))
    by_cases hB : (W.length : Int) ≤ 200
    · obtain ⟨g4, k4⟩ := vg_wp (read_wide ho h8 (by rw [hV, hW]; omega))
      rw [hV, hW] at k4
      rw [decide_eq_true hA] at e1
      rw [decide_eq_true hB] at e2
      clear hA hB hW hV hwl a1 a2 hel hsz hl ho h8
      unfold askB
      walk_at "wp"
    · rw [decide_eq_true hA] at e1
      rw [decide_eq_false hB] at e2
      clear hA hB hW hV hwl a1 a2 hel hsz hl ho h8
      unfold askB
      walk_at "wp"
  · rw [decide_eq_false hA] at e1
    by_cases hB : (W.length : Int) ≤ 200
    · obtain ⟨g4, k4⟩ := vg_wp (read_wide ho h8 (by rw [hV, hW]; omega))
      rw [hV, hW] at k4
      rw [decide_eq_true hB] at e2
      clear hA hB hW hV hwl a1 a2 hel hsz hl ho h8
      unfold askB
      walk_at "wp"
    · rw [decide_eq_false hB] at e2
      clear hA hB hW hV hwl a1 a2 hel hsz hl ho h8
      unfold askB
      walk_at "wp"
end K50

set_option Elab.async false
set_option linter.all false
set_option maxRecDepth 100000
set_option maxHeartbeats 400000
namespace K50
open PySem Mir SX
local macro_rules | `(tactic| walk_at "wp") => `(tactic| simp -dsimp (disch := first | omega | (simp only [List.length_cons, List.length_nil, List.length_append, List.length_map]; omega)) only [*, ↓wp_eAnd, ↓wp_eOr, ↓wp_ch, ↓wp_c, ↓wp_var, ↓wp_e1, ↓wp_e2, ↓wp_eN, ↓wp_cons, ↓wp_nil, ↓wp_call, ↓wp_mt, ↓wp_sl, ↓wp_oNone, ↓wp_oSome, ↓wp_tB1, ↓wp_tNot, ↓wp_tAnd, ↓wp_tOr, ↓wp_eIf, ↓wp_told, ↓wp_next, ↓wp_raise, ↓wp_seq, ↓wp_expr, ↓wp_set, ↓wp_setO, ↓wp_setI, ↓wp_retS, ↓wp_retN, ↓wp_break, ↓wp_cont, ↓wp_if, ↓wp_app, ↓wp_asg, ↓wp_fn, ↓wp_for, ↓wp_iLst, ↓wp_iTpl, ↓wp_iN, ↓wp_iStr, ↓wp_tYes, ↓wp_ret,
  ↓wp_fld, ↓wp_fldSet, ↓wp_meth, ↓wp_new, ↓wp_sto, ↓wp_disp, ↓wp_e2S, ↓wp_eNS, ↓wp_setS, onN_non,
  onO_some, onB_bl, onI_int, onL_lst, onT_tup, onS_str, onE_go, onC_t,
  List.map_cons, List.map_nil, List.length_cons, List.length_nil, List.cons_append, List.nil_append, List.replicate, List.getElem?_cons_zero, List.getElem?_cons_succ, List.set_cons_zero, List.set_cons_succ, wipeD, decide_true, decide_false,
  Option.some.injEq, true_and, and_true, if_true, ite_true, if_false, Bool.false_eq_true, reduceIte, ite_false, Bool.not_true, Bool.not_false, Nat.reduceAdd, Nat.reduceSub, Nat.zero_add, Nat.reduceEqDiff])
def MQ : FD := M__law_query 10
def qE : ED := (eCall MQ (aCons (eCall M__law_drawn (aCons (eVar 2) (aCons (eC (.int 1)) aNil))) (aCons (e2 addDT (eC (.int 1)) (e2 modI (eVar 2) (eC (.int 4)))) (aCons (eC (.bl false)) aNil))))
def sE : ED := eCall M__law_signed (aCons qE (aCons (e2 fdivI (eVar 2) (eC (.int 64))) aNil))
def lawB : SD := (sSeq (sSet 2 (eCall M__law_drawn (aCons (eCall M__law_cell (aCons (eVar 0) (aCons (eVar 1) aNil))) (aCons (eVar 1) aNil))))
    (sSeq (sSet 3 sE)
    (sSeq (sIf (tB1 (e2 eqD (e2 modI (e2 fdivI (eVar 2) (eC (.int 8))) (eC (.int 5))) (eC (.int 0)))) (sSeq (sSet 3 (eN mkT (aCons (eC (.str "body")) (aCons (eC (.str "x")) aNil))))
    (sFor (iN range1D (aCons (e2 modI (e2 fdivI (eVar 2) (eC (.int 64))) (eC (.int 8))) aNil)) (gNm 4) towB)) sNext) askB)))
theorem b_lawE : b_law = sSeq (sFor (iN range1D (aCons (eN maxD (aCons (eC (.int 1)) (aCons (eN minD (aCons (eC (.int 4)) (aCons (eNS lenS (aCons (eVar 0) aNil)) aNil))) aNil))) aNil)) (gNm 1) lawB) (sRet (eC (.bl true))) := rfl
theorem law_true (ns : List Int) (hl : ns.length ≤ 63) (hb : ∀ z ∈ ns, Builtin.Int.intBits z ≤ 1048576) : ∃ s', M_law [.scr ns] [] = .ok (.bl true) s' := by
  have key : wp (M_law [.scr ns] []) (fun d s => d = .bl true) (fun _ _ => False) := by
    obtain ⟨n, hn, en⟩ := cnt_ok (ns := ns) (n0 := 4) (by decide)
    have hn : n ≤ 4 := hn
    have lc : ∀ s, lenS s [.scr ns] = some (.int ns.length) := fun s => rfl
    have em : minD [.int 4, .int ns.length] = some (.int (if (ns.length : Int) < 4 then (ns.length : Int) else 4)) := rfl
    have er := range_small (n := (n : Int)) (by omega) (by omega)
    rw [Int.toNat_natCast] at er
    unfold M_law
    rw [b_lawE]
    walk_at "wp"
    refine wp_forGo _ (fun i τ s => ∃ x1 x2 x3 x4 x5 x6 x7 x8 x9, τ = [some (.scr ns), x1, x2, x3, x4, x5, x6, x7, x8, x9]) _ _ ⟨_, _, _, _, _, _, _, _, _, rfl⟩ ?_ ?_
    · rintro i d τ s hd ⟨x1, x2, x3, x4, x5, x6, x7, x8, x9, rfl⟩
      obtain ⟨hi, rfl⟩ := range_at hd
      refine ⟨_, rfl, ?_⟩
      obtain ⟨c, hc⟩ := v_cell ns (i : Int) (by omega) (by omega) hl
      have kc := vf_wp hc
      have kd := vf_wp (v_drawn c i (by omega) (by omega))
      generalize drawn c (i : Int) = more at kd
      have kd1 := vf_wp (v_drawn more 1 (by omega) (by omega))
      have y1 : modI (.int more) (.int 4) = some (.int (more % 4)) := o_mod (by decide)
      have hm := md (i := more) (j := 4) (by decide)
      obtain ⟨dp, hdp, edp⟩ : ∃ dp : Nat, dp ≤ 4 ∧ addDT (.int 1) (.int (more % 4)) = some (.int (dp : Nat)) := ⟨(1 + more % 4).toNat, by omega, by rw [Int.toNat_of_nonneg (by omega)]; exact o_addI 1 (more % 4)⟩
      generalize drawn more 1 = m1 at kd1
      obtain ⟨q0, o0, d0, k0⟩ := v_query 10 dp m1 (by omega)
      have y2 : fdivI (.int more) (.int 64) = some (.int (more / 64)) := o_div (by decide +kernel)
      obtain ⟨q1, o1, d1, k1⟩ := v_signed o0 (more / 64)
      have k0 := vf_wp (F := MQ) k0
      have k1 := vf_wp k1
      have kq : ∀ s Q X, wp (qE [some (.scr ns), some (.int (i : Int)), some (.int more), x3, x4, x5, x6, x7, x8, x9] s) Q X = Q q0.d s := fun s Q X => by
        clear en lc em er hd hb hc hm hdp d0 d1 o0 hl hi hn
        unfold qE
        walk_at "wp"
      have ks : ∀ s Q X, wp (sE [some (.scr ns), some (.int (i : Int)), some (.int more), x3, x4, x5, x6, x7, x8, x9] s) Q X = Q q1.d s := fun s Q X => by
        clear en lc em er hd hb hc hm hdp d0 d1 o0 hl hi hn k0 kd kd1
        unfold sE
        walk_at "wp"
      clear k0 k1 kd1 kq y1 edp
      have y3 : fdivI (.int more) (.int 8) = some (.int (more / 8)) := o_div (by decide +kernel)
      have y4 : modI (.int (more / 8)) (.int 5) = some (.int (more / 8 % 5)) := o_mod (by decide)
      have y6 : eqD (.int (more / 8 % 5)) (.int 0) = some (.bl (decide (more / 8 % 5 = 0))) := o_eqI _ _
      have y7 : modI (.int (more / 64)) (.int 8) = some (.int (more / 64 % 8)) := o_mod (by decide)
      have h8 := md (i := more / 64) (j := 8) (by decide)
      have er8 := range_small (n := more / 64 % 8) h8.1 (by omega)
      have f3 := @mkT2
      have hq1 : q1.dp ≤ 8 := by omega
      by_cases hT : more / 8 % 5 = 0
      · rw [decide_eq_true hT] at y6
        clear hT en lc em er hd hb hc hm hdp d0 d1 o0 hl hi hn
        unfold lawB
        walk_at "wp"
        have eb : (D.tup [.str "body", .str "x"]) = (Qy.leaf (.body [120])).d := by kernel_rfl
        rw [eb]
        refine wp_forGo _ (fun j τ s => ∃ (q : Qy) (x4 x5 : Option D), q.ok ∧ q.dp ≤ j + 1 ∧ τ = [some (.scr ns), some (.int (i : Int)), some (.int more), some q.d, x4, x5, x6, x7, x8, x9]) _ _ ⟨.leaf (.body [120]), x4, x5, ⟨by decide, by decide⟩, Nat.le_refl _, rfl⟩ ?_ ?_
        · rintro j d τ s hd ⟨q, x4, x5, ho, hp, rfl⟩
          obtain ⟨hj, rfl⟩ := range_at hd
          refine ⟨_, rfl, ?_⟩
          obtain ⟨q', o', d', y, k'⟩ := tow_step ho more j (by omega) (x0 := some (.scr ns)) (x1 := some (.int (i : Int))) (x5 := x5) (x6 := x6) (x7 := x7) (x8 := x8) (x9 := x9)
          exact (k' s _ _).mpr ⟨q', _, _, o', by omega, rfl⟩
        · rintro τ s ⟨q, x4, x5, ho, hp, rfl⟩
          have hq : q.dp ≤ 8 := by simp at hp; omega
          exact v_ask ho hq fun x6 x7 x8 s => ⟨_, _, _, _, _, _, _, _, _, rfl⟩
      · rw [decide_eq_false hT] at y6
        clear hT en lc em er hd hb hc hm hdp d0 d1 o0 hl hi hn
        unfold lawB
        walk_at "wp"
        exact v_ask o1 hq1 fun x6 x7 x8 s => ⟨_, _, _, _, _, _, _, _, _, rfl⟩
    · rintro τ s ⟨x1, x2, x3, x4, x5, x6, x7, x8, x9, rfl⟩
      walk_at "wp"
  cases e : M_law [.scr ns] [] with
  | ok d s => rw [e] at key; exact ⟨s, by rw [show d = .bl true from key]⟩
  | exc c s => rw [e] at key; exact key.elim
  | no => rw [e] at key; exact key.elim
end K50

namespace K50
open PySem PySem.Spec PyProof.Rows L2 Mir
def fa0 : List He.Fa := [.glo "_law_drawn", .glo "_law_signs", .free "range", .free "len", .glo "_law_signed", .free "str", .glo "_law_query_text", .glo "_law_cell", .glo "_law_query", .glo "BadMarks", .free "isinstance", .glo "BadBox", .glo "BadSet", .glo "BadLetter", .glo "BadQuery", .glo "Gone"]
def fa1 : List He.Fa := [.glo "BadPlace", .glo "BadNumber", .glo "BadText", .free "ValueError", .free "int", .free "sum", .glo "_law_word", .glo "_law_told", .glo "ShelfError", .exm "BadLetter" "ShelfError" true, .exm "BadSet" "ShelfError" true, .exm "BadBox" "ShelfError" true, .exm "BadMarks" "ShelfError" true, .exm "BadNumber" "ShelfError" true, .exm "BadPlace" "ShelfError" true, .exm "Gone" "ShelfError" true]
def fa2 : List He.Fa := [.exm "BadQuery" "ShelfError" true, .exm "BadText" "ShelfError" true, .exc "BadQuery", .glo "need_queries", .str "SMALL" "abcdefghijklmnopqrstuvwxyz", .free "all", .glo "is_word", .free "ord", .int "BARRED" 37, .glo "are_signs", .int "MOST_TEXT" 20, .glo "is_text", .exc "BadSet", .glo "need_sets", .str "FIGURES" "0123456789", .int "MOST_FIGURES" 4]
def fa3 : List He.Fa := [.glo "number_of", .free "max", .free "min", .glo "ends_of", .free "sorted", .glo "set_of", .exm "BadSet" "BadSet" true, .glo "is_set", .int "MOST_NUMBER" 9999, .free "bool", .glo "is_step", .glo "LENGTHS", .free "tuple", .int "MOST_WITHIN" 8, .int "MOST_MARK" 10, .int "MOST_NAME" 12]
def fa4 : List He.Fa := [.glo "need_deep", .glo "need_query", .glo "words_of", .glo "written_query", .cls "Pieces", .noat "Pieces" "reached", .noat "Pieces" "pieces", .meth "Pieces" "take", .meth "Pieces" "quoted", .meth "Pieces" "counted", .meth "Pieces" "query", .glo "Pieces", .mkr "Pieces", .int "MOST_SIGNS" 200, .glo "pieces_of", .glo "read_query"]
def fa5 : List He.Fa := [.free "enumerate", .glo "law"]
def fa : List He.Fa := fa0 ++ fa1 ++ fa2 ++ fa3 ++ fa4 ++ fa5
def fn : List He.DefD := [⟨("_law_drawn", none), "_law_drawn", "_law_drawn", defArgs (topS 46), defBody (topS 46), defScope (topS 46), [], []⟩,
  ⟨("_law_signs", none), "_law_signs", "_law_signs", defArgs (topS 49), defBody (topS 49), defScope (topS 49), [], []⟩,
  ⟨("_law_signed", none), "_law_signed", "_law_signed", defArgs (topS 52), defBody (topS 52), defScope (topS 52), [], []⟩,
  ⟨("_law_query_text", none), "_law_query_text", "_law_query_text", defArgs (topS 51), defBody (topS 51), defScope (topS 51), [], []⟩,
  ⟨("_law_cell", none), "_law_cell", "_law_cell", defArgs (topS 45), defBody (topS 45), defScope (topS 45), [], []⟩,
  ⟨("_law_query", none), "_law_query", "_law_query", defArgs (topS 50), defBody (topS 50), defScope (topS 50), [], []⟩,
  ⟨("_law_word", none), "_law_word", "_law_word", defArgs (topS 47), defBody (topS 47), defScope (topS 47), [], []⟩,
  ⟨("_law_told", none), "_law_told", "_law_told", defArgs (topS 48), defBody (topS 48), defScope (topS 48), [], []⟩,
  ⟨("need_queries", none), "need", "need", defArgs (topS 32), defBody (topS 32), defScope (topS 32), [], []⟩,
  ⟨("is_word", none), "is_word", "is_word", defArgs (topS 16), defBody (topS 16), defScope (topS 16), [], []⟩,
  ⟨("are_signs", none), "are_signs", "are_signs", defArgs (topS 15), defBody (topS 15), defScope (topS 15), [], []⟩,
  ⟨("is_text", none), "is_text", "is_text", defArgs (topS 34), defBody (topS 34), defScope (topS 34), [], []⟩,
  ⟨("need_sets", none), "need", "need", defArgs (topS 21), defBody (topS 21), defScope (topS 21), [], []⟩,
  ⟨("number_of", none), "number_of", "number_of", defArgs (topS 23), defBody (topS 23), defScope (topS 23), [], []⟩,
  ⟨("ends_of", none), "ends_of", "ends_of", defArgs (topS 24), defBody (topS 24), defScope (topS 24), [], []⟩,
  ⟨("set_of", none), "set_of", "set_of", defArgs (topS 25), defBody (topS 25), defScope (topS 25), [], []⟩,
  ⟨("is_set", none), "is_set", "is_set", defArgs (topS 35), defBody (topS 35), defScope (topS 35), [], []⟩,
  ⟨("is_step", none), "is_step", "is_step", defArgs (topS 36), defBody (topS 36), defScope (topS 36), [], []⟩,
  ⟨("need_deep", none), "need_deep", "need_deep", defArgs (topS 37), defBody (topS 37), defScope (topS 37), [], []⟩,
  ⟨("need_query", none), "need_query", "need_query", defArgs (topS 38), defBody (topS 38), defScope (topS 38), [], []⟩,
  ⟨("words_of", none), "words_of", "words_of", defArgs (topS 39), defBody (topS 39), defScope (topS 39), [], []⟩,
  ⟨("written_query", none), "written_query", "written_query", defArgs (topS 40), defBody (topS 40), defScope (topS 40), [], []⟩,
  ⟨("Pieces", some "take"), "take", "Pieces.take", defArgs (inClass (topS 42) 1), defBody (inClass (topS 42) 1), defScope (inClass (topS 42) 1), [], []⟩,
  ⟨("Pieces", some "quoted"), "quoted", "Pieces.quoted", defArgs (inClass (topS 42) 2), defBody (inClass (topS 42) 2), defScope (inClass (topS 42) 2), [], []⟩,
  ⟨("Pieces", some "counted"), "counted", "Pieces.counted", defArgs (inClass (topS 42) 3), defBody (inClass (topS 42) 3), defScope (inClass (topS 42) 3), [], []⟩,
  ⟨("Pieces", some "query"), "query", "Pieces.query", defArgs (inClass (topS 42) 4), defBody (inClass (topS 42) 4), defScope (inClass (topS 42) 4), [], []⟩,
  ⟨("Pieces", some "__init__"), "__init__", "Pieces.__init__", defArgs (inClass (topS 42) 0), defBody (inClass (topS 42) 0), defScope (inClass (topS 42) 0), [], []⟩,
  ⟨("pieces_of", none), "pieces_of", "pieces_of", defArgs (topS 41), defBody (topS 41), defScope (topS 41), [], []⟩,
  ⟨("read_query", none), "read_query", "read_query", defArgs (topS 43), defBody (topS 43), defScope (topS 43), [], []⟩,
  ⟨("law", none), "law", "law", defArgs (topS 53), defBody (topS 53), defScope (topS 53), [], []⟩]
def tf : List He.Defn := [("law", none)]
def tsT : List He.Tab := [((fun K => He.ga K "LENGTHS"), tb_LENGTHS.map (·.1))]
def exB (K : PySem.W.Frag) : Bool := wordB errs K && (tabB "LENGTHS" tb_LENGTHS K && true)
def nm0 : List PySem.Str := ["__name__", "ShelfError", "BadLetter", "BadSet", "BadBox", "BadMarks", "BadNumber", "BadPlace", "Gone", "BadQuery", "BadText", "MOST_NAME", "SMALL", "BARRED", "are_signs", "is_word"]
def nm1 : List PySem.Str := ["MOST_NUMBER", "MOST_FIGURES", "FIGURES", "need", "need_sets", "number_of", "ends_of", "set_of", "MOST_MARK", "MOST_TEXT", "MOST_WITHIN", "MOST_SIGNS", "LENGTHS", "need_queries", "is_text", "is_set"]
def nm2 : List PySem.Str := ["is_step", "need_deep", "need_query", "words_of", "written_query", "pieces_of", "Pieces", "read_query", "_law_cell", "_law_drawn", "_law_word", "_law_told", "_law_signs", "_law_query", "_law_query_text", "_law_signed"]
abbrev nms : List PySem.Str := nm0 ++ nm1 ++ nm2
abbrev Rw : PySem.W.OpenRow := PySem.W.OpenLaw.row PySem.Challenge.rw_lettershelf_k50_queries_written_and_read
abbrev hk : PySem.W.Hook := He.hookX 5 fa fn tsT tf exB
def ob (s : PySem.W.SharedT) : He.AlX := He.obsX 5 fa fn tsT tf exB (HandSHeadRun.getT s)
theorem ob_eq (s : PySem.W.SharedT) : ob s = hk.obs s.abs := He.obsX_eq (HandSHeadRun.getT_eq s)
/-- the world with its answer to one row set -/
def wset (w : World) (b : Bool) : World := { w with params := { w.params with followText := fun r => if r = "special-get-raises" then b else w.params.followText r } }
theorem wset_eq (w : World) : wset w (w.params.followText "special-get-raises") = w := by
  obtain ⟨dr, pa⟩ := w
  unfold wset
  have e : (fun r => if r = "special-get-raises" then pa.followText "special-get-raises" else pa.followText r) = pa.followText := by
    funext r
    by_cases h : r = "special-get-raises"
    · rw [if_pos h, h]
    · rw [if_neg h]
  show World.mk dr { pa with followText := fun r => if r = "special-get-raises" then pa.followText "special-get-raises" else pa.followText r } = _
  rw [e]
theorem run1 (w : World) : HandSHeadRun.RunEq Rw (PySem.W.view Rw.prog [53]) hk ob 20000 nms (wset w true) := by
  intro os
  kernel_rfl
theorem run0 (w : World) : HandSHeadRun.RunEq Rw (PySem.W.view Rw.prog [53]) hk ob 20000 nms (wset w false) := by
  intro os
  kernel_rfl
theorem run (w : World) : HandSHeadRun.RunEq Rw (PySem.W.view Rw.prog [53]) hk ob 20000 nms w := by
  rw [← wset_eq w]
  cases w.params.followText "special-get-raises" with
  | true => exact run1 w
  | false => exact run0 w
theorem facts {w : World} {K : PySem.W.Frag} {h : Heap} {mg : Str → Option Value} (X : K.In h) (G : h.Ns mainGlobals mg) (C : He.SaysX fa fn tsT tf exB w h K) : Fx K w mg := by
  have c : He.SaysD fa fn K := C.t.d
  exact ⟨c.def_ 0 (d := ⟨("_law_drawn", none), "_law_drawn", "_law_drawn", defArgs (topS 46), defBody (topS 46), defScope (topS 46), [], []⟩) rfl,
    He.glo_ok X G (c.facts (f := .glo "_law_drawn") (List.mem_of_getElem? (i := 0) rfl)),
    c.def_ 1 (d := ⟨("_law_signs", none), "_law_signs", "_law_signs", defArgs (topS 49), defBody (topS 49), defScope (topS 49), [], []⟩) rfl,
    He.glo_ok X G (c.facts (f := .glo "_law_signs") (List.mem_of_getElem? (i := 1) rfl)),
    He.free_ok X G (c.facts (f := .free "range") (List.mem_of_getElem? (i := 2) rfl)),
    He.free_ok X G (c.facts (f := .free "len") (List.mem_of_getElem? (i := 3) rfl)),
    c.def_ 2 (d := ⟨("_law_signed", none), "_law_signed", "_law_signed", defArgs (topS 52), defBody (topS 52), defScope (topS 52), [], []⟩) rfl,
    He.glo_ok X G (c.facts (f := .glo "_law_signed") (List.mem_of_getElem? (i := 4) rfl)),
    He.free_ok X G (c.facts (f := .free "str") (List.mem_of_getElem? (i := 5) rfl)),
    c.def_ 3 (d := ⟨("_law_query_text", none), "_law_query_text", "_law_query_text", defArgs (topS 51), defBody (topS 51), defScope (topS 51), [], []⟩) rfl,
    He.glo_ok X G (c.facts (f := .glo "_law_query_text") (List.mem_of_getElem? (i := 6) rfl)),
    c.def_ 4 (d := ⟨("_law_cell", none), "_law_cell", "_law_cell", defArgs (topS 45), defBody (topS 45), defScope (topS 45), [], []⟩) rfl,
    He.glo_ok X G (c.facts (f := .glo "_law_cell") (List.mem_of_getElem? (i := 7) rfl)),
    c.def_ 5 (d := ⟨("_law_query", none), "_law_query", "_law_query", defArgs (topS 50), defBody (topS 50), defScope (topS 50), [], []⟩) rfl,
    He.glo_ok X G (c.facts (f := .glo "_law_query") (List.mem_of_getElem? (i := 8) rfl)),
    He.glo_ok X G (c.facts (f := .glo "BadMarks") (List.mem_of_getElem? (i := 9) rfl)),
    He.free_ok X G (c.facts (f := .free "isinstance") (List.mem_of_getElem? (i := 10) rfl)),
    He.glo_ok X G (c.facts (f := .glo "BadBox") (List.mem_of_getElem? (i := 11) rfl)),
    He.glo_ok X G (c.facts (f := .glo "BadSet") (List.mem_of_getElem? (i := 12) rfl)),
    He.glo_ok X G (c.facts (f := .glo "BadLetter") (List.mem_of_getElem? (i := 13) rfl)),
    He.glo_ok X G (c.facts (f := .glo "BadQuery") (List.mem_of_getElem? (i := 14) rfl)),
    He.glo_ok X G (c.facts (f := .glo "Gone") (List.mem_of_getElem? (i := 15) rfl)),
    He.glo_ok X G (c.facts (f := .glo "BadPlace") (List.mem_of_getElem? (i := 16) rfl)),
    He.glo_ok X G (c.facts (f := .glo "BadNumber") (List.mem_of_getElem? (i := 17) rfl)),
    He.glo_ok X G (c.facts (f := .glo "BadText") (List.mem_of_getElem? (i := 18) rfl)),
    He.free_ok X G (c.facts (f := .free "ValueError") (List.mem_of_getElem? (i := 19) rfl)),
    He.free_ok X G (c.facts (f := .free "int") (List.mem_of_getElem? (i := 20) rfl)),
    He.free_ok X G (c.facts (f := .free "sum") (List.mem_of_getElem? (i := 21) rfl)),
    He.glo_ok X G (c.facts (f := .glo "_law_word") (List.mem_of_getElem? (i := 22) rfl)),
    c.def_ 6 (d := ⟨("_law_word", none), "_law_word", "_law_word", defArgs (topS 47), defBody (topS 47), defScope (topS 47), [], []⟩) rfl,
    wordB_ok (He.ba C.more).1,
    He.glo_ok X G (c.facts (f := .glo "_law_told") (List.mem_of_getElem? (i := 23) rfl)),
    c.def_ 7 (d := ⟨("_law_told", none), "_law_told", "_law_told", defArgs (topS 48), defBody (topS 48), defScope (topS 48), [], []⟩) rfl,
    He.glo_ok X G (c.facts (f := .glo "ShelfError") (List.mem_of_getElem? (i := 24) rfl)),
    (by
    intro cl hcl
    simp only [errs, List.mem_cons, List.not_mem_nil, or_false] at hcl
    rcases hcl with rfl | rfl | rfl | rfl | rfl | rfl | rfl | rfl | rfl
    · exact He.exm_ok (c.facts (f := .exm "BadLetter" "ShelfError" true) (List.mem_of_getElem? (i := 25) rfl))
    · exact He.exm_ok (c.facts (f := .exm "BadSet" "ShelfError" true) (List.mem_of_getElem? (i := 26) rfl))
    · exact He.exm_ok (c.facts (f := .exm "BadBox" "ShelfError" true) (List.mem_of_getElem? (i := 27) rfl))
    · exact He.exm_ok (c.facts (f := .exm "BadMarks" "ShelfError" true) (List.mem_of_getElem? (i := 28) rfl))
    · exact He.exm_ok (c.facts (f := .exm "BadNumber" "ShelfError" true) (List.mem_of_getElem? (i := 29) rfl))
    · exact He.exm_ok (c.facts (f := .exm "BadPlace" "ShelfError" true) (List.mem_of_getElem? (i := 30) rfl))
    · exact He.exm_ok (c.facts (f := .exm "Gone" "ShelfError" true) (List.mem_of_getElem? (i := 31) rfl))
    · exact He.exm_ok (c.facts (f := .exm "BadQuery" "ShelfError" true) (List.mem_of_getElem? (i := 32) rfl))
    · exact He.exm_ok (c.facts (f := .exm "BadText" "ShelfError" true) (List.mem_of_getElem? (i := 33) rfl))),
    excF_ok X G (c.facts (f := .glo "BadQuery") (List.mem_of_getElem? (i := 14) rfl)) (c.facts (f := .exc "BadQuery") (List.mem_of_getElem? (i := 34) rfl)),
    c.def_ 8 (d := ⟨("need_queries", none), "need", "need", defArgs (topS 32), defBody (topS 32), defScope (topS 32), [], []⟩) rfl,
    He.glo_ok X G (c.facts (f := .glo "need_queries") (List.mem_of_getElem? (i := 35) rfl)),
    He.str_ok X G (c.facts (f := .str "SMALL" "abcdefghijklmnopqrstuvwxyz") (List.mem_of_getElem? (i := 36) rfl)),
    He.free_ok X G (c.facts (f := .free "all") (List.mem_of_getElem? (i := 37) rfl)),
    c.def_ 9 (d := ⟨("is_word", none), "is_word", "is_word", defArgs (topS 16), defBody (topS 16), defScope (topS 16), [], []⟩) rfl,
    He.glo_ok X G (c.facts (f := .glo "is_word") (List.mem_of_getElem? (i := 38) rfl)),
    He.free_ok X G (c.facts (f := .free "ord") (List.mem_of_getElem? (i := 39) rfl)),
    He.int_ok X G (c.facts (f := .int "BARRED" 37) (List.mem_of_getElem? (i := 40) rfl)),
    c.def_ 10 (d := ⟨("are_signs", none), "are_signs", "are_signs", defArgs (topS 15), defBody (topS 15), defScope (topS 15), [], []⟩) rfl,
    He.glo_ok X G (c.facts (f := .glo "are_signs") (List.mem_of_getElem? (i := 41) rfl)),
    He.int_ok X G (c.facts (f := .int "MOST_TEXT" 20) (List.mem_of_getElem? (i := 42) rfl)),
    c.def_ 11 (d := ⟨("is_text", none), "is_text", "is_text", defArgs (topS 34), defBody (topS 34), defScope (topS 34), [], []⟩) rfl,
    He.glo_ok X G (c.facts (f := .glo "is_text") (List.mem_of_getElem? (i := 43) rfl)),
    excF_ok X G (c.facts (f := .glo "BadSet") (List.mem_of_getElem? (i := 12) rfl)) (c.facts (f := .exc "BadSet") (List.mem_of_getElem? (i := 44) rfl)),
    c.def_ 12 (d := ⟨("need_sets", none), "need", "need", defArgs (topS 21), defBody (topS 21), defScope (topS 21), [], []⟩) rfl,
    He.glo_ok X G (c.facts (f := .glo "need_sets") (List.mem_of_getElem? (i := 45) rfl)),
    He.str_ok X G (c.facts (f := .str "FIGURES" "0123456789") (List.mem_of_getElem? (i := 46) rfl)),
    He.int_ok X G (c.facts (f := .int "MOST_FIGURES" 4) (List.mem_of_getElem? (i := 47) rfl)),
    c.def_ 13 (d := ⟨("number_of", none), "number_of", "number_of", defArgs (topS 23), defBody (topS 23), defScope (topS 23), [], []⟩) rfl,
    He.glo_ok X G (c.facts (f := .glo "number_of") (List.mem_of_getElem? (i := 48) rfl)),
    He.free_ok X G (c.facts (f := .free "max") (List.mem_of_getElem? (i := 49) rfl)),
    He.free_ok X G (c.facts (f := .free "min") (List.mem_of_getElem? (i := 50) rfl)),
    c.def_ 14 (d := ⟨("ends_of", none), "ends_of", "ends_of", defArgs (topS 24), defBody (topS 24), defScope (topS 24), [], []⟩) rfl,
    He.glo_ok X G (c.facts (f := .glo "ends_of") (List.mem_of_getElem? (i := 51) rfl)),
    He.free_ok X G (c.facts (f := .free "sorted") (List.mem_of_getElem? (i := 52) rfl)),
    c.def_ 15 (d := ⟨("set_of", none), "set_of", "set_of", defArgs (topS 25), defBody (topS 25), defScope (topS 25), [], []⟩) rfl,
    He.glo_ok X G (c.facts (f := .glo "set_of") (List.mem_of_getElem? (i := 53) rfl)),
    He.exm_ok (c.facts (f := .exm "BadSet" "BadSet" true) (List.mem_of_getElem? (i := 54) rfl)),
    c.def_ 16 (d := ⟨("is_set", none), "is_set", "is_set", defArgs (topS 35), defBody (topS 35), defScope (topS 35), [], []⟩) rfl,
    He.glo_ok X G (c.facts (f := .glo "is_set") (List.mem_of_getElem? (i := 55) rfl)),
    He.int_ok X G (c.facts (f := .int "MOST_NUMBER" 9999) (List.mem_of_getElem? (i := 56) rfl)),
    He.free_ok X G (c.facts (f := .free "bool") (List.mem_of_getElem? (i := 57) rfl)),
    c.def_ 17 (d := ⟨("is_step", none), "is_step", "is_step", defArgs (topS 36), defBody (topS 36), defScope (topS 36), [], []⟩) rfl,
    He.glo_ok X G (c.facts (f := .glo "is_step") (List.mem_of_getElem? (i := 58) rfl)),
    tabF_ok X G (c.facts (f := .glo "LENGTHS") (List.mem_of_getElem? (i := 59) rfl)) C.t 0 rfl ((He.ba (He.ba C.more).2).1),
    He.free_ok X G (c.facts (f := .free "tuple") (List.mem_of_getElem? (i := 60) rfl)),
    He.int_ok X G (c.facts (f := .int "MOST_WITHIN" 8) (List.mem_of_getElem? (i := 61) rfl)),
    He.int_ok X G (c.facts (f := .int "MOST_MARK" 10) (List.mem_of_getElem? (i := 62) rfl)),
    He.int_ok X G (c.facts (f := .int "MOST_NAME" 12) (List.mem_of_getElem? (i := 63) rfl)),
    c.def_ 18 (d := ⟨("need_deep", none), "need_deep", "need_deep", defArgs (topS 37), defBody (topS 37), defScope (topS 37), [], []⟩) rfl,
    He.glo_ok X G (c.facts (f := .glo "need_deep") (List.mem_of_getElem? (i := 64) rfl)),
    c.def_ 19 (d := ⟨("need_query", none), "need_query", "need_query", defArgs (topS 38), defBody (topS 38), defScope (topS 38), [], []⟩) rfl,
    He.glo_ok X G (c.facts (f := .glo "need_query") (List.mem_of_getElem? (i := 65) rfl)),
    c.def_ 20 (d := ⟨("words_of", none), "words_of", "words_of", defArgs (topS 39), defBody (topS 39), defScope (topS 39), [], []⟩) rfl,
    He.glo_ok X G (c.facts (f := .glo "words_of") (List.mem_of_getElem? (i := 66) rfl)),
    c.def_ 21 (d := ⟨("written_query", none), "written_query", "written_query", defArgs (topS 40), defBody (topS 40), defScope (topS 40), [], []⟩) rfl,
    He.glo_ok X G (c.facts (f := .glo "written_query") (List.mem_of_getElem? (i := 67) rfl)),
    ⟨(by
    intro cl hcl
    simp only [List.mem_cons, List.not_mem_nil, or_false] at hcl
    rcases hcl with rfl
    · exact He.cls_ok (c.facts (f := .cls "Pieces") (List.mem_of_getElem? (i := 68) rfl))), (by
    intro cl hcl
    simp only [List.mem_cons, List.not_mem_nil, or_false] at hcl
    rcases hcl with rfl
    · exact He.noat_ok (c.facts (f := .noat "Pieces" "reached") (List.mem_of_getElem? (i := 69) rfl)))⟩,
    ⟨(by
    intro cl hcl
    simp only [List.mem_cons, List.not_mem_nil, or_false] at hcl
    rcases hcl with rfl
    · exact He.cls_ok (c.facts (f := .cls "Pieces") (List.mem_of_getElem? (i := 68) rfl))), (by
    intro cl hcl
    simp only [List.mem_cons, List.not_mem_nil, or_false] at hcl
    rcases hcl with rfl
    · exact He.noat_ok (c.facts (f := .noat "Pieces" "pieces") (List.mem_of_getElem? (i := 70) rfl)))⟩,
    c.def_ 22 (d := ⟨("Pieces", some "take"), "take", "Pieces.take", defArgs (inClass (topS 42) 1), defBody (inClass (topS 42) 1), defScope (inClass (topS 42) 1), [], []⟩) rfl,
    He.cls_ok (c.facts (f := .cls "Pieces") (List.mem_of_getElem? (i := 68) rfl)),
    He.meth_ok (c.facts (f := .meth "Pieces" "take") (List.mem_of_getElem? (i := 71) rfl)),
    c.def_ 23 (d := ⟨("Pieces", some "quoted"), "quoted", "Pieces.quoted", defArgs (inClass (topS 42) 2), defBody (inClass (topS 42) 2), defScope (inClass (topS 42) 2), [], []⟩) rfl,
    He.meth_ok (c.facts (f := .meth "Pieces" "quoted") (List.mem_of_getElem? (i := 72) rfl)),
    c.def_ 24 (d := ⟨("Pieces", some "counted"), "counted", "Pieces.counted", defArgs (inClass (topS 42) 3), defBody (inClass (topS 42) 3), defScope (inClass (topS 42) 3), [], []⟩) rfl,
    He.meth_ok (c.facts (f := .meth "Pieces" "counted") (List.mem_of_getElem? (i := 73) rfl)),
    c.def_ 25 (d := ⟨("Pieces", some "query"), "query", "Pieces.query", defArgs (inClass (topS 42) 4), defBody (inClass (topS 42) 4), defScope (inClass (topS 42) 4), [], []⟩) rfl,
    He.meth_ok (c.facts (f := .meth "Pieces" "query") (List.mem_of_getElem? (i := 74) rfl)),
    c.def_ 26 (d := ⟨("Pieces", some "__init__"), "__init__", "Pieces.__init__", defArgs (inClass (topS 42) 0), defBody (inClass (topS 42) 0), defScope (inClass (topS 42) 0), [], []⟩) rfl,
    He.glo_ok X G (c.facts (f := .glo "Pieces") (List.mem_of_getElem? (i := 75) rfl)),
    He.mkr_ok (c.facts (f := .mkr "Pieces") (List.mem_of_getElem? (i := 76) rfl)),
    He.int_ok X G (c.facts (f := .int "MOST_SIGNS" 200) (List.mem_of_getElem? (i := 77) rfl)),
    c.def_ 27 (d := ⟨("pieces_of", none), "pieces_of", "pieces_of", defArgs (topS 41), defBody (topS 41), defScope (topS 41), [], []⟩) rfl,
    He.glo_ok X G (c.facts (f := .glo "pieces_of") (List.mem_of_getElem? (i := 78) rfl)),
    c.def_ 28 (d := ⟨("read_query", none), "read_query", "read_query", defArgs (topS 43), defBody (topS 43), defScope (topS 43), [], []⟩) rfl,
    He.glo_ok X G (c.facts (f := .glo "read_query") (List.mem_of_getElem? (i := 79) rfl)),
    He.free_ok X G (c.facts (f := .free "enumerate") (List.mem_of_getElem? (i := 80) rfl)),
    c.def_ 29 (d := ⟨("law", none), "law", "law", defArgs (topS 53), defBody (topS 53), defScope (topS 53), [], []⟩) rfl,
    He.glo_ok X G (c.facts (f := .glo "law") (List.mem_of_getElem? (i := 81) rfl))⟩
end K50
open PySem PySem.W PySem.Calls PyProof.Rows
theorem PySem.Challenge.cw_lettershelf_k50_queries_written_and_read_holds : PySem.Challenge.rw_lettershelf_k50_queries_written_and_read.Holds := by
  w_on; o_law
  refine HandSHeadRun.head_any (r := OpenLaw.row PySem.Challenge.rw_lettershelf_k50_queries_written_and_read) (q := view (OpenLaw.row PySem.Challenge.rw_lettershelf_k50_queries_written_and_read).prog [53]) (H := K50.hk) (ob := K50.ob) (M := 20000) (loose := K50.nms) (d := HandSHeadRun.topDef (OpenLaw.row PySem.Challenge.rw_lettershelf_k50_queries_written_and_read).prog 53) (kwd := []) K50.ob_eq
    (by kernel_rfl) (fun s => by kernel_rfl) K50.run (by kernel_rfl) (by kernel_rfl) (by kernel_rfl) (by rfl) (by first | assumption | decide +kernel) (by decide +kernel) ⟨rfl, rfl, rfl, rfl, rfl, by decide +kernel⟩ ?hw ?hc
  case hw => w_witness2
  case hc =>
    refine LamX.walk_ofTsE (l := PySem.Challenge.rw_lettershelf_k50_queries_written_and_read) (n := 63) (k := 21) (x := "script") (CX := fun w => L2N.CX (PySem.Challenge.rw_lettershelf_k50_queries_written_and_read).prog w) rfl (by decide) (by kernel_rfl) ⟨rfl, by decide, by decide⟩ ?F (fun w H s e s' z => ?z)
    case z =>
      obtain ⟨_, _, _, _, _, _, _, _, _, _, _, _, z⟩ := z
      exact z
    intro w mg fa h Y G hmg0
    obtain ⟨K, KX, c⟩ := Y
    have hmg : mg ("law" : PySem.Str) = some (.ref fa) := by
      have e : (HandSHeadRun.topDef (OpenLaw.row PySem.Challenge.rw_lettershelf_k50_queries_written_and_read).prog 53).name = ("law" : PySem.Str) := by kernel_rfl
      rw [← e]
      exact hmg0
    have F := K50.facts KX G c
    have ef := hmg.symm.trans F.g_law
    cases ef
    have hmem : (("law", none) : He.Defn) ∈ K50.tf := List.mem_cons_self
    obtain ⟨fd, hfd⟩ := F.f_law
    have b := L2.FunD.bindsA (ps := ["script"]) hfd fun _ _ _ _ _ _ us hl => match us, hl with | [_], _ => rfl
    refine ⟨K, KX, fd, [He.cT K ("law", none)], Mir.spOf K (K50.lawT K) K50.M_law, fun p hp => ?_, fun p hp => ?_, fun p hp => ?_, fun s v => b s [v] rfl, fun H a ns hl hbits hT hS => Mir.law_sp (fun p hp => ?_) hS (K50.law_true ns hl hbits), fun base _ _ hTB => K50.h_law F hfd (hTB _ List.mem_cons_self)⟩
    · rw [List.mem_singleton.mp hp]; exact c.empty _ hmem
    · rw [List.mem_singleton.mp hp]; exact c.out _ hmem
    · rw [List.mem_singleton.mp hp]; exact PySem.W.codeHd_of_K KX (c.hd _ hmem)
    · rw [List.mem_singleton.mp hp]; exact LamX.TabS.nil (hT _ List.mem_cons_self)


