import PyProof.Rows.All
import Wide.All
import OpenK.AllK
import Wide.FinOn
import HandS.ForMost
import HandS.Walk
import HandS.Wide
import HandS.WideBits
import HandS.WideMore
import HandS.TupAny
import HandS.TupMul
import HandS.IsInst
import HandS.Zip
import HandS.Flow
import HandS.Style
import HandS.Conv
import HandS.Defaults
import HandS.HeadHook1
import HandS.HeadHook2
import KE.KTupSum
import HandS.Iter
import HandS.Rev
import HandS.TryOnly
import HandS.Head0
import HandS.Head1
import HandS.Head2
import HandS.HeadEnd
import KE.GoesMore
import KE.GoesEnum
import HandS.TupLe
import HandS.IntHex
import HandS.Strs
import HandS.Deep
import HandS.StrMore
import PySem.Challenge.RW_psaltery_k28_whole_carries_that_wait
set_option Elab.async false
set_option linter.all false
section
set_option maxRecDepth 100000
set_option maxHeartbeats 2000000
/-! The data layer: the program's Python as plain functions over data, over the hand layer. -/
namespace DL
open PySem PySem.Spec PyProof.Rows L2

/-! ### data -/
inductive D where
  | non | bl (b : Bool) | int (i : Int) | str (s : List Nat) | tup (xs : List D) | lst (xs : List D) | obj (k : Nat) | scr (ns : List Int) | fl (k j : Nat)
deriving Inhabited

mutual
/-- no list within -/
def D.flat : D → Bool
  | .tup xs => D.flats xs
  | .lst _ => false
  | .scr _ => false
  | _ => true
def D.flats : List D → Bool
  | [] => true
  | x :: r => D.flat x && D.flats r
end

/-- a local name, a field: nothing, data, a list of its own -/
inductive Slot where
  | no | val (d : D) | own (xs : List D)
deriving Inhabited
abbrev Env := List Slot
structure Cell where
  cls : Nat
  fs : List Slot
abbrev Store := List Cell
structure Exc where
  cls : Nat
  arg : Option D

inductive R (α : Type) where
  | ok (a : α) (S : Store)
  | exc (x : Exc) (S : Store)
  | bad
@[reducible] def R.bind {α β : Type} (r : R α) (f : α → Store → R β) : R β := match r with
  | .ok a S => f a S
  | .exc x S => .exc x S
  | .bad => .bad
inductive Out where
  | nx (G : Env) (S : Store)
  | rt (d : D) (S : Store)
  | bk (G : Env) (S : Store)
  | ct (G : Env) (S : Store)
  | exc (x : Exc) (G : Env) (S : Store)
  | bad
abbrev Ex := Env → Store → R D
abbrev Exs := Env → Store → R (List D)
abbrev St := Env → Store → Out
abbrev Fn := List D → Store → R D

def Slot.look : Slot → Option D
  | .no => none
  | .val d => some d
  | .own xs => some (.lst xs)
def Slot.hide : Slot → Slot
  | .own _ => .no
  | s => s
def Slot.freeze : Slot → Slot
  | .own xs => .val (.lst xs)
  | s => s
def look (G : Env) (i : Nat) : Option D := match G[i]? with
  | some s => s.look
  | none => none
def hide (G : Env) : Env := G.map Slot.hide
def freeze (G : Env) : Env := G.map Slot.freeze

/-! ### what a value says -/
structure Om where
  n : Nat
  ρ : Nat → Addr
  fo : Nat → Nat → Option Addr
  bad : Addr → Prop
def Om.hot (o : Om) (a : Addr) : Prop := (∃ k, k < o.n ∧ a = o.ρ k) ∨ ∃ k j, o.fo k j = some a
/-- the same with more bad ones -/
def Om.plus (o : Om) (B : Addr → Prop) : Om := { o with bad := fun a => o.bad a ∨ B a }

mutual
inductive Rep (K : PySem.W.Frag) (o : Om) (H : Hp) : V → D → Prop
  | non : Rep K o H .non .non
  | bl (b : Bool) : Rep K o H (.bl b) (.bl b)
  | int (i : Int) : Rep K o H (.int i) (.int i)
  | str (s : List Nat) : Rep K o H (.str ⟨s.toArray⟩) (.str s)
  | tup {a : Addr} {vs : List V} {ds : List D} : SqT K H a vs → RepL K o H vs ds → Rep K o H (.ref a) (.tup ds)
  | lst {a : Addr} {vs : List V} {ds : List D} : H a = some (.lst vs) → ¬ o.bad a → RepL K o H vs ds → Rep K o H (.ref a) (.lst ds)
  | scr {a : Addr} {ns : List Int} : SqL K H a (ns.map V.int) → ¬ o.bad a → Rep K o H (.ref a) (.scr ns)
  | obj {k : Nat} : k < o.n → Rep K o H (.ref (o.ρ k)) (.obj k)
  | fl {k j : Nat} {a : Addr} : o.fo k j = some a → Rep K o H (.ref a) (.fl k j)
inductive RepL (K : PySem.W.Frag) (o : Om) (H : Hp) : List V → List D → Prop
  | nil : RepL K o H [] []
  | cons {v : V} {d : D} {vs : List V} {ds : List D} : Rep K o H v d → RepL K o H vs ds → RepL K o H (v :: vs) (d :: ds)
end

section
variable {K : PySem.W.Frag} {o o' : Om} {H H' : Hp} {v : V} {d : D} {vs ws : List V} {ds es : List D}
/-- a list read: tracked or known; the same later -/
structure Mono (K : PySem.W.Frag) (o o' : Om) (H H' : Hp) : Prop where
  t : ∀ a xs, SqT K H a xs → SqT K H' a xs
  l : ∀ a xs, ¬ o.bad a → SqL K H a xs → SqL K H' a xs
  h : ∀ a xs, ¬ o.bad a → H a = some (.lst xs) → H' a = some (.lst xs)
  b : ∀ a xs, SqL K H a xs → ¬ o.bad a → ¬ o'.bad a
  n : o.n ≤ o'.n
  r : ∀ k, k < o.n → o'.ρ k = o.ρ k
  f : ∀ k j l, o.fo k j = some l → o'.fo k j = some l
mutual
theorem Rep.mono (m : Mono K o o' H H') : ∀ {v : V} {d : D}, Rep K o H v d → Rep K o' H' v d
  | _, _, .non => .non
  | _, _, .bl b => .bl b
  | _, _, .int i => .int i
  | _, _, .str s => .str s
  | _, _, .tup h r => .tup (m.t _ _ h) (RepL.mono m r)
  | _, _, .lst h b r => .lst (m.h _ _ b h) (m.b _ _ (SqL.of h) b) (RepL.mono m r)
  | _, _, .scr h b => .scr (m.l _ _ b h) (m.b _ _ h b)
  | _, _, .obj (k := k) h => by
    rw [← m.r k h]
    exact .obj (Nat.lt_of_lt_of_le h m.n)
  | _, _, .fl h => .fl (m.f _ _ _ h)
theorem RepL.mono (m : Mono K o o' H H') : ∀ {vs : List V} {ds : List D}, RepL K o H vs ds → RepL K o' H' vs ds
  | _, _, .nil => .nil
  | _, _, .cons h r => .cons (Rep.mono m h) (RepL.mono m r)
end
/-- fewer bad ones -/
theorem Mono.less {B : Addr → Prop} (h : ∀ a, B a → o.bad a) : Mono K o { o with bad := B } H H :=
  ⟨fun _ _ q => q, fun _ _ _ q => q, fun _ _ _ q => q, fun _ _ _ n q => n (h _ q), Nat.le_refl _, fun _ _ => rfl, fun _ _ _ h => h⟩
theorem Mono.unplus {B : Addr → Prop} : Mono K (o.plus B) o H H :=
  ⟨fun _ _ q => q, fun _ _ _ q => q, fun _ _ _ q => q, fun _ _ _ n q => n (.inl q), Nat.le_refl _, fun _ _ => rfl, fun _ _ _ h => h⟩
mutual
/-- data without lists: whatever is bad -/
theorem Rep.flat {B : Addr → Prop} : ∀ {v : V} {d : D}, Rep K o H v d → d.flat = true → Rep K { o with bad := B } H v d
  | _, _, .non, _ => .non
  | _, _, .bl b, _ => .bl b
  | _, _, .int i, _ => .int i
  | _, _, .str s, _ => .str s
  | _, _, .tup h r, f => .tup h (RepL.flats r f)
  | _, _, .lst h b r, f => by cases f
  | _, _, .scr h b, f => by cases f
  | _, _, .obj h, _ => .obj h
  | _, _, .fl h, _ => .fl h
theorem RepL.flats {B : Addr → Prop} : ∀ {vs : List V} {ds : List D}, RepL K o H vs ds → D.flats ds = true → RepL K { o with bad := B } H vs ds
  | _, _, .nil, _ => .nil
  | _, _, .cons h r, f => by
    have f' : (D.flat _ && D.flats _) = true := f
    rw [Bool.and_eq_true] at f'
    exact .cons (Rep.flat h f'.1) (RepL.flats r f'.2)
end
theorem RepL.length : ∀ {vs : List V} {ds : List D}, RepL K o H vs ds → vs.length = ds.length
  | _, _, .nil => rfl
  | _, _, .cons _ r => congrArg Nat.succ (RepL.length r)
theorem RepL.get : ∀ {vs : List V} {ds : List D} {i : Nat} {d : D}, RepL K o H vs ds → ds[i]? = some d → ∃ v, vs[i]? = some v ∧ Rep K o H v d
  | _, _, _, _, .nil, e => by simp at e
  | _, _, 0, _, .cons h _, e => by simp at e; subst e; exact ⟨_, rfl, h⟩
  | _, _, i + 1, _, .cons _ r, e => by
    obtain ⟨v, h1, h2⟩ := RepL.get (i := i) r (by simpa using e)
    exact ⟨v, by simpa using h1, h2⟩
theorem RepL.getV : ∀ {vs : List V} {ds : List D} {i : Nat} {v : V}, RepL K o H vs ds → vs[i]? = some v → ∃ d, ds[i]? = some d ∧ Rep K o H v d
  | _, _, _, _, .nil, e => by simp at e
  | _, _, 0, _, .cons h _, e => by simp at e; subst e; exact ⟨_, rfl, h⟩
  | _, _, i + 1, _, .cons _ r, e => by
    obtain ⟨v, h1, h2⟩ := RepL.getV (i := i) r (by simpa using e)
    exact ⟨v, by simpa using h1, h2⟩
theorem RepL.append : ∀ {vs ws : List V} {ds es : List D}, RepL K o H vs ds → RepL K o H ws es → RepL K o H (vs ++ ws) (ds ++ es)
  | _, _, _, _, .nil, s => s
  | _, _, _, _, .cons h r, s => .cons h (RepL.append r s)
theorem RepL.take : ∀ {vs : List V} {ds : List D} (n : Nat), RepL K o H vs ds → RepL K o H (vs.take n) (ds.take n)
  | _, _, 0, _ => .nil
  | _, _, _ + 1, .nil => .nil
  | _, _, n + 1, .cons h r => .cons h (RepL.take n r)
theorem RepL.drop : ∀ {vs : List V} {ds : List D} (n : Nat), RepL K o H vs ds → RepL K o H (vs.drop n) (ds.drop n)
  | _, _, 0, r => r
  | _, _, _ + 1, .nil => .nil
  | _, _, n + 1, .cons _ r => RepL.drop n r
theorem RepL.set {v : V} {d : D} (h : Rep K o H v d) : ∀ {vs : List V} {ds : List D} (i : Nat), RepL K o H vs ds → RepL K o H (vs.set i v) (ds.set i d)
  | _, _, _, .nil => .nil
  | _, _, 0, .cons _ r => .cons h r
  | _, _, i + 1, .cons q r => .cons q (RepL.set h i r)
theorem RepL.reverse : ∀ {vs : List V} {ds : List D}, RepL K o H vs ds → RepL K o H vs.reverse ds.reverse
  | _, _, .nil => .nil
  | _, _, .cons h r => by
    rw [List.reverse_cons, List.reverse_cons]
    exact RepL.append (RepL.reverse r) (.cons h .nil)
theorem RepL.ints : ∀ {vs : List V} {ns : List Int}, RepL K o H vs (ns.map D.int) → vs = ns.map V.int
  | vs, [], h => by cases h; rfl
  | vs, n :: ns, h => by
    cases h with
    | cons a b =>
      cases a
      rw [List.map_cons, RepL.ints b]
theorem RepL.of_ints : ∀ (ns : List Int), RepL K o H (ns.map V.int) (ns.map D.int)
  | [] => .nil
  | n :: ns => .cons (.int n) (RepL.of_ints ns)
end

/-! ### the state -/
/-- a class: its object, its fields' names -/
structure CD where
  C : Addr
  fl : List Str
abbrev CT := Nat → Option CD
structure CDok (K : PySem.W.Frag) (c : CD) : Prop where
  cl : Cls K c.C
  no : ∀ f ∈ c.fl, NoAttr K c.C f
  nd : c.fl.Nodup
  sz : c.fl.length ≤ 900

/-- from (o, H) on to (o', H') -/
structure Ext (K : PySem.W.Frag) (o o' : Om) (H H' : Hp) : Prop where
  keep : ∀ a u, H a = some u → ¬ o.hot a → H' a = some u
  there : ∀ a u, H a = some u → ∃ u', H' a = some u'
  n : o.n ≤ o'.n
  r : ∀ k, k < o.n → o'.ρ k = o.ρ k
  badS : ∀ a, o.bad a → o'.bad a
  badN : ∀ a, o'.bad a → o.bad a ∨ (H a = none ∧ K.lookup a = none)
  hotN : ∀ a, o'.hot a → o.hot a ∨ H a = none
  f : ∀ k j l, o.fo k j = some l → o'.fo k j = some l

def SlotRep (K : PySem.W.Frag) (o : Om) (H : Hp) (at_ : Option Addr) (v : Option V) : Slot → Prop
  | .no => v = none ∧ at_ = none
  | .val d => at_ = none ∧ ∃ x, v = some x ∧ Rep K o H x d
  | .own ds => ∃ l vs, at_ = some l ∧ v = some (.ref l) ∧ H l = some (.lst vs) ∧ RepL K o H vs ds

structure CellRep (K : PySem.W.Frag) (ct : CT) (o : Om) (H : Hp) (k : Nat) (c : Cell) : Prop where
  ex : ∃ (cd : CD) (dx : Addr) (vfs : List (Str × V)), ct c.cls = some cd ∧ H (o.ρ k) = some (.ins cd.C dx vfs) ∧ c.fs.length = cd.fl.length ∧ (vfs.map (·.1)).Nodup ∧ (∀ f ∈ vfs.map (·.1), f ∈ cd.fl) ∧
    ∀ j f s, cd.fl[j]? = some f → c.fs[j]? = some s → SlotRep K o H (o.fo k j) (vfs.lookup f) s
structure SRel (K : PySem.W.Frag) (ct : CT) (o : Om) (S : Store) (H : Hp) : Prop where
  n : o.n = S.length
  kf : ∀ b u, H b = some u → K.lookup b = none
  cell : ∀ k c, S[k]? = some c → CellRep K ct o H k c
  inj : ∀ k k', k < o.n → k' < o.n → o.ρ k = o.ρ k' → k = k'
  foI : ∀ k j k' j' l, o.fo k j = some l → o.fo k' j' = some l → k = k' ∧ j = j'
  foS : ∀ k j l, o.fo k j = some l → ∃ c ds, S[k]? = some c ∧ c.fs[j]? = some (.own ds)
  hb : ∀ a, o.hot a → o.bad a
  ba : ∀ a, o.bad a → ∃ u, H a = some u
  cok : ∀ i cd, ct i = some cd → CDok K cd

section
variable {K : PySem.W.Frag} {ct : CT} {o o1 o' : Om} {S : Store} {H H1 H' : Hp} {a : Addr}
theorem SRel.foA (r : SRel K ct o S H) {k j : Nat} {l : Addr} (h : o.fo k j = some l) : ∃ vs, H l = some (.lst vs) := by
  obtain ⟨c, ds, e1, e2⟩ := r.foS k j l h
  obtain ⟨cd, dx, vfs, h1, h2, h3, h4, h5, h6⟩ := (r.cell k c e1).ex
  have hj : j < c.fs.length := (List.getElem?_eq_some_iff.mp e2).1
  obtain ⟨l', vs, q1, q2, q3, q4⟩ := h6 j (cd.fl[j]'(by omega)) _ (by simp) e2
  rw [h] at q1
  cases q1
  exact ⟨vs, q3⟩
theorem SRel.rhoA (r : SRel K ct o S H) {k : Nat} (h : k < o.n) : ∃ C dx vfs, H (o.ρ k) = some (.ins C dx vfs) := by
  have hk : k < S.length := by rw [← r.n]; exact h
  obtain ⟨cd, dx, vfs, h1, h2, _⟩ := (r.cell k S[k] (by simp [hk])).ex
  exact ⟨_, _, _, h2⟩
/-- what is hot is a list or an instance -/
theorem SRel.hotA (r : SRel K ct o S H) (h : o.hot a) : (∃ vs, H a = some (.lst vs)) ∨ ∃ C dx vfs, H a = some (.ins C dx vfs) := by
  rcases h with ⟨k, hk, rfl⟩ | ⟨k, j, e⟩
  · exact .inr (r.rhoA hk)
  · exact .inl (r.foA e)
theorem SRel.hotT (r : SRel K ct o S H) {xs : List V} (h : SqT K H a xs) : ¬ o.hot a := by
  intro z
  rcases h with (h | ⟨ob, h⟩) | ⟨ob, its, n, hk, _⟩
  · rcases r.hotA z with ⟨_, e⟩ | ⟨_, _, _, e⟩ <;> rw [h] at e <;> cases e
  · rcases r.hotA z with ⟨_, e⟩ | ⟨_, _, _, e⟩ <;> rw [h] at e <;> cases e
  · rcases r.hotA z with ⟨_, e⟩ | ⟨_, _, _, e⟩ <;> (rw [r.kf _ _ e] at hk; cases hk)
theorem Ext.refl : Ext K o o H H := ⟨fun _ _ q _ => q, fun _ u q => ⟨u, q⟩, Nat.le_refl _, fun _ _ => rfl, fun _ q => q, fun _ q => .inl q, fun _ q => .inl q, fun _ _ _ h => h⟩
theorem Ext.back (x : Ext K o o1 H H1) (h : H1 a = none) : H a = none := by
  cases e : H a with
  | none => rfl
  | some u =>
    obtain ⟨u', e'⟩ := x.there a u e
    rw [h] at e'; cases e'
theorem Ext.trans (x : Ext K o o1 H H1) (y : Ext K o1 o' H1 H') : Ext K o o' H H' := by
  refine ⟨fun a u h n => ?_, fun a u h => ?_, Nat.le_trans x.n y.n, fun k h => ?_, fun a h => y.badS a (x.badS a h), fun a h => ?_, fun a h => ?_, fun k j l h => y.f k j l (x.f k j l h)⟩
  · refine y.keep a u (x.keep a u h n) fun z => ?_
    rcases x.hotN a z with q | q
    · exact n q
    · rw [h] at q; cases q
  · obtain ⟨u1, h1⟩ := x.there a u h
    exact y.there a u1 h1
  · rw [y.r k (Nat.lt_of_lt_of_le h x.n), x.r k h]
  · rcases y.badN a h with q | ⟨q1, q2⟩
    · exact x.badN a q
    · exact .inr ⟨x.back q1, q2⟩
  · rcases y.hotN a h with q | q
    · exact x.hotN a q
    · exact .inr (x.back q)
/-- what was said is said later -/
theorem Ext.mono (x : Ext K o o' H H') (r : SRel K ct o S H) : Mono K o o' H H' := by
  refine ⟨fun a xs h => ?_, fun a xs nb h => ?_, fun a xs nb h => x.keep _ _ h fun z => nb (r.hb a z), fun a xs h nb z => ?_, x.n, x.r, x.f⟩
  · have nh := r.hotT h
    rcases h with (h | ⟨ob, h⟩) | h
    · exact .inl (.inl (x.keep _ _ h nh))
    · exact .inl (.inr ⟨ob, x.keep _ _ h nh⟩)
    · exact .inr h
  · have nh : ¬ o.hot a := fun z => nb (r.hb a z)
    rcases h with (h | ⟨ob, h⟩) | h
    · exact .inl (.inl (x.keep _ _ h nh))
    · exact .inl (.inr ⟨ob, x.keep _ _ h nh⟩)
    · exact .inr h
  · rcases x.badN a z with q | ⟨q1, q2⟩
    · exact nb q
    · rcases h with (h | ⟨ob, h⟩) | ⟨ob, its, n, hk, _⟩
      · rw [h] at q1; cases q1
      · rw [h] at q1; cases q1
      · rw [q2] at hk; cases hk
theorem Ext.rep (x : Ext K o o' H H') (r : SRel K ct o S H) {v : V} {d : D} (h : Rep K o H v d) : Rep K o' H' v d := h.mono (x.mono r)
theorem Ext.repL (x : Ext K o o' H H') (r : SRel K ct o S H) {vs : List V} {ds : List D} (h : RepL K o H vs ds) : RepL K o' H' vs ds := h.mono (x.mono r)
theorem Ext.grown {p : Addr} {u : HO} (hp : H p = none) : Ext K o o H (upd H p u) := by
  have ne : ∀ {b w}, H b = some w → b ≠ p := fun h z => by rw [z, hp] at h; cases h
  exact ⟨fun a w h _ => by rw [upd_ne (ne h)]; exact h, fun a w h => ⟨w, by rw [upd_ne (ne h)]; exact h⟩, Nat.le_refl _, fun _ _ => rfl, fun _ q => q, fun _ q => .inl q, fun _ q => .inl q, fun _ _ _ h => h⟩
/-- the heap grew by a new untracked-before object that is neither -/
theorem SRel.grown {p : Addr} {u : HO} (r : SRel K ct o S H) (hp : H p = none) (kf : ∀ b w, upd H p u b = some w → K.lookup b = none) : SRel K ct o S (upd H p u) := by
  have ne : ∀ {b w}, H b = some w → b ≠ p := fun h z => by rw [z, hp] at h; cases h
  have x : Mono K o o H (upd H p u) := by
    refine ⟨fun a xs h => ?_, fun a xs _ h => ?_, fun a xs _ h => by rw [upd_ne (ne h)]; exact h, fun _ _ _ n => n, Nat.le_refl _, fun _ _ => rfl, fun _ _ _ h => h⟩
    · rcases h with (h | ⟨ob, h⟩) | h
      · exact .inl (.inl (by rw [upd_ne (ne h)]; exact h))
      · exact .inl (.inr ⟨ob, by rw [upd_ne (ne h)]; exact h⟩)
      · exact .inr h
    · rcases h with (h | ⟨ob, h⟩) | h
      · exact .inl (.inl (by rw [upd_ne (ne h)]; exact h))
      · exact .inl (.inr ⟨ob, by rw [upd_ne (ne h)]; exact h⟩)
      · exact .inr h
  refine ⟨r.n, kf, fun k c e => ?_, r.inj, r.foI, r.foS, r.hb, fun a h => let ⟨w, e⟩ := r.ba a h; ⟨w, by rw [upd_ne (ne e)]; exact e⟩, r.cok⟩
  obtain ⟨cd, dx, vfs, h1, h2, h3, h4, h5, h6⟩ := (r.cell k c e).ex
  refine ⟨cd, dx, vfs, h1, by rw [upd_ne (ne h2)]; exact h2, h3, h4, h5, fun j f s e1 e2 => ?_⟩
  have q := h6 j f s e1 e2
  cases s with
  | no => exact q
  | val d =>
    obtain ⟨q1, x', q2, q3⟩ := q
    exact ⟨q1, x', q2, q3.mono x⟩
  | own ds =>
    obtain ⟨l, vs, q1, q2, q3, q4⟩ := q
    exact ⟨l, vs, q1, q2, by rw [upd_ne (ne q3)]; exact q3, q4.mono x⟩
/-- a field's own list, read -/
def deref (S : Store) : D → D
  | .fl k j => match S[k]? with
    | some c => match c.fs[j]? with
      | some (.own ds) => .lst ds
      | _ => .fl k j
    | none => .fl k j
  | d => d
theorem SRel.fl (r : SRel K ct o S H) {k j : Nat} (h : o.fo k j = some a) : ∃ c ds vs, S[k]? = some c ∧ c.fs[j]? = some (.own ds) ∧ H a = some (.lst vs) ∧ RepL K o H vs ds ∧ deref S (.fl k j) = .lst ds := by
  obtain ⟨c, ds, e1, e2⟩ := r.foS k j a h
  obtain ⟨cd, dx, vfs, h1, h2, h3, h4, h5, h6⟩ := (r.cell k c e1).ex
  have hj : j < c.fs.length := (List.getElem?_eq_some_iff.mp e2).1
  obtain ⟨l', vs, q1, q2, q3, q4⟩ := h6 j (cd.fl[j]'(by omega)) _ (by simp) e2
  rw [h] at q1
  cases q1
  refine ⟨c, ds, vs, e1, e2, q3, q4, ?_⟩
  unfold deref
  dsimp only
  rw [e1]
  dsimp only
  rw [e2]
end
end DL

end
section
set_option maxRecDepth 100000
set_option maxHeartbeats 2000000
/-! The data layer: expressions. -/
namespace DL
open PySem PySem.Spec PyProof.Rows L2

structure ERel (K : PySem.W.Frag) (ct : CT) (o : Om) (G : Env) (S : Store) (σ : L2.St) (H : Hp) : Prop where
  s : SRel K ct o S H
  len : G.length = σ.length
  v : ∀ i d, look G i = some d → ∃ x, σ[i]? = some (some x) ∧ Rep K o H x d
abbrev Wish := Exc → Om → Store → Hp → Prop
def Res {α : Type} (K : PySem.W.Frag) (ct : CT) (W : Wish) (o : Om) (H : Hp) (r : R α) (Q : α → Store → Prop) : Prop := match r with
  | .ok a S => Q a S
  | .exc x S => ∀ o' H', Ext K o o' H H' → SRel K ct o' S H' → W x o' S H'
  | .bad => False
/-- what follows a value -/
def After (K : PySem.W.Frag) (ct : CT) (o : Om) (H : Hp) (Q : VK) (d : D) (S' : Store) : Prop := ∀ o' v H', Ext K o o' H H' → SRel K ct o' S' H' → Rep K o' H' v d → Q v H'
def AfterL (K : PySem.W.Frag) (ct : CT) (o : Om) (H : Hp) (Q : List V → Hp → Prop) (d : List D) (S' : Store) : Prop := ∀ o' v H', Ext K o o' H H' → SRel K ct o' S' H' → RepL K o' H' v d → Q v H'
def AfterB (K : PySem.W.Frag) (ct : CT) (o : Om) (H : Hp) (Q : Bool → Hp → Prop) (b : Bool) (S' : Store) : Prop := ∀ o' H', Ext K o o' H H' → SRel K ct o' S' H' → Q b H'
abbrev Tx := Env → Store → R Bool
def tD (K : PySem.W.Frag) (ct : CT) (W : Wish) (t : Ex) : TE := fun σ H Q => ∃ o G S, ERel K ct o G S σ H ∧ Res K ct W o H (t G S) (After K ct o H Q)
def tDs (K : PySem.W.Frag) (ct : CT) (W : Wish) (t : Exs) : TA := fun σ H Q => ∃ o G S, ERel K ct o G S σ H ∧ Res K ct W o H (t G S) (AfterL K ct o H Q)
def tDb (K : PySem.W.Frag) (ct : CT) (W : Wish) (t : Tx) : TT := fun σ H Q => ∃ o G S, ERel K ct o G S σ H ∧ Res K ct W o H (t G S) (AfterB K ct o H Q)
abbrev PD (X : Cx) (ct : CT) (W : Wish) (e : Expr) (t : Ex) : Prop := PE X e (tD X.K ct W t)
abbrev PDs (X : Cx) (ct : CT) (W : Wish) (es : List Expr) (t : Exs) : Prop := PA X es (tDs X.K ct W t)
abbrev PDb (X : Cx) (ct : CT) (W : Wish) (e : Expr) (t : Tx) : Prop := PT X e (tDb X.K ct W t)

def KF (K : PySem.W.Frag) (H : Hp) : Prop := ∀ b u, H b = some u → K.lookup b = none
section
variable {X : Cx} {ct : CT} {W : Wish} {pins : List (Addr × Obj)} {σ : L2.St} {H H1 H' : Hp} {s : Shared} {o o1 o' : Om} {G : Env} {S S1 : Store} {K : PySem.W.Frag}
theorem kf_of (I : Inv X pins σ H s) : KF X.K H := fun b u h => by
  cases e : X.K.lookup b with
  | none => rfl
  | some ob =>
    have := (I.bs b ob (I.mod.kin b ob e)).2
    rw [h] at this; cases this
theorem ERel.ext (r : ERel K ct o G S σ H) (x : Ext K o o' H H') (q : SRel K ct o' S1 H') : ERel K ct o' G S1 σ H' :=
  ⟨q, r.len, fun i d h => let ⟨v, e, p⟩ := r.v i d h; ⟨v, e, x.rep r.s p⟩⟩
theorem PE.imp {e : Expr} {t t' : TE} (h : PE X e t) (k : ∀ σ H Q, t' σ H Q → t σ H fun v H' => KF X.K H' → Q v H') : PE X e t' :=
  ⟨fun pins s σ H Q I w => wpAny_mono (h.run pins s σ H _ I (k σ H Q w)) (fun _ _ ⟨v, H', I', r, q⟩ => ⟨v, H', I', r, q (kf_of I')⟩) fun _ _ z => z⟩
theorem PT.imp {e : Expr} {t t' : TT} (h : PT X e t) (k : ∀ σ H Q, t' σ H Q → t σ H fun v H' => KF X.K H' → Q v H') : PT X e t' :=
  ⟨fun pins s σ H Q I w => wpAny_mono (h.run pins s σ H _ I (k σ H Q w)) (fun _ _ ⟨H', I', q⟩ => ⟨H', I', q (kf_of I')⟩) fun _ _ z => z⟩
theorem PA.imp {es : List Expr} {t t' : TA} (h : PA X es t) (k : ∀ σ H Q, t' σ H Q → t σ H fun v H' => KF X.K H' → Q v H') : PA X es t' :=
  ⟨fun pos pins s σ H Q I w => wpAny_mono (h.run pos pins s σ H _ I (k σ H Q w)) (fun _ _ ⟨v, H', I', r, q⟩ => ⟨v, H', I', r, q (kf_of I')⟩) fun _ _ z => z⟩

/-- one part, then what is made of its value -/
theorem Res.then {α β : Type} {r : R α} {f : α → Store → R β} {P : α → Store → Prop} {Z : β → Store → Prop} (h : Res K ct W o H (r.bind f) Z) (k : ∀ d S1, Res K ct W o H (f d S1) Z → P d S1) : Res K ct W o H r P := by
  cases e : r with
  | ok d S1 => rw [e] at h; exact k d S1 h
  | exc y S1 => rw [e] at h; exact h
  | bad => rw [e] at h; exact h
theorem Res.later {α : Type} {r : R α} {Z Z' : α → Store → Prop} (h : Res K ct W o H r Z) (x : Ext K o o1 H H1) (k : ∀ a S, Z a S → Z' a S) : Res K ct W o1 H1 r Z' := by
  cases e : r with
  | ok d S1 => rw [e] at h; exact k _ _ h
  | exc y S1 => rw [e] at h; exact fun o2 H2 x2 s2 => h o2 H2 (x.trans x2) s2
  | bad => rw [e] at h; exact h
theorem After.later {Q : VK} {d : D} {S' : Store} (x : Ext K o o1 H H1) (h : After K ct o H Q d S') : After K ct o1 H1 Q d S' := fun o2 v H2 x2 s2 r2 => h o2 v H2 (x.trans x2) s2 r2
theorem AfterL.later {Q : List V → Hp → Prop} {d : List D} {S' : Store} (x : Ext K o o1 H H1) (h : AfterL K ct o H Q d S') : AfterL K ct o1 H1 Q d S' := fun o2 v H2 x2 s2 r2 => h o2 v H2 (x.trans x2) s2 r2
theorem AfterB.later {Q : Bool → Hp → Prop} {d : Bool} {S' : Store} (x : Ext K o o1 H H1) (h : AfterB K ct o H Q d S') : AfterB K ct o1 H1 Q d S' := fun o2 H2 x2 s2 => h o2 H2 (x.trans x2) s2
theorem go {t : Ex} {f : D → Store → R D} {Q R : VK} (er : ERel K ct o G S σ H) (h : Res K ct W o H ((t G S).bind f) (After K ct o H Q))
    (k : ∀ o1 S1 H1 v d, Ext K o o1 H H1 → ERel K ct o1 G S1 σ H1 → Rep K o1 H1 v d → Res K ct W o1 H1 (f d S1) (After K ct o1 H1 Q) → R v H1) : tD K ct W t σ H R :=
  ⟨o, G, S, er, h.then fun d S1 h' o1 v H1 x1 s1 r1 => k o1 S1 H1 v d x1 (er.ext x1 s1) r1 (h'.later x1 fun _ _ z => z.later x1)⟩
theorem goB {t : Ex} {f : D → Store → R Bool} {Q : Bool → Hp → Prop} {R : VK} (er : ERel K ct o G S σ H) (h : Res K ct W o H ((t G S).bind f) (AfterB K ct o H Q))
    (k : ∀ o1 S1 H1 v d, Ext K o o1 H H1 → ERel K ct o1 G S1 σ H1 → Rep K o1 H1 v d → Res K ct W o1 H1 (f d S1) (AfterB K ct o1 H1 Q) → R v H1) : tD K ct W t σ H R :=
  ⟨o, G, S, er, h.then fun d S1 h' o1 v H1 x1 s1 r1 => k o1 S1 H1 v d x1 (er.ext x1 s1) r1 (h'.later x1 fun _ _ z => z.later x1)⟩
theorem goL {t : Ex} {f : D → Store → R (List D)} {Q : List V → Hp → Prop} {R : VK} (er : ERel K ct o G S σ H) (h : Res K ct W o H ((t G S).bind f) (AfterL K ct o H Q))
    (k : ∀ o1 S1 H1 v d, Ext K o o1 H H1 → ERel K ct o1 G S1 σ H1 → Rep K o1 H1 v d → Res K ct W o1 H1 (f d S1) (AfterL K ct o1 H1 Q) → R v H1) : tD K ct W t σ H R :=
  ⟨o, G, S, er, h.then fun d S1 h' o1 v H1 x1 s1 r1 => k o1 S1 H1 v d x1 (er.ext x1 s1) r1 (h'.later x1 fun _ _ z => z.later x1)⟩
theorem goT {t : Tx} {f : Bool → Store → R D} {Q : VK} {R : Bool → Hp → Prop} (er : ERel K ct o G S σ H) (h : Res K ct W o H ((t G S).bind f) (After K ct o H Q))
    (k : ∀ o1 S1 H1 d, Ext K o o1 H H1 → ERel K ct o1 G S1 σ H1 → Res K ct W o1 H1 (f d S1) (After K ct o1 H1 Q) → R d H1) : tDb K ct W t σ H R :=
  ⟨o, G, S, er, h.then fun d S1 h' o1 H1 x1 s1 => k o1 S1 H1 d x1 (er.ext x1 s1) (h'.later x1 fun _ _ z => z.later x1)⟩
theorem goTB {t : Tx} {f : Bool → Store → R Bool} {Q : Bool → Hp → Prop} {R : Bool → Hp → Prop} (er : ERel K ct o G S σ H) (h : Res K ct W o H ((t G S).bind f) (AfterB K ct o H Q))
    (k : ∀ o1 S1 H1 d, Ext K o o1 H H1 → ERel K ct o1 G S1 σ H1 → Res K ct W o1 H1 (f d S1) (AfterB K ct o1 H1 Q) → R d H1) : tDb K ct W t σ H R :=
  ⟨o, G, S, er, h.then fun d S1 h' o1 H1 x1 s1 => k o1 S1 H1 d x1 (er.ext x1 s1) (h'.later x1 fun _ _ z => z.later x1)⟩
theorem goA {t : Exs} {f : List D → Store → R D} {Q : VK} {R : List V → Hp → Prop} (er : ERel K ct o G S σ H) (h : Res K ct W o H ((t G S).bind f) (After K ct o H Q))
    (k : ∀ o1 S1 H1 v d, Ext K o o1 H H1 → ERel K ct o1 G S1 σ H1 → RepL K o1 H1 v d → Res K ct W o1 H1 (f d S1) (After K ct o1 H1 Q) → R v H1) : tDs K ct W t σ H R :=
  ⟨o, G, S, er, h.then fun d S1 h' o1 v H1 x1 s1 r1 => k o1 S1 H1 v d x1 (er.ext x1 s1) r1 (h'.later x1 fun _ _ z => z.later x1)⟩
theorem goAL {t : Exs} {f : List D → Store → R (List D)} {Q : List V → Hp → Prop} {R : List V → Hp → Prop} (er : ERel K ct o G S σ H) (h : Res K ct W o H ((t G S).bind f) (AfterL K ct o H Q))
    (k : ∀ o1 S1 H1 v d, Ext K o o1 H H1 → ERel K ct o1 G S1 σ H1 → RepL K o1 H1 v d → Res K ct W o1 H1 (f d S1) (AfterL K ct o1 H1 Q) → R v H1) : tDs K ct W t σ H R :=
  ⟨o, G, S, er, h.then fun d S1 h' o1 v H1 x1 s1 r1 => k o1 S1 H1 v d x1 (er.ext x1 s1) r1 (h'.later x1 fun _ _ z => z.later x1)⟩
/-- a new tuple, a new list -/
theorem new_tup (r : SRel K ct o S H) {p : Addr} {vs : List V} {ds : List D} (hp : H p = none) (kf : KF K (upd H p (.tup vs))) (q : RepL K o H vs ds) {Q : VK} (h : After K ct o H Q (.tup ds) S) : Q (.ref p) (upd H p (.tup vs)) :=
  h o _ _ (.grown hp) (r.grown hp kf) (.tup (.of upd_same) ((Ext.grown hp).repL r q))
theorem new_lst (r : SRel K ct o S H) {p : Addr} {vs : List V} {ds : List D} (hp : H p = none) (kf : KF K (upd H p (.lst vs))) (q : RepL K o H vs ds) {Q : VK} (h : After K ct o H Q (.lst ds) S) : Q (.ref p) (upd H p (.lst vs)) :=
  h o _ _ (.grown hp) (r.grown hp kf) (.lst upd_same (fun z => by obtain ⟨u, e⟩ := r.ba _ z; rw [hp] at e; cases e) ((Ext.grown hp).repL r q))
end

/-! ### names, constants -/
def evar (i : Nat) : Ex := fun G S => match look G i with
  | some d => .ok d S
  | none => .bad
def ec (d : D) : Ex := fun _ S => .ok d S
section
variable {X : Cx} {ct : CT} {W : Wish} {pos : Pos}
theorem pd_var (i : Nat) {x : Str} (hN : X.N[i]? = some x := by rfl) (hv : Vis X.env.scope x := by first | exact Or.inl rfl | exact Or.inr (Or.inl rfl) | exact Or.inr (Or.inr rfl)) (hd : (x == ("__debug__" : Str)) = false := by decide)
    (hcd : (x == ("__classdict__" : Str)) = false := by decide) : PD X ct W (.Name x pos) (evar i) :=
  PE.imp (pe_var hN hv hd hcd) fun σ H Q ⟨o, G, S, er, h⟩ => by
    unfold evar at h
    cases e : look G i with
    | none => rw [e] at h; exact h.elim
    | some d =>
      rw [e] at h
      obtain ⟨v, e1, r⟩ := er.v i d e
      exact ⟨v, e1, fun _ => h o v H .refl er.s r⟩
theorem pd_int {i : Int} {j : Nat} : PD X ct W (.Constant (.int i) j pos) (ec (.int i)) :=
  PE.imp pe_int fun σ H Q ⟨o, G, S, er, h⟩ _ => h o _ H .refl er.s (.int i)
theorem pd_bl {b : Bool} {j : Nat} : PD X ct W (.Constant (.bool b) j pos) (ec (.bl b)) :=
  PE.imp pe_bl fun σ H Q ⟨o, G, S, er, h⟩ _ => h o _ H .refl er.s (.bl b)
theorem pd_non {j : Nat} : PD X ct W (.Constant .none j pos) (ec .non) :=
  PE.imp pe_non fun σ H Q ⟨o, G, S, er, h⟩ _ => h o _ H .refl er.s .non
theorem pd_str {x : Str} {j : Nat} (l : List Nat) (e : x = ⟨l.toArray⟩ := by decide +kernel) : PD X ct W (.Constant (.str x) j pos) (ec (.str l)) :=
  PE.imp pe_str fun σ H Q ⟨o, G, S, er, h⟩ _ => by subst e; exact h o _ H .refl er.s (.str l)
/-- a module's constant -/
theorem pd_glob {x : Str} {u : Value} {v : V} {d : D} (hg : Gl X x) (hm : X.mg x = some u) (r : RelV v u) (rep : ∀ o H, Rep X.K o H v d) (hd : (x == ("__debug__" : Str)) = false := by decide) : PD X ct W (.Name x pos) (ec d) :=
  PE.imp (pe_glob hg hm r hd) fun σ H Q ⟨o, G, S, er, h⟩ _ => h o _ H .refl er.s (rep o H)
end

/-! ### operators -/
def ebin (f : D → D → Option D) (a b : Ex) : Ex := fun G S => (a G S).bind fun x S1 => (b G S1).bind fun y S2 => match f x y with
  | some z => .ok z S2
  | none => .bad
def eun (f : D → Option D) (a : Ex) : Ex := fun G S => (a G S).bind fun x S1 => match f x with
  | some z => .ok z S1
  | none => .bad
/-- data in, a value out -/
def rOf (K : PySem.W.Frag) (ct : CT) (f : D → D → Option D) : R2 := fun v w H Q => ∃ o S x y z, SRel K ct o S H ∧ Rep K o H v x ∧ Rep K o H w y ∧ f x y = some z ∧ After K ct o H Q z S
def uOf (K : PySem.W.Frag) (ct : CT) (f : D → Option D) : V → Hp → VK → Prop := fun v H Q => ∃ o S x z, SRel K ct o S H ∧ Rep K o H v x ∧ f x = some z ∧ After K ct o H Q z S
section
variable {X : Cx} {ct : CT} {W : Wish} {pos : Pos} {a b c : Expr} {ta tb tc : Ex} {f g : D → D → Option D} {f' : D → Option D} {K : PySem.W.Frag}
theorem tD_bin {σ : L2.St} {H : Hp} {Q : VK} (h : tD K ct W (ebin f ta tb) σ H Q) : tOp (rOf K ct f) (tD K ct W ta) (tD K ct W tb) σ H Q := by
  obtain ⟨o, G, S, er, h⟩ := h
  refine go er h fun o1 S1 H1 v x x1 er1 rx h1 => go er1 h1 fun o2 S2 H2 w y x2 er2 ry h2 => ?_
  cases e : f x y with
  | none => rw [e] at h2; exact h2.elim
  | some z =>
    rw [e] at h2
    exact ⟨o2, S2, x, y, z, er2.s, x2.rep er1.s rx, ry, e, h2⟩
theorem tD_un {σ : L2.St} {H : Hp} {Q : VK} (h : tD K ct W (eun f' ta) σ H Q) : tUn (uOf K ct f') (tD K ct W ta) σ H Q := by
  obtain ⟨o, G, S, er, h⟩ := h
  refine go er h fun o1 S1 H1 v x x1 er1 rx h1 => ?_
  cases e : f' x with
  | none => rw [e] at h1; exact h1.elim
  | some z =>
    rw [e] at h1
    exact ⟨o1, S1, x, z, er1.s, rx, e, h1⟩
end
/-- an operation's rule by data -/
def OpS (X : Cx) (ct : CT) (F : Value → Value → Sem Value) (f : D → D → Option D) : Prop := OpR X F (rOf X.K ct f)
def UnS (X : Cx) (ct : CT) (F : Value → Sem Value) (f : D → Option D) : Prop := UnR X F (uOf X.K ct f)
section
variable {X : Cx} {ct : CT} {W : Wish} {pos : Pos} {a b c : Expr} {ta tb tc : Ex} {f g : D → D → Option D} {f' : D → Option D} {F F' : Value → Value → Sem Value}
theorem OpR.imp {r r' : R2} (h : OpR X F r) (k : ∀ x y H Q, r' x y H Q → r x y H fun v H' => KF X.K H' → Q v H') : OpR X F r' :=
  fun pins s σ H x y v u Q I rx ry q => wpAny_mono (h pins s σ H x y v u _ I rx ry (k x y H Q q)) (fun _ _ ⟨v, H', I', r, q⟩ => ⟨v, H', I', r, q (kf_of I')⟩) fun _ _ z => z
theorem UnR.imp {F : Value → Sem Value} {r r' : V → Hp → VK → Prop} (h : UnR X F r) (k : ∀ x H Q, r' x H Q → r x H fun v H' => KF X.K H' → Q v H') : UnR X F r' :=
  fun pins s σ H x v Q I rx q => wpAny_mono (h pins s σ H x v _ I rx (k x H Q q)) (fun _ _ ⟨v, H', I', r, q⟩ => ⟨v, H', I', r, q (kf_of I')⟩) fun _ _ z => z
theorem CallR.imp {F : Value} {r r' : List V → Hp → VK → Prop} (h : CallR X F r) (k : ∀ x H Q, r' x H Q → r x H fun v H' => KF X.K H' → Q v H') : CallR X F r' :=
  fun pins s σ H x v Q I rx q => wpAny_mono (h pins s σ H x v _ I rx (k x H Q q)) (fun _ _ ⟨v, H', I', r, q⟩ => ⟨v, H', I', r, q (kf_of I')⟩) fun _ _ z => z
theorem MtR.imp {id : String} {r r' : V → List V → Hp → VK → Prop} (h : MtR X id r) (k : ∀ x xs H Q, r' x xs H Q → r x xs H fun v H' => KF X.K H' → Q v H') : MtR X id r' :=
  fun pins s σ H x xs v us Q I rx rs q => wpAny_mono (h pins s σ H x xs v us _ I rx rs (k x xs H Q q)) (fun _ _ ⟨v, H', I', r, q⟩ => ⟨v, H', I', r, q (kf_of I')⟩) fun _ _ z => z
theorem PE.wk {e : Expr} {t t' : TE} (h : PE X e t) (k : ∀ σ H Q, t' σ H Q → t σ H Q) : PE X e t' := ⟨fun pins s σ H Q I w => h.run pins s σ H Q I (k σ H Q w)⟩
theorem PT.wk {e : Expr} {t t' : TT} (h : PT X e t) (k : ∀ σ H Q, t' σ H Q → t σ H Q) : PT X e t' := ⟨fun pins s σ H Q I w => h.run pins s σ H Q I (k σ H Q w)⟩
theorem PA.wk {es : List Expr} {t t' : TA} (h : PA X es t) (k : ∀ σ H Q, t' σ H Q → t σ H Q) : PA X es t' := ⟨fun pos pins s σ H Q I w => h.run pos pins s σ H Q I (k σ H Q w)⟩
theorem PW.wk {e : Expr} {t t' : TT} (h : PW X e t) (k : ∀ σ H Q, t' σ H Q → t σ H Q) : PW X e t' := ⟨fun wh pins s σ H Q I w => h.run wh pins s σ H Q I (k σ H Q w)⟩
theorem pd_bin {op : Operator} (ho : OpS X ct (binaryOp op) f) (ha : PD X ct W a ta) (hb : PD X ct W b tb) : PD X ct W (.BinOp a op b pos) (ebin f ta tb) := PE.wk (pe_op ho ha hb) fun _ _ _ h => tD_bin h
theorem pd_un {op : UnaryOp} (ho : UnS X ct (unaryOp op) f') (ha : PD X ct W a ta) : PD X ct W (.UnaryOp op a pos) (eun f' ta) := PE.wk (pe_un ho ha) fun _ _ _ h => tD_un h
theorem pd_cmp {op : CmpOp} (ho : OpS X ct (compareOp op) f) (ha : PD X ct W a ta) (hb : PD X ct W b tb) (hm : behindInMarks op b = false) : PD X ct W (.Compare a [op] [b] pos) (ebin f ta tb) := PE.wk (pe_cmpR ho ha hb hm) fun _ _ _ h => tD_bin h
/-- a test out of a value -/
def tst (t : Ex) : Tx := fun G S => (t G S).bind fun x S1 => match x with
  | .bl b => .ok b S1
  | _ => .bad
/-- a value that gives True or False as a test -/
theorem PDb.of_bl {e : Expr} {t : Ex} (h : PT X e (tTest (tD X.K ct W t))) : PDb X ct W e (tst t) := PT.wk h fun σ H Q ⟨o, G, S, er, h⟩ => goB er h fun o1 S1 H1 v d x1 er1 r1 h1 => by
  cases r1 with
  | bl b => exact ⟨b, rfl, h1 o1 H1 .refl er1.s⟩
  | _ => exact h1.elim
theorem pdb_cmp {op : CmpOp} (ho : OpS X ct (compareOp op) f) (ha : PD X ct W a ta) (hb : PD X ct W b tb) (hm : behindInMarks op b = false) : PDb X ct W (.Compare a [op] [b] pos) (tst (ebin f ta tb)) :=
  PDb.of_bl (PT.wk (pt_cmpR ho ha hb hm) fun _ _ _ h => tD_bin h)
/-- a op b op' c -/
def echain (f g : D → D → Option D) (a b c : Ex) : Ex := fun G S => (a G S).bind fun x S1 => (b G S1).bind fun y S2 => match f x y with
  | some (.bl true) => (c G S2).bind fun z S3 => match g y z with
    | some w => .ok w S3
    | none => .bad
  | some (.bl false) => .ok (.bl false) S2
  | _ => .bad
theorem tD_chain {σ : L2.St} {H : Hp} {Q : VK} (h : tD X.K ct W (echain f g ta tb tc) σ H Q) : tChain (rOf X.K ct f) (rOf X.K ct g) (tD X.K ct W ta) (tD X.K ct W tb) (tD X.K ct W tc) σ H Q := by
  obtain ⟨o, G, S, er, h⟩ := h
  refine go er h fun o1 S1 H1 v x x1 er1 rx h1 => go er1 h1 fun o2 S2 H2 w y x2 er2 ry h2 => ?_
  cases e : f x y with
  | none => rw [e] at h2; exact h2.elim
  | some z =>
    rw [e] at h2
    refine ⟨o2, S2, x, y, z, er2.s, x2.rep er1.s rx, ry, e, ?_⟩
    intro o3 u H3 x3 s3 r3
    cases r3 with
    | bl b =>
      refine ⟨b, rfl, ?_⟩
      cases b with
      | false => exact h2 o3 _ H3 x3 s3 (.bl false)
      | true =>
        refine go (er2.ext x3 s3) (h2.later x3 fun _ _ z => z.later x3) fun o4 S4 H4 w4 z4 x4 er4 r4 h4 => ?_
        cases e4 : g y z4 with
        | none => rw [e4] at h4; exact h4.elim
        | some z5 =>
          rw [e4] at h4
          exact ⟨o4, S4, y, z4, z5, er4.s, x4.rep s3 (x3.rep er2.s ry), r4, e4, h4⟩
    | _ => exact h2.elim
theorem pd_chain {op op' : CmpOp} (ho : OpS X ct (compareOp op) f) (ho' : OpS X ct (compareOp op') g) (ha : PD X ct W a ta) (hb : PD X ct W b tb) (hc : PD X ct W c tc) (hm : lastMarks [op, op'] [b, c] = false) :
    PD X ct W (.Compare a [op, op'] [b, c] pos) (echain f g ta tb tc) := PE.wk (pe_chain ho ho' ha hb hc hm) fun _ _ _ h => tD_chain h
theorem pdb_chain {op op' : CmpOp} (ho : OpS X ct (compareOp op) f) (ho' : OpS X ct (compareOp op') g) (ha : PD X ct W a ta) (hb : PD X ct W b tb) (hc : PD X ct W c tc) (hm : lastMarks [op, op'] [b, c] = false) :
    PDb X ct W (.Compare a [op, op'] [b, c] pos) (tst (echain f g ta tb tc)) := PDb.of_bl (PT.wk (pt_chain ho ho' ha hb hc hm) fun _ _ _ h => tD_chain h)

/-! ### truth -/
def D.truth : D → Option Bool
  | .non => some false
  | .bl b => some b
  | .int i => some (i != 0)
  | .str s => if s.length ≤ 16777216 then some (!s.isEmpty) else none
  | .tup xs => some (!xs.isEmpty)
  | .lst xs => some (!xs.isEmpty)
  | .scr xs => some (!xs.isEmpty)
  | .obj _ => none
  | .fl _ _ => none
theorem RepL.empty {K : PySem.W.Frag} {o : Om} {H : Hp} {vs : List V} {ds : List D} (h : RepL K o H vs ds) : vs.isEmpty = ds.isEmpty := by
  cases h <;> rfl
theorem str_len (s : List Nat) : (⟨s.toArray⟩ : Str).length = s.length := by show s.toArray.size = _; simp
theorem Rep.truth {K : PySem.W.Frag} {o : Om} {H : Hp} {v : V} {d : D} (h : Rep K o H v d) {k : Bool} (e : d.truth = some k) : TruV K v H k := by
  cases h with
  | non => cases e; rfl
  | bl b => cases e; rfl
  | int i => cases e; rfl
  | str s =>
    have e : (if s.length ≤ 16777216 then some (!s.isEmpty) else none) = some k := e
    by_cases hs : s.length ≤ 16777216
    · rw [if_pos hs] at e
      cases e
      refine ⟨by rw [str_len, sizeLine_eq]; exact hs, ?_⟩
      rw [str_len]
      cases s with
      | nil => rfl
      | cons a r =>
        show true = _
        symm
        rw [bne_iff_ne]
        simp only [List.length_cons]
        omega
    · rw [if_neg hs] at e; cases e
  | tup ht r => cases e; exact .inr (.inl ⟨_, ht, by rw [r.empty]⟩)
  | lst ht _ r => cases e; exact .inl ⟨_, SqL.of ht, by rw [r.empty]⟩
  | scr ht _ => cases e; exact .inl ⟨_, ht, by simp⟩
  | obj _ => cases e
  | fl _ => cases e
def tru (t : Ex) : Tx := fun G S => (t G S).bind fun x S1 => match x.truth with
  | some b => .ok b S1
  | none => .bad
theorem pdb_tru {e : Expr} {t : Ex} (h : PD X ct W e t) (he : ∀ whole, isTrue e X.env whole = (do let v ← whole; standAt e.pos; holding [v] (truthy v)) := by intro _; rfl) : PDb X ct W e (tru t) :=
  PT.wk (pt_truth h he) fun σ H Q ⟨o, G, S, er, h⟩ => goB er h fun o1 S1 H1 v d x1 er1 r1 h1 => by
    cases e : d.truth with
    | none => rw [e] at h1; exact h1.elim
    | some k =>
      rw [e] at h1
      exact ⟨k, r1.truth e, h1 o1 H1 .refl er1.s⟩

/-! ### and, or, not, if -/
def band (a b : Tx) : Tx := fun G S => (a G S).bind fun x S1 => if x = true then b G S1 else .ok false S1
def bor (a b : Tx) : Tx := fun G S => (a G S).bind fun x S1 => if x = true then .ok true S1 else b G S1
def bnot (a : Tx) : Tx := fun G S => (a G S).bind fun x S1 => .ok (!x) S1
def evb (a : Tx) : Ex := fun G S => (a G S).bind fun x S1 => .ok (.bl x) S1
def eite (c : Tx) (a b : Ex) : Ex := fun G S => (c G S).bind fun x S1 => if x = true then a G S1 else b G S1
abbrev PDw (X : Cx) (ct : CT) (W : Wish) (e : Expr) (t : Tx) : Prop := PW X e (tDb X.K ct W t)
variable {rest : List Expr} {xa xb xc : Tx}
theorem pdw_and1 (ha : PDb X ct W a xa) : PDw X ct W (.BoolOp .And [a] pos) xa := pw_and1 ha
theorem pdw_or1 (ha : PDb X ct W a xa) : PDw X ct W (.BoolOp .Or [a] pos) xa := pw_or1 ha
theorem pdw_and (ha : PDb X ct W a xa) (hb : PDw X ct W (.BoolOp .And (b :: rest) pos) xb) : PDw X ct W (.BoolOp .And (a :: b :: rest) pos) (band xa xb) :=
  PW.wk (pw_and ha hb) fun σ H Q ⟨o, G, S, er, h⟩ => goTB er h fun o1 S1 H1 d x1 er1 h1 => by
    cases d with
    | true => exact ⟨o1, G, S1, er1, h1⟩
    | false => exact h1 o1 H1 .refl er1.s
theorem pdw_or (ha : PDb X ct W a xa) (hb : PDw X ct W (.BoolOp .Or (b :: rest) pos) xb) : PDw X ct W (.BoolOp .Or (a :: b :: rest) pos) (bor xa xb) :=
  PW.wk (pw_or ha hb) fun σ H Q ⟨o, G, S, er, h⟩ => goTB er h fun o1 S1 H1 d x1 er1 h1 => by
    cases d with
    | true => exact h1 o1 H1 .refl er1.s
    | false => exact ⟨o1, G, S1, er1, h1⟩
theorem pdb_bool {e : Expr} (h : PDw X ct W e xa) : PDb X ct W e xa := h.pt
theorem pdb_not (ha : PDb X ct W a xa) : PDb X ct W (.UnaryOp .Not a pos) (bnot xa) :=
  PT.wk (pt_not ha) fun σ H Q ⟨o, G, S, er, h⟩ => goTB er h fun o1 S1 H1 d x1 er1 h1 => h1 o1 H1 .refl er1.s
theorem pd_ite (hc : PDb X ct W c xc) (ha : PD X ct W a ta) (hb : PD X ct W b tb) : PD X ct W (.IfExp c a b pos) (eite xc ta tb) :=
  PE.wk (pe_ifExp hc ha hb) fun σ H Q ⟨o, G, S, er, h⟩ => goT er h fun o1 S1 H1 d x1 er1 h1 => by
    cases d with
    | true => exact ⟨o1, G, S1, er1, h1⟩
    | false => exact ⟨o1, G, S1, er1, h1⟩
/-- a and b, a or b, not a, as values of True and False -/
def eand (a b : Ex) : Ex := fun G S => (a G S).bind fun x S1 => match x with
  | .bl true => b G S1
  | .bl false => .ok (.bl false) S1
  | _ => .bad
def eor (a b : Ex) : Ex := fun G S => (a G S).bind fun x S1 => match x with
  | .bl true => .ok (.bl true) S1
  | .bl false => b G S1
  | _ => .bad
def enot (a : Ex) : Ex := fun G S => (a G S).bind fun x S1 => match x.truth with
  | some b => .ok (.bl (!b)) S1
  | none => .bad
theorem pd_one {op : BoolOp} (ha : PD X ct W a ta) : PD X ct W (.BoolOp op [a] pos) ta := pe_one ha
theorem pd_and (ha : PD X ct W a ta) (hb : PD X ct W (.BoolOp .And (b :: rest) pos) tb) : PD X ct W (.BoolOp .And (a :: b :: rest) pos) (eand ta tb) :=
  PE.wk (pe_and ha hb) fun σ H Q ⟨o, G, S, er, h⟩ => go er h fun o1 S1 H1 v d x1 er1 r1 h1 => by
    cases r1 with
    | bl k =>
      refine ⟨k, rfl, ?_⟩
      cases k with
      | true => exact ⟨o1, G, S1, er1, h1⟩
      | false => exact h1 o1 _ H1 .refl er1.s (.bl false)
    | _ => exact h1.elim
theorem pd_or (ha : PD X ct W a ta) (hb : PD X ct W (.BoolOp .Or (b :: rest) pos) tb) : PD X ct W (.BoolOp .Or (a :: b :: rest) pos) (eor ta tb) :=
  PE.wk (pe_or ha hb) fun σ H Q ⟨o, G, S, er, h⟩ => go er h fun o1 S1 H1 v d x1 er1 r1 h1 => by
    cases r1 with
    | bl k =>
      refine ⟨k, rfl, ?_⟩
      cases k with
      | false => exact ⟨o1, G, S1, er1, h1⟩
      | true => exact h1 o1 _ H1 .refl er1.s (.bl true)
    | _ => exact h1.elim
theorem pd_not (ha : PD X ct W a ta) : PD X ct W (.UnaryOp .Not a pos) (enot ta) :=
  PE.wk (pe_notT ha) fun σ H Q ⟨o, G, S, er, h⟩ => go er h fun o1 S1 H1 v d x1 er1 r1 h1 => by
    cases e : d.truth with
    | none => rw [e] at h1; exact h1.elim
    | some k =>
      rw [e] at h1
      exact ⟨k, r1.truth e, h1 o1 _ H1 .refl er1.s (.bl _)⟩

/-! ### arguments, displays -/
def enil : Exs := fun _ S => .ok [] S
def econs (a : Ex) (r : Exs) : Exs := fun G S => (a G S).bind fun x S1 => (r G S1).bind fun xs S2 => .ok (x :: xs) S2
def etup (t : Exs) : Ex := fun G S => (t G S).bind fun xs S1 => if xs.length ≤ 16777216 then .ok (.tup xs) S1 else .bad
def elst (t : Exs) : Ex := fun G S => (t G S).bind fun xs S1 => if xs.length ≤ 16777216 then .ok (.lst xs) S1 else .bad
variable {e : Expr} {es : List Expr} {te : Ex} {tes : Exs}
theorem pds_nil : PDs X ct W [] enil := PA.wk pa_nil fun σ H Q ⟨o, G, S, er, h⟩ => h o [] H .refl er.s .nil
theorem pds_cons (ha : PD X ct W e te) (hr : PDs X ct W es tes) (hs : starEach (e :: es) X.env = (false, eval e X.env) :: starEach es X.env := by rfl) : PDs X ct W (e :: es) (econs te tes) :=
  PA.wk (pa_cons ha hr hs) fun σ H Q ⟨o, G, S, er, h⟩ => goL er h fun o1 S1 H1 v d x1 er1 r1 h1 => goAL er1 h1 fun o2 S2 H2 vs ds x2 er2 r2 h2 => h2 o2 _ H2 .refl er2.s (.cons (x2.rep er1.s r1) r2)
theorem PA.kf {es : List Expr} {t : TA} (h : PA X es t) : PA X es (fun σ H Q => t σ H Q) := h
theorem PE.kf {e : Expr} {t : TE} (h : PE X e t) : PE X e (fun σ H Q => t σ H fun v H' => KF X.K H' → Q v H') := PE.imp h fun _ _ _ q => q
theorem pd_tup {k : Nat} (h : PDs X ct W es tes) : PD X ct W (.Tuple es k pos) (etup tes) :=
  PE.wk (PE.kf (pe_tup h)) fun σ H Q ⟨o, G, S, er, h⟩ => goA er h fun o1 S1 H1 v d x1 er1 r1 h1 => by
    by_cases hz : d.length ≤ 16777216
    · rw [if_pos hz] at h1
      exact ⟨by rw [r1.length, sizeLine_eq]; exact hz, fun p hp kf => new_tup er1.s hp kf r1 h1⟩
    · rw [if_neg hz] at h1; exact h1.elim
theorem pd_lst (h : PDs X ct W es tes) : PD X ct W (.List es pos) (elst tes) :=
  PE.wk (PE.kf (pe_lst h)) fun σ H Q ⟨o, G, S, er, h⟩ => goA er h fun o1 S1 H1 v d x1 er1 r1 h1 => by
    by_cases hz : d.length ≤ 16777216
    · rw [if_pos hz] at h1
      exact ⟨by rw [r1.length, sizeLine_eq]; exact hz, fun p hp kf => new_lst er1.s hp kf r1 h1⟩
    · rw [if_neg hz] at h1; exact h1.elim
end
end DL

end
section
set_option maxRecDepth 100000
set_option maxHeartbeats 4000000
/-! The data layer: a tuple once, or not at all. -/
namespace DL
open PySem PySem.Spec PyProof.Rows L2
open PySem.AutoSeq1 (wpAny_loadPart')
theorem tuple_mul_one (l : Addr) (items : Array Value) (n : Nat) (dd : Option Addr) (sl : Array (Option Value)) (u : Tok) :
    Meets (Builtin.«tuple.__mul__» ⟨[.ref l, .int 1 u], []⟩) (fun _ R s => s.heap.get? l = some { cls := .type "tuple", dict := dd, data := .seq items n, slots := sl } ∧ R (.ok (.ret (Value.ref l))) s) :=
  .of_wp fun prog w A R s h => by
    obtain ⟨hp, g, d, tk, os⟩ := s
    obtain ⟨hl, h⟩ := h
    have f1 := AutoSeq1.idx_int
    have c1 : (items.isEmpty || ((1 : Int) == 1)) = true := by rw [show ((1 : Int) == 1) = true from rfl, Bool.or_true]
    wp_walk using wpAny_loadPart' hl
    repeat (first
      | (refine wpAny_ite_true (decide_eq_true c1) ?_; wp_walk using wpAny_loadPart' hl))
    exact ⟨_, rfl, h⟩
theorem tuple_mul_none (l : Addr) (items : Array Value) (n : Nat) (dd : Option Addr) (sl : Array (Option Value)) (x : Int) (u : Tok) (c0 : (decide (x < -(2 ^ 63)) || decide (x ≥ 2 ^ 63)) = false) (c1 : (items.isEmpty || x == 1) = false) (c2 : (decide (x ≤ 0) || items.isEmpty) = true) :
    Meets (Builtin.«tuple.__mul__» ⟨[.ref l, .int x u], []⟩) (fun _ R s => s.heap.get? l = some { cls := .type "tuple", dict := dd, data := .seq items n, slots := sl } ∧
      R (.ok (.ret (Value.ref s.heap.objs.size))) { s with heap := s.heap.push { cls := Value.type "tuple", data := Data.seq #[] }, toks := s.toks }) :=
  .of_wp fun prog w A R s h => by
    obtain ⟨hp, g, d, tk, os⟩ := s
    obtain ⟨hl, h⟩ := h
    have f1 := AutoSeq1.idx_int
    wp_walk using wpAny_loadPart' hl
    repeat (first
      | (refine wpAny_ite_false (decide_eq_false (by rw [c0]; exact Bool.false_ne_true)) ?_; wp_walk using wpAny_loadPart' hl)
      | (refine wpAny_ite_false (decide_eq_false (by rw [c1]; exact Bool.false_ne_true)) ?_; wp_walk using wpAny_loadPart' hl)
      | (refine wpAny_ite_true (decide_eq_true c2) ?_; wp_walk using wpAny_loadPart' hl))
    exact ⟨_, rfl, h⟩
section
variable {X : Cx}
theorem op_repT1 : OpR X (binaryOp .Mult) (fun x y H Q => ∃ l xs, x = .ref l ∧ y = .int 1 ∧ SqT X.K H l xs ∧ Q (.ref l) H) := by
  intro pins s σ H x y v u Q I rx ry h
  obtain ⟨l, xs, rfl, rfl, hT, q⟩ := h
  cases rx
  obtain ⟨t, rfl⟩ := ry
  obtain ⟨its, r, ⟨⟨cls, dd, data, sl⟩, ho, hc, n, hd⟩, hs⟩ := I.tuple hT
  simp only at hc hd
  subst hc hd
  exact wpAny_binaryOp_repeat_ref (T := "tuple") (U := "int") (by decide) ⟨_, ho, rfl⟩ (fun s' => typeIs_int s' 1 t) noFill_tuple_mul PySem.F.fills_int_mul PySem.F.slot_int_rmul repeat_tuple PySem.F.slot_int_index.lookup
    (call_meets PySem.F.slot_int_rmul (typeIs_int s 1 t) PySem.F.entry_int_rmul (PySem.F.args_int_rmul_2 _ _) (int_rmul_tuple 1 t l its.toArray n dd sl)
      ⟨ho, rfl, ⟨_, ho, rfl⟩, call_meets PySem.F.slot_tuple_mul ⟨_, ho, rfl⟩ PySem.F.entry_tuple_mul (PySem.F.args_tuple_mul_2 _ _) (tuple_mul_one l its.toArray n dd sl t) ⟨ho, ⟨.ref l, H, I, rfl, q⟩⟩⟩)
theorem op_repT0 : OpR X (binaryOp .Mult) (fun x y H Q => ∃ l k xs, x = .ref l ∧ y = .int k ∧ SqT X.K H l xs ∧ xs ≠ [] ∧ k ≤ 0 ∧ -1000000 ≤ k ∧ ∀ p, H p = none → Q (.ref p) (upd H p (.tup []))) := by
  intro pins s σ H x y v u Q I rx ry h
  obtain ⟨l, k, xs, rfl, rfl, hT, hne, h1, h2, q⟩ := h
  cases rx
  obtain ⟨t, rfl⟩ := ry
  obtain ⟨its, r, ⟨⟨cls, dd, data, sl⟩, ho, hc, n, hd⟩, hs⟩ := I.tuple hT
  simp only at hc hd
  subst hc hd
  have c0 : (decide (k < -(2 ^ 63)) || decide (k ≥ 2 ^ 63)) = false := by rw [decide_eq_false (by omega), decide_eq_false (by omega)] <;> rfl
  have ie : its.toArray.isEmpty = false := by
    cases its with
    | nil => cases r; exact absurd rfl hne
    | cons a b => rfl
  have c1 : (its.toArray.isEmpty || k == 1) = false := by
    rw [ie, Bool.false_or]
    exact beq_eq_false_iff_ne.mpr (by omega)
  have c2 : (decide (k ≤ 0) || its.toArray.isEmpty) = true := by rw [decide_eq_true h1, Bool.true_or]
  refine wpAny_binaryOp_repeat_ref (T := "tuple") (U := "int") (by decide) ⟨_, ho, rfl⟩ (fun s' => typeIs_int s' k t) noFill_tuple_mul PySem.F.fills_int_mul PySem.F.slot_int_rmul repeat_tuple PySem.F.slot_int_index.lookup
    (call_meets PySem.F.slot_int_rmul (typeIs_int s k t) PySem.F.entry_int_rmul (PySem.F.args_int_rmul_2 _ _) (int_rmul_tuple k t l its.toArray n dd sl)
      ⟨ho, rfl, ⟨_, ho, rfl⟩, call_meets PySem.F.slot_tuple_mul ⟨_, ho, rfl⟩ PySem.F.entry_tuple_mul (PySem.F.args_tuple_mul_2 _ _) (tuple_mul_none l its.toArray n dd sl k t c0 c1 c2) ⟨ho, ?_⟩⟩)
  refine ⟨.ref s.heap.objs.size, _, I.laid (t' := s.toks) (o := .tup []) (fun b ob q => Heap.get?_push_of_some _ q) (Nat.le_refl _) ?_, rfl, q _ (I.hok.fresh (Nat.le_refl _))⟩
  exact ⟨by rw [sizeLine_eq]; exact Nat.zero_le _, [], .nil, IsTup.new _ _⟩
end
end DL

end
section
set_option maxRecDepth 100000
set_option maxHeartbeats 2000000
/-! The data layer: operators. -/
namespace DL
open PySem PySem.Spec PyProof.Rows L2

def opAdd : D → D → Option D
  | .int i, .int j => some (.int (i + j))
  | .str s, .str t => if s.length + t.length ≤ 16777216 then some (.str (s ++ t)) else none
  | .tup s, .tup t => if s.length + t.length ≤ 16777216 then some (.tup (s ++ t)) else none
  | .lst s, .lst t => if s.length + t.length ≤ 16777216 then some (.lst (s ++ t)) else none
  | _, _ => none
def opSub : D → D → Option D
  | .int i, .int j => some (.int (i - j))
  | _, _ => none
def mulOk (i j : Int) : Bool := decide (i.natAbs < 2 ^ 64) || decide (j.natAbs < 2 ^ 64) || decide (i.natAbs.log2 + j.natAbs.log2 < 1000000)
def repS (n : Nat) (s : List Nat) : List Nat := (List.replicate n s).flatten
def repL (n : Nat) (s : List D) : List D := (List.replicate n s).flatten
def opMul : D → D → Option D
  | .int i, .int j => if mulOk i j = true then some (.int (i * j)) else none
  | .str s, .int j => if j.natAbs ≤ 16777216 ∧ s.length * j.toNat ≤ 16777216 then some (.str (repS j.toNat s)) else none
  | .tup s, .int j => if s ≠ [] ∧ -1000000 ≤ j ∧ j ≤ 1000 ∧ s.length ≤ 1000 then some (.tup (repL j.toNat s)) else none
  | .lst s, .int j => if j.natAbs ≤ 16777216 ∧ s.length * j.toNat ≤ 16777216 then some (.lst (repL j.toNat s)) else none
  | _, _ => none
def opDiv : D → D → Option D
  | .int i, .int j => if 0 < j ∧ j.natAbs.log2 < 9000 then some (.int (i / j)) else none
  | _, _ => none
def opMod : D → D → Option D
  | .int i, .int j => if 0 < j then some (.int (i % j)) else none
  | _, _ => none
def opPow : D → D → Option D
  | .int i, .int j => if 0 ≤ j ∧ j ≤ 1000000 ∧ i.natAbs < 2 ^ 64 then some (.int (i ^ j.toNat)) else none
  | _, _ => none
def opShl : D → D → Option D
  | .int i, .int j => if 0 ≤ j ∧ j ≤ 1000000 ∧ i.natAbs.log2 < 10000000 then some (.int (i * 2 ^ j.toNat)) else none
  | _, _ => none
def opShr : D → D → Option D
  | .int i, .int j => if 0 ≤ j then some (.int (i / 2 ^ j.toNat)) else none
  | _, _ => none
def opAnd : D → D → Option D
  | .int i, .int j => some (.int (Builtin.bitAnd i j))
  | _, _ => none
def opOr : D → D → Option D
  | .int i, .int j => some (.int (Builtin.bitOr i j))
  | _, _ => none
def opXor : D → D → Option D
  | .int i, .int j => some (.int (Builtin.bitXor i j))
  | _, _ => none
def opNeg : D → Option D
  | .int i => some (.int (-i))
  | _ => none

section
variable {X : Cx} {ct : CT}
theorem OpR.kf {F : Value → Value → Sem Value} {r : R2} (h : OpR X F r) : OpR X F (fun x y H Q => r x y H fun v H' => KF X.K H' → Q v H') := OpR.imp h fun _ _ _ _ q => q
/-- ints alone -/
theorem opS_int {F : Value → Value → Sem Value} {C : Int → Int → Prop} {g : Int → Int → V} {f : D → D → Option D} (h : OpR X F (rI C g)) (k : ∀ (x y z : D), f x y = some z → ∃ i j, x = .int i ∧ y = .int j ∧ C i j ∧ ∀ o H, Rep X.K o H (g i j) z) : OpS X ct F f :=
  OpR.imp h fun v w H Q ⟨o, S, x, y, z, sr, rx, ry, e, q⟩ => by
    obtain ⟨i, j, rfl, rfl, hc, hr⟩ := k x y z e
    cases rx
    cases ry
    exact ⟨i, j, rfl, rfl, hc, fun _ => q o _ H .refl sr (hr o H)⟩
theorem opS_int0 {F : Value → Value → Sem Value} {g : Int → Int → V} {f : D → D → Option D} (h : OpR X F (rI0 g)) (k : ∀ (x y z : D), f x y = some z → ∃ i j, x = .int i ∧ y = .int j ∧ ∀ o H, Rep X.K o H (g i j) z) : OpS X ct F f :=
  OpR.imp h fun v w H Q ⟨o, S, x, y, z, sr, rx, ry, e, q⟩ => by
    obtain ⟨i, j, rfl, rfl, hr⟩ := k x y z e
    cases rx
    cases ry
    exact ⟨i, j, rfl, rfl, fun _ => q o _ H .refl sr (hr o H)⟩
theorem str_app (s t : List Nat) : (⟨s.toArray⟩ : Str) ++ (⟨t.toArray⟩ : Str) = ⟨(s ++ t).toArray⟩ := by
  show Str.append _ _ = _
  unfold Str.append
  simp
theorem os_add : OpS X ct (binaryOp .Add) opAdd := by
  intro pins s σ H v w u1 u2 Q I rv rw ⟨o, S, x, y, z, sr, rx, ry, e, q⟩
  cases rx with
  | int i =>
    cases ry with
    | int j =>
      cases e
      exact op_add pins s σ H _ _ u1 u2 Q I rv rw ⟨i, j, rfl, rfl, q o _ H .refl sr (.int _)⟩
    | _ => cases e
  | str a =>
    cases ry with
    | str b =>
      have e : (if a.length + b.length ≤ 16777216 then some (D.str (a ++ b)) else none) = some z := e
      by_cases hz : a.length + b.length ≤ 16777216
      · rw [if_pos hz] at e
        cases e
        exact op_add_str pins s σ H _ _ u1 u2 Q I rv rw ⟨_, _, rfl, rfl, by rw [str_len, str_len, sizeLine_eq]; exact hz, by rw [str_app]; exact q o _ H .refl sr (.str _)⟩
      · rw [if_neg hz] at e; cases e
    | _ => cases e
  | tup ha ra =>
    rename_i ds
    cases ry with
    | tup hb rb =>
      rename_i es
      have e : (if ds.length + es.length ≤ 16777216 then some (D.tup (ds ++ es)) else none) = some z := e
      by_cases hz : ds.length + es.length ≤ 16777216
      · rw [if_pos hz] at e
        cases e
        refine OpR.kf op_catA pins s σ H _ _ u1 u2 Q I rv rw ⟨_, _, _, _, rfl, rfl, ha, hb, by rw [ra.length, rb.length, sizeLine_eq]; exact hz, fun e1 kf => ?_, fun _ e1 kf => ?_, fun _ _ p hp kf => new_tup sr hp kf (ra.append rb) q⟩
        · subst e1
          cases ra
          exact q o _ H .refl sr (.tup hb rb)
        · subst e1
          cases rb
          rw [List.append_nil] at q
          exact q o _ H .refl sr (.tup ha ra)
      · rw [if_neg hz] at e; cases e
    | _ => cases e
  | lst ha na ra =>
    rename_i ds
    cases ry with
    | lst hb nb rb =>
      rename_i es
      have e : (if ds.length + es.length ≤ 16777216 then some (D.lst (ds ++ es)) else none) = some z := e
      by_cases hz : ds.length + es.length ≤ 16777216
      · rw [if_pos hz] at e
        cases e
        exact OpR.kf op_cat pins s σ H _ _ u1 u2 Q I rv rw ⟨_, _, _, _, rfl, rfl, ha, hb, by rw [ra.length, rb.length, sizeLine_eq]; exact hz, fun p hp kf => new_lst sr hp kf (ra.append rb) q⟩
      · rw [if_neg hz] at e; cases e
    | _ => cases e
  | _ => cases e
theorem os_sub : OpS X ct (binaryOp .Sub) opSub := opS_int0 op_sub fun x y z e => by
  unfold opSub at e
  split at e
  · cases e; exact ⟨_, _, rfl, rfl, fun o H => .int _⟩
  · cases e
theorem os_mod : OpS X ct (binaryOp .Mod) opMod := opS_int op_mod fun x y z e => by
  unfold opMod at e
  split at e
  · split at e
    · cases e; exact ⟨_, _, rfl, rfl, by assumption, fun o H => .int _⟩
    · cases e
  · cases e
theorem os_div : OpS X ct (binaryOp .FloorDiv) opDiv := opS_int op_fdivW fun x y z e => by
  unfold opDiv at e
  split at e
  · split at e
    · rename_i h; cases e; exact ⟨_, _, rfl, rfl, h, fun o H => .int _⟩
    · cases e
  · cases e
theorem os_pow : OpS X ct (binaryOp .Pow) opPow := opS_int op_pow fun x y z e => by
  unfold opPow at e
  split at e
  · split at e
    · rename_i h; cases e; exact ⟨_, _, rfl, rfl, h, fun o H => .int _⟩
    · cases e
  · cases e
theorem shl_guard {i j : Int} (h : 0 ≤ j ∧ j ≤ 1000000 ∧ i.natAbs.log2 < 10000000) : CShl i j := by
  refine ⟨h.1, ?_⟩
  have b : Builtin.Int.intBits i ≤ i.natAbs.log2 + 1 := by
    unfold Builtin.Int.intBits
    split <;> omega
  have e : (2 : Int) ^ 27 = 134217728 := by decide
  omega
theorem os_shl : OpS X ct (binaryOp .LShift) opShl := opS_int op_shlW fun x y z e => by
  unfold opShl at e
  split at e
  · split at e
    · rename_i h; cases e; exact ⟨_, _, rfl, rfl, shl_guard h, fun o H => .int _⟩
    · cases e
  · cases e
theorem os_shr : OpS X ct (binaryOp .RShift) opShr := opS_int op_shr fun x y z e => by
  unfold opShr at e
  split at e
  · split at e
    · rename_i h; cases e; exact ⟨_, _, rfl, rfl, h, fun o H => .int _⟩
    · cases e
  · cases e
theorem os_and : OpS X ct (binaryOp .BitAnd) opAnd := opS_int0 op_and fun x y z e => by
  unfold opAnd at e
  split at e
  · cases e; exact ⟨_, _, rfl, rfl, fun o H => .int _⟩
  · cases e
theorem os_or : OpS X ct (binaryOp .BitOr) opOr := opS_int0 op_or fun x y z e => by
  unfold opOr at e
  split at e
  · cases e; exact ⟨_, _, rfl, rfl, fun o H => .int _⟩
  · cases e
theorem os_xor : OpS X ct (binaryOp .BitXor) opXor := opS_int0 op_xor fun x y z e => by
  unfold opXor at e
  split at e
  · cases e; exact ⟨_, _, rfl, rfl, fun o H => .int _⟩
  · cases e
theorem us_neg : UnS X ct (unaryOp .USub) opNeg := UnR.imp un_neg fun v H Q ⟨o, S, x, z, sr, rx, e, q⟩ => by
  cases rx with
  | int i => cases e; exact ⟨i, rfl, fun _ => q o _ H .refl sr (.int _)⟩
  | _ => cases e
theorem mul_guard {i j : Int} (h : mulOk i j = true) : IntMulOk i j := by
  unfold mulOk at h
  rw [Bool.or_eq_true, Bool.or_eq_true] at h
  have p : (2 : Nat) ^ 64 = 18446744073709551616 := by decide
  have p2 : (2 : Int) ^ 64 = 18446744073709551616 := by decide
  rcases h with (h | h) | h
  · have h := of_decide_eq_true h
    exact CMul.ok (.inl ⟨by omega, by omega⟩)
  · have h := of_decide_eq_true h
    exact CMul.ok (.inr ⟨by omega, by omega⟩)
  · have h : i.natAbs.log2 + j.natAbs.log2 < 1000000 := of_decide_eq_true h
    exact CMulW.ok h
theorem str_rep (n : Nat) (s : List Nat) : (List.replicate n s.toArray).foldl (· ++ ·) #[] = (repS n s).toArray := by
  have : ∀ (k : Nat) (acc : List Nat), (List.replicate k s.toArray).foldl (· ++ ·) acc.toArray = (acc ++ (List.replicate k s).flatten).toArray := by
    intro k
    induction k with
    | zero => intro acc; simp
    | succ k ih =>
      intro acc
      rw [List.replicate_succ, List.foldl_cons, List.append_toArray, ih, List.replicate_succ, List.flatten_cons, List.append_assoc]
  have h := this n []
  rw [List.nil_append] at h
  exact h
theorem repS_len (n : Nat) (s : List Nat) : (repS n s).length = s.length * n := by
  unfold repS
  rw [List.length_flatten, List.map_replicate, List.sum_replicate_nat, Nat.mul_comm]
theorem RepL.rep {K : PySem.W.Frag} {o : Om} {H : Hp} {vs : List V} {ds : List D} (h : RepL K o H vs ds) : ∀ n : Nat, RepL K o H (List.replicate n vs).flatten (repL n ds)
  | 0 => .nil
  | n + 1 => by
    unfold repL
    rw [List.replicate_succ, List.replicate_succ, List.flatten_cons, List.flatten_cons]
    exact h.append (h.rep n)
theorem mul_strD {pins : List (Addr × Obj)} {s : Shared} {σ : L2.St} {H : Hp} {a : List Nat} {t u : Tok} {j : Int} {Q : VK} (I : Inv X pins σ H s) (hz : j.natAbs ≤ 16777216 ∧ a.length * j.toNat ≤ 16777216) (q : Q (.str ⟨(repS j.toNat a).toArray⟩) H) :
    wpAny (model X.prog X.w) X.A (binaryOp .Mult (.str ⟨a.toArray⟩ t) (.int j u)) (EP X pins σ Q) X.xe s := by
  have hl : (⟨a.toArray⟩ : Str).length = a.length := str_len a
  refine PySem.P.mul_str ?_ (fun h1 h2 => ?_) (fun h1 h2 => ?_) ?_
  · rw [decide_eq_false (by omega), decide_eq_false (by omega)]; rfl
  · rw [hl]
    intro z
    have h3 : ((2 : Int) ^ 63 - 1) / j < (a.length : Int) := z
    have e : ((2 : Int) ^ 63 - 1) = 9223372036854775807 := by decide
    rw [e] at h3
    have h4 : (9223372036854775807 : Int) < (a.length : Int) * j := by
      have := Int.lt_mul_of_ediv_lt (by omega : (0 : Int) < j) h3
      exact this
    have h5 : (a.length : Int) * j = ((a.length * j.toNat : Nat) : Int) := by
      rw [Int.natCast_mul, Int.toNat_of_nonneg (by omega)]
    omega
  · rw [hl]
    unfold Builtin.Str.tooLong
    rw [sizeLine_eq]
    exact decide_eq_false (by omega)
  · have fin : ∀ (x : Str), x = ⟨(repS j.toNat a).toArray⟩ → ∀ t' tk, EP X pins σ Q (.str x t') { s with toks := tk } := fun x e t' tk => ⟨.str ⟨(repS j.toNat a).toArray⟩, H, I.tok _, ⟨t', by rw [e]⟩, q⟩
    split
    · rename_i h1
      refine ⟨by decide, fin _ ?_ _ _⟩
      have : j.toNat = 0 := by omega
      rw [this]
      rfl
    · split
      · rename_i h1 h2
        show EP X pins σ Q (.str ⟨a.toArray⟩ t) s
        have e : repS j.toNat a = a := by
          rw [Bool.or_eq_true] at h2
          rcases h2 with h2 | h2
          · have : j = 1 := eq_of_beq h2
            subst this
            show (List.replicate 1 a).flatten = a
            simp
          · have h3 := eq_of_beq h2
            rw [hl] at h3
            have : a = [] := List.eq_nil_of_length_eq_zero h3
            subst this
            unfold repS
            simp
        exact ⟨.str ⟨a.toArray⟩, H, I, ⟨t, rfl⟩, by rw [e] at q; exact q⟩
      · refine ⟨?_, fin _ (by rw [str_rep]) _ _⟩
        show Array.size _ ≤ _
        rw [str_rep, List.size_toArray, repS_len, sizeLine_eq]
        exact hz.2
theorem os_mul : OpS X ct (binaryOp .Mult) opMul := by
  intro pins s σ H v w u1 u2 Q I rv rw ⟨o, S, x, y, z, sr, rx, ry, e, q⟩
  cases rx with
  | int i =>
    cases ry with
    | int j =>
      have e : (if mulOk i j = true then some (D.int (i * j)) else none) = some z := e
      by_cases hz : mulOk i j = true
      · rw [if_pos hz] at e
        cases e
        obtain ⟨t, rfl⟩ := rv
        obtain ⟨t', rfl⟩ := rw
        exact mul_int ⟨.int (i * j), H, I.tok _, ⟨_, rfl⟩, q o _ H .refl sr (.int _)⟩ (mul_guard hz)
      · rw [if_neg hz] at e; cases e
    | _ => cases e
  | str a =>
    cases ry with
    | int j =>
      have e : (if j.natAbs ≤ 16777216 ∧ a.length * j.toNat ≤ 16777216 then some (D.str (repS j.toNat a)) else none) = some z := e
      by_cases hz : j.natAbs ≤ 16777216 ∧ a.length * j.toNat ≤ 16777216
      · rw [if_pos hz] at e
        cases e
        obtain ⟨t, rfl⟩ := rv
        obtain ⟨t', rfl⟩ := rw
        exact mul_strD I hz (q o _ H .refl sr (.str _))
      · rw [if_neg hz] at e; cases e
    | _ => cases e
  | tup ha ra =>
    rename_i ds
    cases ry with
    | int j =>
      have e : (if ds ≠ [] ∧ -1000000 ≤ j ∧ j ≤ 1000 ∧ ds.length ≤ 1000 then some (D.tup (repL j.toNat ds)) else none) = some z := e
      by_cases hz : ds ≠ [] ∧ -1000000 ≤ j ∧ j ≤ 1000 ∧ ds.length ≤ 1000
      · rw [if_pos hz] at e
        cases e
        have nn : ∀ {vs}, RepL X.K o H vs ds → vs ≠ [] := fun {vs} ra e1 => by
          subst e1
          cases ra
          exact hz.1 rfl
        by_cases h2 : 2 ≤ j
        · exact OpR.kf op_repT pins s σ H _ _ u1 u2 Q I rv rw ⟨_, j, _, rfl, rfl, ha, nn ra, h2, hz.2.2.1, by rw [ra.length]; exact hz.2.2.2, fun p hp kf => new_tup sr hp kf (ra.rep _) q⟩
        · by_cases h1 : j = 1
          · subst h1
            have e1 : repL (1 : Int).toNat ds = ds := by
              show (List.replicate 1 ds).flatten = ds
              simp
            rw [e1] at q
            exact op_repT1 pins s σ H _ _ u1 u2 Q I rv rw ⟨_, _, rfl, rfl, ha, q o _ H .refl sr (.tup ha ra)⟩
          · have e0 : repL j.toNat ds = [] := by
              have : j.toNat = 0 := by omega
              rw [this]; rfl
            rw [e0] at q
            exact OpR.kf op_repT0 pins s σ H _ _ u1 u2 Q I rv rw ⟨_, j, _, rfl, rfl, ha, nn ra, by omega, hz.2.1, fun p hp kf => new_tup sr hp kf .nil q⟩
      · rw [if_neg hz] at e; cases e
    | _ => cases e
  | lst ha na ra =>
    rename_i ds
    cases ry with
    | int j =>
      have e : (if j.natAbs ≤ 16777216 ∧ ds.length * j.toNat ≤ 16777216 then some (D.lst (repL j.toNat ds)) else none) = some z := e
      by_cases hz : j.natAbs ≤ 16777216 ∧ ds.length * j.toNat ≤ 16777216
      · rw [if_pos hz] at e
        cases e
        exact OpR.kf op_rep pins s σ H _ _ u1 u2 Q I rv rw ⟨_, j, _, rfl, rfl, ha, by omega, by omega, by rw [ra.length, sizeLine_eq]; exact hz.2, fun p hp kf => new_lst sr hp kf (ra.rep _) q⟩
      · rw [if_neg hz] at e; cases e
    | _ => cases e
  | _ => cases e

/-! ### comparisons -/
mutual
/-- data that == compares, not too deep -/
def D.cmp : Nat → D → Bool
  | _, .non => true
  | _, .bl _ => true
  | _, .int _ => true
  | _, .str s => s.all (· < 0x110000)
  | n, .tup xs => match n with
    | 0 => false
    | n + 1 => D.cmps n xs
  | n, .lst xs => match n with
    | 0 => false
    | n + 1 => D.cmps n xs
  | _, _ => false
def D.cmps : Nat → List D → Bool
  | _, [] => true
  | n, x :: r => D.cmp n x && D.cmps n r
end
mutual
def D.pd : D → PyData
  | .bl b => .bool b
  | .int i => .int i
  | .str s => .str ⟨s.toArray⟩
  | .tup xs => .tuple (D.pds xs)
  | .lst xs => .list (D.pds xs)
  | _ => .none
def D.pds : List D → List PyData
  | [] => []
  | x :: r => D.pd x :: D.pds r
end
mutual
/-- == of such data -/
def D.eq : D → D → Bool
  | .non, .non => true
  | .bl a, .bl b => a == b
  | .bl a, .int j => (if a then 1 else 0) == j
  | .int i, .bl b => i == (if b then 1 else 0)
  | .int i, .int j => i == j
  | .str x, .str y => x == y
  | .tup xs, .tup ys => D.eqs xs ys
  | .lst xs, .lst ys => D.eqs xs ys
  | _, _ => false
def D.eqs : List D → List D → Bool
  | [], [] => true
  | x :: xs, y :: ys => D.eq x y && D.eqs xs ys
  | _, _ => false
end
theorem beq_arr (a b : List Nat) : ((⟨a.toArray⟩ : Str) == ⟨b.toArray⟩) = (a == b) := by
  rw [Bool.eq_iff_iff]
  simp
mutual
theorem D.cmp_ok : ∀ (n : Nat) (d : D), D.cmp n d = true → (D.pd d).canLay0 = true ∧ (D.pd d).depth ≤ n
  | _, .non, _ => ⟨rfl, Nat.zero_le _⟩
  | _, .bl _, _ => ⟨rfl, Nat.zero_le _⟩
  | _, .int _, _ => ⟨rfl, Nat.zero_le _⟩
  | _, .str s, h => ⟨by
      have h' : s.all (· < 0x110000) = true := h
      show PyData.strOk ⟨s.toArray⟩ = true
      unfold PyData.strOk
      simpa using h', Nat.zero_le _⟩
  | 0, .tup xs, h => by cases h
  | n + 1, .tup xs, h => by
    obtain ⟨h1, h2⟩ := D.cmps_ok n xs h
    exact ⟨h1, Nat.succ_le_succ h2⟩
  | 0, .lst xs, h => by cases h
  | n + 1, .lst xs, h => by
    obtain ⟨h1, h2⟩ := D.cmps_ok n xs h
    exact ⟨h1, Nat.succ_le_succ h2⟩
  | _, .obj _, h => by cases h
  | _, .scr _, h => by cases h
theorem D.cmps_ok : ∀ (n : Nat) (ds : List D), D.cmps n ds = true → PyData.canLayAll0 (D.pds ds) = true ∧ PyData.depthAll (D.pds ds) ≤ n
  | _, [], _ => ⟨rfl, Nat.zero_le _⟩
  | n, x :: r, h => by
    have h' : (D.cmp n x && D.cmps n r) = true := h
    rw [Bool.and_eq_true] at h'
    obtain ⟨a1, a2⟩ := D.cmp_ok n x h'.1
    obtain ⟨b1, b2⟩ := D.cmps_ok n r h'.2
    refine ⟨?_, ?_⟩
    · show (PyData.canLay0 _ && PyData.canLayAll0 _) = true
      rw [a1, b1] <;> rfl
    · show max _ _ ≤ n
      exact Nat.max_le.mpr ⟨a2, b2⟩
end
mutual
theorem D.eq_pd : ∀ (n : Nat) (x y : D), D.cmp n x = true → D.cmp n y = true → PyData.eqv (D.pd x) (D.pd y) = D.eq x y
  | n, .non, y, _, hy => by cases y <;> first | rfl | cases hy
  | n, .bl b, y, _, hy => by cases y <;> first | rfl | cases hy
  | n, .int b, y, _, hy => by cases y <;> first | rfl | cases hy
  | n, .str b, y, _, hy => by
    cases y with
    | str c => exact beq_arr b c
    | _ => first | rfl | cases hy
  | 0, .tup xs, _, h, _ => by cases h
  | n + 1, .tup xs, y, h, hy => by
    cases y with
    | tup ys => exact D.eqs_pd n xs ys h hy
    | _ => first | rfl | cases hy
  | 0, .lst xs, _, h, _ => by cases h
  | n + 1, .lst xs, y, h, hy => by
    cases y with
    | lst ys => exact D.eqs_pd n xs ys h hy
    | _ => first | rfl | cases hy
  | _, .obj _, _, h, _ => by cases h
  | _, .scr _, _, h, _ => by cases h
theorem D.eqs_pd : ∀ (n : Nat) (xs ys : List D), D.cmps n xs = true → D.cmps n ys = true → PyData.eqvAll (D.pds xs) (D.pds ys) = D.eqs xs ys
  | n, [], [], _, _ => rfl
  | n, [], _ :: _, _, _ => rfl
  | n, _ :: _, [], _, _ => rfl
  | n, x :: xs, y :: ys, h, h2 => by
    have h' : (D.cmp n x && D.cmps n xs) = true := h
    have h2' : (D.cmp n y && D.cmps n ys) = true := h2
    rw [Bool.and_eq_true] at h' h2'
    show (PyData.eqv _ _ && PyData.eqvAll _ _) = (D.eq x y && D.eqs xs ys)
    rw [D.eq_pd n x y h'.1 h2'.1, D.eqs_pd n xs ys h'.2 h2'.2]
end
mutual
theorem Rep.dp {K : PySem.W.Frag} {o : Om} {H : Hp} : ∀ (n : Nat) {v : V} {d : D}, Rep K o H v d → D.cmp n d = true → Dp K H v (D.pd d)
  | _, _, _, .non, _ => .non
  | _, _, _, .bl b, _ => .bl b
  | _, _, _, .int b, _ => .int b
  | _, _, _, .str b, _ => .str _
  | 0, _, _, .tup h r, e => by cases e
  | n + 1, _, _, .tup h r, e => .tup h (RepL.dp n r e)
  | 0, _, _, .lst h _ r, e => by cases e
  | n + 1, _, _, .lst h _ r, e => .lst (.of h) (RepL.dp n r e)
  | _, _, _, .obj _, e => by cases e
  | _, _, _, .scr _ _, e => by cases e
theorem RepL.dp {K : PySem.W.Frag} {o : Om} {H : Hp} : ∀ (n : Nat) {vs : List V} {ds : List D}, RepL K o H vs ds → D.cmps n ds = true → DpAll K H vs (D.pds ds)
  | _, _, _, .nil, _ => .nil
  | n, _, _, .cons h r, e => by
    have e' : (D.cmp n _ && D.cmps n _) = true := e
    rw [Bool.and_eq_true] at e'
    exact .cons (Rep.dp n h e'.1) (RepL.dp n r e'.2)
end
/-- two that == compares without looking within -/
def D.scl : D → D → Bool
  | .non, .non => true | .non, .int _ => true | .int _, .non => true | .non, .bl _ => true | .bl _, .non => true | .non, .str _ => true | .str _, .non => true
  | .int _, .int _ => true | .bl _, .bl _ => true | .str _, .str _ => true
  | .int _, .str _ => true | .str _, .int _ => true | .bl _, .str _ => true | .str _, .bl _ => true
  | _, _ => false
def opEq : D → D → Option D := fun x y => if D.scl x y = true ∨ (D.cmp 60 x = true ∧ D.cmp 60 y = true) then some (.bl (D.eq x y)) else none
def opNe : D → D → Option D := fun x y => if D.scl x y = true ∨ (D.cmp 60 x = true ∧ D.cmp 60 y = true) then some (.bl (!D.eq x y)) else none
theorem dec_arr (a b : List Nat) : decide (V.str ⟨a.toArray⟩ = V.str ⟨b.toArray⟩) = (a == b) := by
  rw [Bool.eq_iff_iff]
  simp
theorem scl_ok {K : PySem.W.Frag} {o : Om} {H : Hp} {v w : V} {x y : D} (rx : Rep K o H v x) (ry : Rep K o H w y) (h : D.scl x y = true) : scal v w = true ∧ decide (v = w) = D.eq x y := by
  cases rx with
  | non => cases ry <;> first | exact ⟨rfl, by simp [D.eq]⟩ | cases h
  | bl b => cases ry <;> first | exact ⟨rfl, dec_bl⟩ | exact ⟨rfl, by simp [D.eq]⟩ | cases h
  | int b => cases ry <;> first | exact ⟨rfl, dec_int⟩ | exact ⟨rfl, by simp [D.eq]⟩ | cases h
  | str b => cases ry <;> first | exact ⟨rfl, dec_arr _ _⟩ | exact ⟨rfl, by simp [D.eq]⟩ | cases h
  | _ => cases ry <;> cases h
theorem os_eq (hu : X.A.units + 64 < cLine) : OpS X ct (compareOp .Eq) opEq := by
  intro pins s σ H v w u1 u2 Q I rv rw ⟨o, S, x, y, z, sr, rx, ry, e, q⟩
  unfold opEq at e
  split at e
  · rename_i h
    cases e
    rcases h with h | ⟨h1, h2⟩
    · obtain ⟨a1, a2⟩ := scl_ok rx ry h
      exact op_eq pins s σ H v w u1 u2 Q I rv rw ⟨a1, by rw [a2]; exact q o _ H .refl sr (.bl _)⟩
    · refine op_eqD hu pins s σ H v w u1 u2 Q I rv rw ⟨_, _, rx.dp 60 h1, ry.dp 60 h2, ?_, ?_, by rw [D.eq_pd 60 x y h1 h2]; exact q o _ H .refl sr (.bl _)⟩
      · obtain ⟨c1, c2⟩ := D.cmp_ok 60 x h1
        unfold SeqAt.shaped
        rw [c1, decide_eq_true (by omega)] <;> rfl
      · obtain ⟨c1, c2⟩ := D.cmp_ok 60 y h2
        unfold SeqAt.shaped
        rw [c1, decide_eq_true (by omega)] <;> rfl
  · cases e
theorem os_ne (hu : X.A.units + 64 < cLine) : OpS X ct (compareOp .NotEq) opNe := by
  intro pins s σ H v w u1 u2 Q I rv rw ⟨o, S, x, y, z, sr, rx, ry, e, q⟩
  unfold opNe at e
  split at e
  · rename_i h
    cases e
    rcases h with h | ⟨h1, h2⟩
    · obtain ⟨a1, a2⟩ := scl_ok rx ry h
      exact op_ne pins s σ H v w u1 u2 Q I rv rw ⟨a1, by rw [a2]; exact q o _ H .refl sr (.bl _)⟩
    · refine op_neD hu pins s σ H v w u1 u2 Q I rv rw ⟨_, _, rx.dp 60 h1, ry.dp 60 h2, ?_, ?_, by rw [D.eq_pd 60 x y h1 h2]; exact q o _ H .refl sr (.bl _)⟩
      · obtain ⟨c1, c2⟩ := D.cmp_ok 60 x h1
        unfold SeqAt.shaped
        rw [c1, decide_eq_true (by omega)] <;> rfl
      · obtain ⟨c1, c2⟩ := D.cmp_ok 60 y h2
        unfold SeqAt.shaped
        rw [c1, decide_eq_true (by omega)] <;> rfl
  · cases e
def opLt : D → D → Option D
  | .int i, .int j => some (.bl (decide (i < j)))
  | _, _ => none
def opLe : D → D → Option D
  | .int i, .int j => some (.bl (decide (i ≤ j)))
  | _, _ => none
def opGt : D → D → Option D
  | .int i, .int j => some (.bl (decide (j < i)))
  | _, _ => none
def opGe : D → D → Option D
  | .int i, .int j => some (.bl (decide (j ≤ i)))
  | _, _ => none
theorem os_lt : OpS X ct (compareOp .Lt) opLt := opS_int0 op_lt fun x y z e => by
  unfold opLt at e
  split at e
  · cases e; exact ⟨_, _, rfl, rfl, fun o H => .bl _⟩
  · cases e
theorem os_le : OpS X ct (compareOp .LtE) opLe := opS_int0 op_le fun x y z e => by
  unfold opLe at e
  split at e
  · cases e; exact ⟨_, _, rfl, rfl, fun o H => .bl _⟩
  · cases e
theorem os_gt : OpS X ct (compareOp .Gt) opGt := opS_int0 op_gt fun x y z e => by
  unfold opGt at e
  split at e
  · cases e; exact ⟨_, _, rfl, rfl, fun o H => .bl _⟩
  · cases e
theorem os_ge : OpS X ct (compareOp .GtE) opGe := opS_int0 op_ge fun x y z e => by
  unfold opGe at e
  split at e
  · cases e; exact ⟨_, _, rfl, rfl, fun o H => .bl _⟩
  · cases e
/-- is None -/
def D.isNon : D → Bool
  | .non => true
  | _ => false
def opIs : D → D → Option D
  | x, .non => some (.bl x.isNon)
  | _, _ => none
def opIsNot : D → D → Option D
  | x, .non => some (.bl (!x.isNon))
  | _, _ => none
theorem isNon_ok {K : PySem.W.Frag} {o : Om} {H : Hp} {v : V} {x : D} (rx : Rep K o H v x) : decide (v = .non) = x.isNon := by
  cases rx <;> first | rfl | simp [D.isNon]
theorem os_is : OpS X ct (compareOp .Is) opIs := OpR.imp op_isN fun v w H Q ⟨o, S, x, y, z, sr, rx, ry, e, q⟩ => by
  cases ry with
  | non => cases e; exact ⟨rfl, fun _ => by rw [isNon_ok rx]; exact q o _ H .refl sr (.bl _)⟩
  | _ => cases e
theorem os_isNot : OpS X ct (compareOp .IsNot) opIsNot := OpR.imp op_notN fun v w H Q ⟨o, S, x, y, z, sr, rx, ry, e, q⟩ => by
  cases ry with
  | non => cases e; exact ⟨rfl, fun _ => by rw [isNon_ok rx]; exact q o _ H .refl sr (.bl _)⟩
  | _ => cases e
/-- x in a list or a tuple of flat things -/
def D.flt : D → Bool
  | .non => true
  | .bl _ => true
  | .int _ => true
  | .str _ => true
  | _ => false
def D.items : D → Option (List D)
  | .tup xs => some xs
  | .lst xs => some xs
  | _ => none
def inD (x : D) (xs : List D) : Bool := xs.any fun y => D.eq y x
def opIn : D → D → Option D := fun x y => match y.items with
  | some ys => if x.flt = true ∧ ys.all D.flt = true then some (.bl (inD x ys)) else none
  | none => none
def opNotIn : D → D → Option D := fun x y => match y.items with
  | some ys => if x.flt = true ∧ ys.all D.flt = true then some (.bl (!inD x ys)) else none
  | none => none
theorem flt_ok {K : PySem.W.Frag} {o : Om} {H : Hp} {v : V} {x : D} (rx : Rep K o H v x) (h : x.flt = true) : flatV v = true := by
  cases rx <;> first | rfl | cases h
theorem flts_ok {K : PySem.W.Frag} {o : Om} {H : Hp} : ∀ {vs : List V} {ds : List D}, RepL K o H vs ds → ds.all D.flt = true → vs.all flatV = true
  | _, _, .nil, _ => rfl
  | _, _, .cons a r, h => by
    rw [List.all_cons, Bool.and_eq_true] at h ⊢
    exact ⟨flt_ok a h.1, flts_ok r h.2⟩
theorem beq_cps (a b : List Nat) : ((⟨a.toArray⟩ : Str) == ⟨b.toArray⟩) = (a == b) := beq_arr a b
theorem eqV_ok {K : PySem.W.Frag} {o : Om} {H : Hp} {v w : V} {x y : D} (rx : Rep K o H v x) (ry : Rep K o H w y) (hx : x.flt = true) (hy : y.flt = true) : eqV v w = D.eq x y := by
  cases rx <;> first | (cases hx; done) | skip
  all_goals (cases ry <;> first | (cases hy; done) | rfl | exact beq_arr _ _)
theorem inV_ok {K : PySem.W.Frag} {o : Om} {H : Hp} {v : V} {x : D} (rx : Rep K o H v x) (hx : x.flt = true) : ∀ {vs : List V} {ds : List D}, RepL K o H vs ds → ds.all D.flt = true → inV v vs = inD x ds
  | _, _, .nil, _ => rfl
  | _, _, .cons a r, h => by
    rw [List.all_cons, Bool.and_eq_true] at h
    unfold inV inD
    rw [List.any_cons, List.any_cons, eqV_ok a rx h.1 hx]
    have := inV_ok rx hx r h.2
    unfold inV inD at this
    rw [this]
theorem items_ok {K : PySem.W.Frag} {o : Om} {H : Hp} {w : V} {y : D} {ys : List D} (ry : Rep K o H w y) (e : y.items = some ys) : ∃ p vs, w = .ref p ∧ (SqL K H p vs ∨ SqT K H p vs) ∧ RepL K o H vs ys := by
  cases ry with
  | tup h r => cases e; exact ⟨_, _, rfl, .inr h, r⟩
  | lst h _ r => cases e; exact ⟨_, _, rfl, .inl (.of h), r⟩
  | _ => cases e
theorem os_in : OpS X ct (compareOp .In) opIn := OpR.imp op_in_seq fun v w H Q ⟨o, S, x, y, z, sr, rx, ry, e, q⟩ => by
  unfold opIn at e
  split at e
  · rename_i ys ey
    split at e
    · rename_i h
      cases e
      obtain ⟨p, vs, rfl, hq, r⟩ := items_ok ry ey
      exact ⟨p, vs, rfl, hq, flt_ok rx h.1, flts_ok r h.2, fun _ => by
        show Q (.bl (inV v vs)) H
        rw [inV_ok rx h.1 r h.2]
        exact q o _ H .refl sr (.bl _)⟩
    · cases e
  · cases e
theorem os_notIn : OpS X ct (compareOp .NotIn) opNotIn := OpR.imp op_notIn_seq fun v w H Q ⟨o, S, x, y, z, sr, rx, ry, e, q⟩ => by
  unfold opNotIn at e
  split at e
  · rename_i ys ey
    split at e
    · rename_i h
      cases e
      obtain ⟨p, vs, rfl, hq, r⟩ := items_ok ry ey
      exact ⟨p, vs, rfl, hq, flt_ok rx h.1, flts_ok r h.2, fun _ => by
        show Q (.bl (!inV v vs)) H
        rw [inV_ok rx h.1 r h.2]
        exact q o _ H .refl sr (.bl _)⟩
    · cases e
  · cases e
end
end DL

end
section
set_option maxRecDepth 100000
set_option maxHeartbeats 2000000
/-! The data layer: subscripts, slices, built-ins. -/
namespace DL
open PySem PySem.Spec PyProof.Rows L2

/-! ### places -/
def opIx : D → D → Option D
  | .tup xs, .int i => atI xs i
  | .lst xs, .int i => atI xs i
  | .scr ns, .int i => (atI ns i).map D.int
  | .str s, .int i => if s.length ≤ 16777216 then (atI s i).map fun c => .str [c] else none
  | _, _ => none
theorem RepL.atI {K : PySem.W.Frag} {o : Om} {H : Hp} {vs : List V} {ds : List D} {i : Int} {d : D} (h : RepL K o H vs ds) (e : L2.atI ds i = some d) : ∃ v, L2.atI vs i = some v ∧ Rep K o H v d := by
  unfold L2.atI at e ⊢
  rw [h.length]
  cases e2 : ixN ds.length i with
  | none => rw [e2] at e; cases e
  | some j =>
    rw [e2] at e
    exact h.get e
theorem atI_map {α β : Type} (f : α → β) (xs : List α) (i : Int) : L2.atI (xs.map f) i = (L2.atI xs i).map f := by
  unfold L2.atI
  rw [List.length_map]
  cases ixN xs.length i with
  | none => rfl
  | some j => simp
section
variable {X : Cx} {ct : CT} {W : Wish} {pos : Pos} {a b c : Expr} {ta tb tc : Ex}
theorem IxR.imp {r r' : R2} (h : IxR X r) (k : ∀ x y H Q, r' x y H Q → r x y H fun v H' => KF X.K H' → Q v H') : IxR X r' :=
  fun value slice pins s σ H x y v u Q I rx ry q hs => wpAny_mono (h value slice pins s σ H x y v u _ I rx ry (k x y H Q q) hs) (fun _ _ ⟨v, H', I', r, q⟩ => ⟨v, H', I', r, q (kf_of I')⟩) fun _ _ z => z
/-- a[b] -/
def eix (a b : Ex) : Ex := fun G S => (a G S).bind fun x S1 => (b G S1).bind fun y S2 => match opIx (deref S2 x) y with
  | some z => .ok z S2
  | none => .bad
def rIx (K : PySem.W.Frag) (ct : CT) : R2 := fun v w H Q => ∃ o S x y z, SRel K ct o S H ∧ Rep K o H v x ∧ Rep K o H w y ∧ opIx (deref S x) y = some z ∧ After K ct o H Q z S
theorem ixs_ok : IxR X (rIx X.K ct) := IxR.imp ix_seq fun v w H Q ⟨o, S, x, y, z, sr, rx, ry, e, q⟩ => by
  cases ry with
  | int i =>
    cases rx with
    | tup h r =>
      obtain ⟨u, e1, r1⟩ := r.atI e
      exact .inr (.inl ⟨_, _, i, u, rfl, rfl, h, e1, fun _ => q o _ H .refl sr r1⟩)
    | lst h _ r =>
      obtain ⟨u, e1, r1⟩ := r.atI e
      exact .inl ⟨_, _, i, u, rfl, rfl, .of h, e1, fun _ => q o _ H .refl sr r1⟩
    | fl h =>
      obtain ⟨c, ds, vs, _, _, h1, h2, h3⟩ := sr.fl h
      rw [h3] at e
      obtain ⟨u, e1, r1⟩ := h2.atI e
      exact .inl ⟨_, _, i, u, rfl, rfl, .of h1, e1, fun _ => q o _ H .refl sr r1⟩
    | @scr a ns h nb =>
      have e : (L2.atI ns i).map D.int = some z := e
      obtain ⟨n, e1, e2⟩ := Option.map_eq_some_iff.mp e
      subst e2
      exact .inl ⟨_, _, i, .int n, rfl, rfl, h, by rw [atI_map, e1]; rfl, fun _ => q o _ H .refl sr (.int n)⟩
    | str s =>
      have e : (if s.length ≤ 16777216 then (L2.atI s i).map (fun c => D.str [c]) else none) = some z := e
      by_cases hz : s.length ≤ 16777216
      · rw [if_pos hz] at e
        obtain ⟨n, e1, e2⟩ := Option.map_eq_some_iff.mp e
        subst e2
        exact .inr (.inr ⟨_, i, n, rfl, rfl, by rw [str_len, sizeLine_eq]; exact hz, by simpa using e1, fun _ => q o _ H .refl sr (.str [n])⟩)
      · rw [if_neg hz] at e; cases e
    | _ => cases e
  | _ => exact absurd e (by cases deref S x <;> simp [opIx])
theorem tD_ix {K : PySem.W.Frag} {σ : L2.St} {H : Hp} {Q : VK} (h : tD K ct W (eix ta tb) σ H Q) : tOp (rIx K ct) (tD K ct W ta) (tD K ct W tb) σ H Q := by
  obtain ⟨o, G, S, er, h⟩ := h
  refine go er h fun o1 S1 H1 v x x1 er1 rx h1 => go er1 h1 fun o2 S2 H2 w y x2 er2 ry h2 => ?_
  cases e : opIx (deref S2 x) y with
  | none => rw [e] at h2; exact h2.elim
  | some z =>
    rw [e] at h2
    exact ⟨o2, S2, x, y, z, er2.s, x2.rep er1.s rx, ry, e, h2⟩
theorem pd_ix (ha : PD X ct W a ta) (hb : PD X ct W b tb) (hs : PlainIx b) : PD X ct W (.Subscript a b pos) (eix ta tb) := PE.wk (pe_ix ixs_ok ha hb hs) fun _ _ _ h => tD_ix h

/-! ### slices -/
abbrev Ox := Env → Store → R (Option Int)
def AfterO (K : PySem.W.Frag) (ct : CT) (o : Om) (H : Hp) (Q : Option Int → Hp → Prop) (b : Option Int) (S' : Store) : Prop := ∀ o' H', Ext K o o' H H' → SRel K ct o' S' H' → Q b H'
def tDo (K : PySem.W.Frag) (ct : CT) (W : Wish) (t : Ox) : TO := fun σ H Q => ∃ o G S, ERel K ct o G S σ H ∧ Res K ct W o H (t G S) (AfterO K ct o H Q)
def PDo (X : Cx) (ct : CT) (W : Wish) (e : Option Expr) (t : Ox) : Prop := PO X e (tDo X.K ct W t)
theorem PO.wk {e : Option Expr} {t t' : TO} (h : PO X e t) (k : ∀ σ H Q, t' σ H Q → t σ H Q) : PO X e t' := ⟨fun pins s σ H Q I w => h.run pins s σ H Q I (k σ H Q w)⟩
def onone : Ox := fun _ S => .ok none S
def osome (t : Ex) : Ox := fun G S => (t G S).bind fun x S1 => match x with
  | .int i => .ok (some i) S1
  | _ => .bad
theorem pdo_none : PDo X ct W none onone := PO.wk po_none fun σ H Q ⟨o, G, S, er, h⟩ => h o H .refl er.s
theorem pdo_some (ha : PD X ct W a ta) : PDo X ct W (some a) (osome ta) := PO.wk (po_some ha) fun σ H Q ⟨o, G, S, er, h⟩ => by
  refine ⟨o, G, S, er, Res.then h fun d S1 h' o1 v H1 x1 s1 r1 => ?_⟩
  cases r1 with
  | int i => exact ⟨i, rfl, h' o1 H1 x1 s1⟩
  | _ => exact h'.elim
/-- xs[lo:hi] -/
def cutL {α : Type} (xs : List α) (lo hi : Option Int) : List α := (xs.drop (HT.sIx xs.length 0 lo)).take (HT.sIx xs.length xs.length hi - HT.sIx xs.length 0 lo)
def D.cut (lo hi : Option Int) : D → Option D
  | .tup xs => some (.tup (cutL xs lo hi))
  | .lst xs => some (.lst (cutL xs lo hi))
  | .str s => if s.length ≤ 16777216 then some (.str (cutL s lo hi)) else none
  | _ => none
def ecut (a : Ex) (lo hi : Ox) : Ex := fun G S => (a G S).bind fun x S1 => (lo G S1).bind fun l S2 => (hi G S2).bind fun h S3 => match x.cut l h with
  | some z => .ok z S3
  | none => .bad
theorem RepL.cut {K : PySem.W.Frag} {o : Om} {H : Hp} {vs : List V} {ds : List D} (h : RepL K o H vs ds) (lo hi : Option Int) : RepL K o H (cutV vs lo hi) (cutL ds lo hi) := by
  unfold cutV cutL
  rw [h.length]
  exact (h.drop _).take _
theorem goO {K : PySem.W.Frag} {σ : L2.St} {H : Hp} {o : Om} {G : Env} {S : Store} {t : Ox} {f : Option Int → Store → R D} {Q : VK} {R : Option Int → Hp → Prop} (er : ERel K ct o G S σ H) (h : Res K ct W o H ((t G S).bind f) (After K ct o H Q))
    (k : ∀ o1 S1 H1 d, Ext K o o1 H H1 → ERel K ct o1 G S1 σ H1 → Res K ct W o1 H1 (f d S1) (After K ct o1 H1 Q) → R d H1) : tDo K ct W t σ H R :=
  ⟨o, G, S, er, h.then fun d S1 h' o1 H1 x1 s1 => k o1 S1 H1 d x1 (er.ext x1 s1) (h'.later x1 fun _ _ z => z.later x1)⟩
theorem SlR.imp {r r' : V → Option Int → Option Int → Hp → VK → Prop} (h : SlR X r) (k : ∀ x lo hi H Q, r' x lo hi H Q → r x lo hi H fun v H' => KF X.K H' → Q v H') : SlR X r' :=
  fun pins s σ H x v vl vu lo hi sl Q I rx hs pl pu q => by
    obtain ⟨T, id, a1, a2, a3⟩ := h pins s σ H x v vl vu lo hi sl _ I rx hs pl pu (k x lo hi H Q q)
    exact ⟨T, id, a1, a2, wpAny_mono a3 (fun _ _ ⟨v, H', I', r, q⟩ => ⟨v, H', I', r, q (kf_of I')⟩) fun _ _ z => z⟩
def cutOf (K : PySem.W.Frag) (ct : CT) : V → Option Int → Option Int → Hp → VK → Prop := fun v lo hi H Q => ∃ o S x z, SRel K ct o S H ∧ Rep K o H v x ∧ x.cut lo hi = some z ∧ After K ct o H Q z S
theorem sl_ok : SlR X (cutOf X.K ct) := SlR.imp (SlR.or sl_list (SlR.or sl_tupA sl_str)) fun v lo hi H Q ⟨o, S, x, z, sr, rx, e, q⟩ => by
  cases rx with
  | @tup a vs ds h r =>
    cases e
    refine .inr (.inl ⟨_, _, rfl, h, fun hw _ => ?_, fun _ p hp kf => new_tup sr hp kf (r.cut lo hi) q⟩)
    have e : cutL ds lo hi = ds := by
      unfold cutL
      rw [← r.length, hw.1, hw.2, r.length]
      simp
    rw [e] at q
    exact q o _ H .refl sr (.tup h r)
  | lst h _ r =>
    cases e
    exact .inl ⟨_, _, rfl, .of h, fun p hp kf => new_lst sr hp kf (r.cut lo hi) q⟩
  | str s =>
    have e : (if s.length ≤ 16777216 then some (D.str (cutL s lo hi)) else none) = some z := e
    by_cases hz : s.length ≤ 16777216
    · rw [if_pos hz] at e
      cases e
      refine .inr (.inr ⟨_, rfl, by rw [str_len, sizeLine_eq]; exact hz, fun _ => ?_⟩)
      have e : cutS ⟨s.toArray⟩ lo hi = ⟨(cutL s lo hi).toArray⟩ := by
        unfold cutS cutL
        rw [str_len]
      rw [e]
      exact q o _ H .refl sr (.str _)
    · rw [if_neg hz] at e; cases e
  | _ => cases e
theorem pd_cut {lo hi : Option Expr} {tl th : Ox} {p2 : Pos} (ha : PD X ct W a ta) (hl : PDo X ct W lo tl) (hh : PDo X ct W hi th) : PD X ct W (.Subscript a (.Slice lo hi none p2) pos) (ecut ta tl th) :=
  PE.wk (pe_slice sl_ok ha hl hh) fun σ H Q ⟨o, G, S, er, h⟩ => go er h fun o1 S1 H1 v x x1 er1 rx h1 => goO er1 h1 fun o2 S2 H2 l x2 er2 h2 => goO er2 h2 fun o3 S3 H3 u x3 er3 h3 => by
    cases e : x.cut l u with
    | none => rw [e] at h3; exact h3.elim
    | some z =>
      rw [e] at h3
      exact ⟨o3, S3, x, z, er3.s, x3.rep er2.s (x2.rep er1.s rx), e, h3⟩

/-! ### built-ins by name -/
def cOf (K : PySem.W.Frag) (ct : CT) (f : List D → Option D) : List V → Hp → VK → Prop := fun vs H Q => ∃ o S ds z, SRel K ct o S H ∧ RepL K o H vs ds ∧ f ds = some z ∧ After K ct o H Q z S
def CallS (X : Cx) (ct : CT) (F : Value) (f : List D → Option D) : Prop := CallR X F (cOf X.K ct f)
def ecal (f : List D → Option D) (t : Exs) : Ex := fun G S => (t G S).bind fun xs S1 => match f xs with
  | some z => .ok z S1
  | none => .bad
variable {x : Str} {p : Pos} {es : List Expr} {tes : Exs} {id T : String} {f : List D → Option D}
theorem tD_cal {K : PySem.W.Frag} {σ : L2.St} {H : Hp} {Q : VK} (h : tD K ct W (ecal f tes) σ H Q) : tCB (cOf K ct f) (tDs K ct W tes) σ H Q := by
  obtain ⟨o, G, S, er, h⟩ := h
  refine goA er h fun o1 S1 H1 v d x1 er1 r1 h1 => ?_
  cases e : f d with
  | none => rw [e] at h1; exact h1.elim
  | some z =>
    rw [e] at h1
    exact ⟨o1, S1, d, z, er1.s, r1, e, h1⟩
theorem pd_callB (hc : CallS X ct (.builtin id) f) (hg : Gl X x) (hm : X.mg x = none) (hv : bootBuiltins x = some (.builtin id)) (ha : PDs X ct W (a :: es) tes) (hn : x ≠ "__name__" := by decide) (hdb : (x == ("__debug__" : Str)) = false := by decide)
    (he : starEach (a :: es) X.env = (false, eval a X.env) :: starEach es X.env := by rfl) (hpl : (backTo pos (starEach es X.env)).any (·.1) = false := by rfl) : PD X ct W (.Call (.Name x p) (a :: es) [] pos) (ecal f tes) :=
  PE.wk (pe_callB hc hg hm hv ha hn hdb he hpl) fun _ _ _ h => tD_cal h
theorem pd_callT (hc : CallS X ct (.type T) f) (hg : Gl X x) (hm : X.mg x = none) (hv : bootBuiltins x = some (.type T)) (ha : PDs X ct W (a :: es) tes) (hn : x ≠ "__name__" := by decide) (hdb : (x == ("__debug__" : Str)) = false := by decide)
    (he : starEach (a :: es) X.env = (false, eval a X.env) :: starEach es X.env := by rfl) (hpl : (backTo pos (starEach es X.env)).any (·.1) = false := by rfl) : PD X ct W (.Call (.Name x p) (a :: es) [] pos) (ecal f tes) :=
  PE.wk (pe_callTy hc hg hm hv ha hn hdb he hpl) fun _ _ _ h => tD_cal h
theorem CallR.kf {F : Value} {r : List V → Hp → VK → Prop} (h : CallR X F r) : CallR X F (fun xs H Q => r xs H fun v H' => KF X.K H' → Q v H') := CallR.imp h fun _ _ _ q => q
theorem RepL.one {K : PySem.W.Frag} {o : Om} {H : Hp} {vs : List V} {d : D} (h : RepL K o H vs [d]) : ∃ v, vs = [v] ∧ Rep K o H v d := by
  cases h with
  | cons a r => cases r; exact ⟨_, rfl, a⟩
theorem RepL.two {K : PySem.W.Frag} {o : Om} {H : Hp} {vs : List V} {d e : D} (h : RepL K o H vs [d, e]) : ∃ v w, vs = [v, w] ∧ Rep K o H v d ∧ Rep K o H w e := by
  cases h with
  | cons a r =>
    cases r with
    | cons b r => cases r; exact ⟨_, _, rfl, a, b⟩
def fLen : List D → Option D
  | [.str s] => if s.length ≤ 16777216 then some (.int s.length) else none
  | [.tup xs] => some (.int xs.length)
  | [.lst xs] => some (.int xs.length)
  | [.scr xs] => some (.int xs.length)
  | _ => none
theorem cs_len : CallS X ct (.builtin "len") fLen := CallR.imp call_len fun vs H Q ⟨o, S, ds, z, sr, rx, e, q⟩ => by
  unfold fLen at e
  split at e
  · rename_i s
    split at e
    · rename_i hz
      cases e
      obtain ⟨v, rfl, r⟩ := rx.one
      cases r
      exact ⟨_, s.length, rfl, ⟨by rw [str_len, sizeLine_eq]; exact hz, (str_len s).symm⟩, fun _ => q o _ H .refl sr (.int _)⟩
    · cases e
  · rename_i xs
    cases e
    obtain ⟨v, rfl, r⟩ := rx.one
    cases r with
    | tup h r => exact ⟨_, xs.length, rfl, .inr ⟨_, h, r.length.symm⟩, fun _ => q o _ H .refl sr (.int _)⟩
  · rename_i xs
    cases e
    obtain ⟨v, rfl, r⟩ := rx.one
    cases r with
    | lst h _ r => exact ⟨_, xs.length, rfl, .inl ⟨_, .of h, r.length.symm⟩, fun _ => q o _ H .refl sr (.int _)⟩
  · rename_i xs
    cases e
    obtain ⟨v, rfl, r⟩ := rx.one
    cases r with
    | scr h _ => exact ⟨_, xs.length, rfl, .inl ⟨_, h, by rw [List.length_map]⟩, fun _ => q o _ H .refl sr (.int _)⟩
  · cases e
/-- len(a) -/
def elen (a : Ex) : Ex := fun G S => (a G S).bind fun x S1 => match fLen [deref S1 x] with
  | some z => .ok z S1
  | none => .bad
theorem pd_len (hg : Gl X "len") (hm : X.mg "len" = none) (ha : PD X ct W a ta) (he : starEach [a] X.env = (false, eval a X.env) :: starEach [] X.env := by rfl) : PD X ct W (.Call (.Name "len" p) [a] [] pos) (elen ta) :=
  PE.imp (pe_callB call_len hg hm (by decide +kernel) (pa_cons ha pa_nil he) (by decide) (by decide) he (by rfl)) fun σ H Q ⟨o, G, S, er, h⟩ => go er h fun o1 S1 H1 v d x1 er1 r1 h1 => by
    cases e : fLen [deref S1 d] with
    | none => rw [e] at h1; exact h1.elim
    | some z =>
      rw [e] at h1
      cases r1 with
      | str s =>
        have e : (if s.length ≤ 16777216 then some (D.int s.length) else none) = some z := e
        by_cases hz : s.length ≤ 16777216
        · rw [if_pos hz] at e
          cases e
          exact ⟨_, s.length, rfl, ⟨by rw [str_len, sizeLine_eq]; exact hz, (str_len s).symm⟩, fun _ => h1 o1 _ H1 .refl er1.s (.int _)⟩
        · rw [if_neg hz] at e; cases e
      | @tup _ _ xs h r => cases e; exact ⟨_, xs.length, rfl, .inr ⟨_, h, r.length.symm⟩, fun _ => h1 o1 _ H1 .refl er1.s (.int _)⟩
      | @lst _ _ xs h _ r => cases e; exact ⟨_, xs.length, rfl, .inl ⟨_, .of h, r.length.symm⟩, fun _ => h1 o1 _ H1 .refl er1.s (.int _)⟩
      | @scr _ xs h _ => cases e; exact ⟨_, xs.length, rfl, .inl ⟨_, h, by rw [List.length_map]⟩, fun _ => h1 o1 _ H1 .refl er1.s (.int _)⟩
      | fl h =>
        obtain ⟨c, ds, vs, _, _, q1, q2, q3⟩ := er1.s.fl h
        rw [q3] at e
        cases e
        exact ⟨_, ds.length, rfl, .inl ⟨_, .of q1, q2.length.symm⟩, fun _ => h1 o1 _ H1 .refl er1.s (.int _)⟩
      | _ => cases e
def fAbs : List D → Option D
  | [.int i] => some (.int (if i < 0 then -i else i))
  | _ => none
theorem cs_abs : CallS X ct (.builtin "abs") fAbs := CallR.imp call_abs fun vs H Q ⟨o, S, ds, z, sr, rx, e, q⟩ => by
  unfold fAbs at e
  split at e
  · cases e
    obtain ⟨v, rfl, r⟩ := rx.one
    cases r
    exact ⟨_, rfl, fun _ => q o _ H .refl sr (.int _)⟩
  · cases e
def fMax2 : List D → Option D
  | [.int i, .int j] => some (.int (if j > i then j else i))
  | _ => none
def fMin2 : List D → Option D
  | [.int i, .int j] => some (.int (if j < i then j else i))
  | _ => none
theorem cs_max2 (hc : X.calm = true) : CallS X ct (.builtin "max") fMax2 := CallR.imp (call_max2 hc) fun vs H Q ⟨o, S, ds, z, sr, rx, e, q⟩ => by
  unfold fMax2 at e
  split at e
  · cases e
    obtain ⟨v, w, rfl, r1, r2⟩ := rx.two
    cases r1
    cases r2
    exact ⟨_, _, rfl, fun _ => q o _ H .refl sr (.int _)⟩
  · cases e
theorem cs_min2 (hc : X.calm = true) : CallS X ct (.builtin "min") fMin2 := CallR.imp (call_min2 hc) fun vs H Q ⟨o, S, ds, z, sr, rx, e, q⟩ => by
  unfold fMin2 at e
  split at e
  · cases e
    obtain ⟨v, w, rfl, r1, r2⟩ := rx.two
    cases r1
    cases r2
    exact ⟨_, _, rfl, fun _ => q o _ H .refl sr (.int _)⟩
  · cases e
def fInt1 : List D → Option D
  | [.int i] => some (.int i)
  | [.bl k] => some (.int (if k then 1 else 0))
  | _ => none
theorem cs_int1 : CallS X ct (.type "int") fInt1 := CallR.imp call_int1 fun vs H Q ⟨o, S, ds, z, sr, rx, e, q⟩ => by
  unfold fInt1 at e
  split at e
  · cases e
    obtain ⟨v, rfl, r⟩ := rx.one
    cases r
    exact .inl ⟨_, rfl, fun _ => q o _ H .refl sr (.int _)⟩
  · cases e
    obtain ⟨v, rfl, r⟩ := rx.one
    cases r
    exact .inr ⟨_, rfl, fun _ => q o _ H .refl sr (.int _)⟩
  · cases e
def D.ints : List D → Option (List Int)
  | [] => some []
  | .int i :: r => (D.ints r).map (i :: ·)
  | _ => none
def D.bls : List D → Option (List Bool)
  | [] => some []
  | .bl i :: r => (D.bls r).map (i :: ·)
  | _ => none
def D.strs : List D → Option (List (List Nat))
  | [] => some []
  | .str i :: r => (D.strs r).map (i :: ·)
  | _ => none
theorem D.ints_eq : ∀ {ds : List D} {ns : List Int}, D.ints ds = some ns → ds = ns.map D.int
  | [], ns, h => by cases h; rfl
  | d :: r, ns, h => by
    cases d with
    | int i =>
      have h : (D.ints r).map (i :: ·) = some ns := h
      obtain ⟨m, h1, h2⟩ := Option.map_eq_some_iff.mp h
      subst h2
      rw [List.map_cons, ← D.ints_eq h1]
    | _ => cases h
theorem D.ints_map : ∀ (ns : List Int), D.ints (ns.map D.int) = some ns
  | [] => rfl
  | n :: r => by
    show (D.ints (r.map D.int)).map (n :: ·) = _
    rw [D.ints_map r] <;> rfl
theorem D.bls_eq : ∀ {ds : List D} {ns : List Bool}, D.bls ds = some ns → ds = ns.map D.bl
  | [], ns, h => by cases h; rfl
  | d :: r, ns, h => by
    cases d with
    | bl i =>
      have h : (D.bls r).map (i :: ·) = some ns := h
      obtain ⟨m, h1, h2⟩ := Option.map_eq_some_iff.mp h
      subst h2
      rw [List.map_cons, ← D.bls_eq h1]
    | _ => cases h
theorem D.bls_map : ∀ (ns : List Bool), D.bls (ns.map D.bl) = some ns
  | [] => rfl
  | n :: r => by
    show (D.bls (r.map D.bl)).map (n :: ·) = _
    rw [D.bls_map r] <;> rfl
theorem D.strs_eq : ∀ {ds : List D} {ns : List (List Nat)}, D.strs ds = some ns → ds = ns.map D.str
  | [], ns, h => by cases h; rfl
  | d :: r, ns, h => by
    cases d with
    | str i =>
      have h : (D.strs r).map (i :: ·) = some ns := h
      obtain ⟨m, h1, h2⟩ := Option.map_eq_some_iff.mp h
      subst h2
      rw [List.map_cons, ← D.strs_eq h1]
    | _ => cases h
theorem D.strs_map : ∀ (ns : List (List Nat)), D.strs (ns.map D.str) = some ns
  | [] => rfl
  | n :: r => by
    show (D.strs (r.map D.str)).map (n :: ·) = _
    rw [D.strs_map r] <;> rfl
theorem RepL.bls {K : PySem.W.Frag} {o : Om} {H : Hp} : ∀ {vs : List V} {ns : List Bool}, RepL K o H vs (ns.map D.bl) → vs = ns.map V.bl
  | vs, [], h => by cases h; rfl
  | vs, n :: ns, h => by
    cases h with
    | cons a b => cases a; rw [List.map_cons, RepL.bls b]
theorem RepL.strs {K : PySem.W.Frag} {o : Om} {H : Hp} : ∀ {vs : List V} {ns : List (List Nat)}, RepL K o H vs (ns.map D.str) → vs = ns.map fun s => V.str ⟨s.toArray⟩
  | vs, [], h => by cases h; rfl
  | vs, n :: ns, h => by
    cases h with
    | cons a b => cases a; rw [List.map_cons, RepL.strs b]
def fSum : List D → Option D
  | [.lst xs] => (D.ints xs).map fun ns => .int ns.sum
  | [.tup xs] => (D.ints xs).map fun ns => .int ns.sum
  | _ => none
theorem sum_tup {prog : Program} {w : World} {A : Around} {E : Value → Shared → Prop} {s : Shared} {t : Addr} {its : List Value} {ns : List Int} {Q : Value → Shared → Prop} (hh : A.handled = none) (ht : s.heap.IsTuple t its.toArray) (hi : IntsAre its ns)
    (h : ∀ h' tk t', (∀ b o, s.heap.get? b = some o → h'.get? b = some o) → Q (.int ns.sum t') { s with heap := h', toks := tk }) : wpAny (model prog w) A (call (.builtin "sum") [.ref t]) Q E s := by
  obtain ⟨xs, e⟩ := hi.allInts.items
  have hn : numsOf (intItems xs).toList = ns := by rw [← e]; exact hi.numsOf
  rw [nums_intItems] at hn
  rw [e] at ht
  refine PySem.W.ktm_sumG hh ht fun h' tk t' hk => ?_
  have := h h' tk t' hk
  rw [preSum_eq, List.take_of_length_le (by simp), hn]; exact this
theorem cr_sumT (hc : X.calm = true) : CallR X (.builtin "sum") (fun vs H Q => ∃ (a : Addr) (ns : List Int), vs = [V.ref a] ∧ SqT X.K H a (ns.map V.int) ∧ Q (.int ns.sum) H) := by
  intro pins s σ H vs us Q I r h
  obtain ⟨a, ns, rfl, hs, q⟩ := h
  obtain ⟨its, rv, hl, _⟩ := I.tuple hs
  rw [Vals.ref1 r]
  exact sum_tup (I.ok.hd hc) hl rv.ints fun h' tk t' hk => ⟨.int ns.sum, H, I.kept hk, ⟨_, rfl⟩, q⟩
theorem cs_sum (hc : X.calm = true) : CallS X ct (.builtin "sum") fSum := CallR.imp (CallR.or (cr_sum hc) (cr_sumT hc)) fun vs H Q ⟨o, S, ds, z, sr, rx, e, q⟩ => by
  unfold fSum at e
  split at e
  · obtain ⟨ns, e1, e2⟩ := Option.map_eq_some_iff.mp e
    subst e2
    obtain ⟨v, rfl, r⟩ := rx.one
    cases r with
    | lst h _ r =>
      rw [D.ints_eq e1] at r
      rw [r.ints] at h
      exact .inl ⟨_, ns, rfl, .of h, fun _ => q o _ H .refl sr (.int _)⟩
  · obtain ⟨ns, e1, e2⟩ := Option.map_eq_some_iff.mp e
    subst e2
    obtain ⟨v, rfl, r⟩ := rx.one
    cases r with
    | tup h r =>
      rw [D.ints_eq e1] at r
      rw [r.ints] at h
      exact .inr ⟨_, ns, rfl, h, fun _ => q o _ H .refl sr (.int _)⟩
  · cases e
def fAll : List D → Option D
  | [.lst xs] => (D.bls xs).map fun ns => .bl (ns.all fun b => b)
  | _ => none
def fAny : List D → Option D
  | [.lst xs] => (D.bls xs).map fun ns => .bl (ns.any fun b => b)
  | _ => none
theorem cs_all (hc : X.calm = true) : CallS X ct (.builtin "all") fAll := CallR.imp (cr_all hc) fun vs H Q ⟨o, S, ds, z, sr, rx, e, q⟩ => by
  unfold fAll at e
  split at e
  · obtain ⟨ns, e1, e2⟩ := Option.map_eq_some_iff.mp e
    subst e2
    obtain ⟨v, rfl, r⟩ := rx.one
    cases r with
    | lst h _ r =>
      rw [D.bls_eq e1] at r
      rw [r.bls] at h
      exact ⟨_, ns, rfl, .of h, fun _ => q o _ H .refl sr (.bl _)⟩
  · cases e
theorem cs_any (hc : X.calm = true) : CallS X ct (.builtin "any") fAny := CallR.imp (cr_any hc) fun vs H Q ⟨o, S, ds, z, sr, rx, e, q⟩ => by
  unfold fAny at e
  split at e
  · obtain ⟨ns, e1, e2⟩ := Option.map_eq_some_iff.mp e
    subst e2
    obtain ⟨v, rfl, r⟩ := rx.one
    cases r with
    | lst h _ r =>
      rw [D.bls_eq e1] at r
      rw [r.bls] at h
      exact ⟨_, ns, rfl, .of h, fun _ => q o _ H .refl sr (.bl _)⟩
  · cases e
def fTuple : List D → Option D
  | [.lst xs] => some (.tup xs)
  | [.tup xs] => some (.tup xs)
  | _ => none
theorem cs_tuple : CallS X ct (.type "tuple") fTuple := CallR.imp call_tuple_of fun vs H Q ⟨o, S, ds, z, sr, rx, e, q⟩ => by
  unfold fTuple at e
  split at e
  · cases e
    obtain ⟨v, rfl, r⟩ := rx.one
    cases r with
    | lst h _ r => exact ⟨_, _, rfl, .inl ⟨.of h, fun p hp kf => new_tup sr hp kf r q⟩⟩
  · cases e
    obtain ⟨v, rfl, r⟩ := rx.one
    cases r with
    | tup h r => exact ⟨_, _, rfl, .inr ⟨h, fun _ => q o _ H .refl sr (.tup h r)⟩⟩
  · cases e
def fList : List D → Option D
  | [.lst xs] => some (.lst xs)
  | [.tup xs] => some (.lst xs)
  | _ => none
theorem cs_list : CallS X ct (.type "list") fList := CallR.imp call_list_of fun vs H Q ⟨o, S, ds, z, sr, rx, e, q⟩ => by
  unfold fList at e
  split at e
  · cases e
    obtain ⟨v, rfl, r⟩ := rx.one
    cases r with
    | lst h _ r => exact ⟨_, _, rfl, .inl (.of h), fun p hp kf => new_lst sr hp kf r q⟩
  · cases e
    obtain ⟨v, rfl, r⟩ := rx.one
    cases r with
    | tup h r => exact ⟨_, _, rfl, .inr h, fun p hp kf => new_lst sr hp kf r q⟩
  · cases e

/-! ### isinstance of the built-in classes -/
inductive BT where
  | int | bool | str | tuple
def BT.nm : BT → String
  | .int => "int"
  | .bool => "bool"
  | .str => "str"
  | .tuple => "tuple"
def D.isT : D → BT → Option Bool
  | .non, _ => some false
  | .bl _, .int => some true
  | .bl _, .bool => some true
  | .bl _, _ => some false
  | .int _, .int => some true
  | .int _, _ => some false
  | .str _, .str => some true
  | .str _, _ => some false
  | .tup _, .tuple => some true
  | .tup _, _ => some false
  | .lst _, _ => some false
  | _, _ => none
def eisi (t : Ex) (T : BT) : Ex := fun G S => (t G S).bind fun x S1 => match x.isT T with
  | some b => .ok (.bl b) S1
  | none => .bad
theorem kit_all : (kitB "NoneType" "int" = some false ∧ kitB "NoneType" "bool" = some false ∧ kitB "NoneType" "str" = some false ∧ kitB "NoneType" "tuple" = some false) ∧
    (kitB "bool" "int" = some true ∧ kitB "bool" "bool" = some true ∧ kitB "bool" "str" = some false ∧ kitB "bool" "tuple" = some false) ∧
    (kitB "int" "int" = some true ∧ kitB "int" "bool" = some false ∧ kitB "int" "str" = some false ∧ kitB "int" "tuple" = some false) ∧
    (kitB "str" "int" = some false ∧ kitB "str" "bool" = some false ∧ kitB "str" "str" = some true ∧ kitB "str" "tuple" = some false) ∧
    (kitB "tuple" "int" = some false ∧ kitB "tuple" "bool" = some false ∧ kitB "tuple" "str" = some false ∧ kitB "tuple" "tuple" = some true) ∧
    (kitB "list" "int" = some false ∧ kitB "list" "bool" = some false ∧ kitB "list" "str" = some false ∧ kitB "list" "tuple" = some false) := by decide +kernel
theorem tyx_tup {K : PySem.W.Frag} {H : Hp} {a : Addr} {vs : List V} (h : SqT K H a vs) : TyX K H (.ref a) (.type "tuple") := by
  rcases h with (h | ⟨ob, h⟩) | ⟨ob, its, n, hk, hc, _⟩
  · exact .base (.tup h)
  · exact .fTuple h
  · exact .kTuple hk hc
theorem isT_ok {K : PySem.W.Frag} {o : Om} {H : Hp} {v : V} {d : D} {T : BT} {b : Bool} (r : Rep K o H v d) (e : d.isT T = some b) : ∃ n : String, TyX K H v (.type n) ∧ kitB n T.nm = some b := by
  obtain ⟨⟨a1, a2, a3, a4⟩, ⟨b1, b2, b3, b4⟩, ⟨c1, c2, c3, c4⟩, ⟨d1, d2, d3, d4⟩, ⟨e1, e2, e3, e4⟩, ⟨f1, f2, f3, f4⟩⟩ := kit_all
  cases r with
  | non => exact ⟨_, .base .non, by cases T <;> cases e <;> assumption⟩
  | bl k => exact ⟨_, .base (.bl k), by cases T <;> cases e <;> assumption⟩
  | int k => exact ⟨_, .base (.int k), by cases T <;> cases e <;> assumption⟩
  | str k => exact ⟨_, .base (.str _), by cases T <;> cases e <;> assumption⟩
  | tup h r => exact ⟨_, tyx_tup h, by cases T <;> cases e <;> assumption⟩
  | lst h _ r => exact ⟨_, .base (.lst h), by cases T <;> cases e <;> assumption⟩
  | obj _ => cases T <;> cases e
  | scr _ _ => cases T <;> cases e
  | fl _ => cases T <;> cases e
theorem pd_isi {T : BT} {y : Str} {p2 : Pos} (hg : Gl X "isinstance") (hm : X.mg "isinstance" = none) (ha : PD X ct W a ta) (hg2 : Gl X y) (hm2 : X.mg y = none) (hv2 : bootBuiltins y = some (.type T.nm)) (hn2 : y ≠ "__name__") (hd2 : (y == ("__debug__" : Str)) = false)
    (hv : bootBuiltins "isinstance" = some (.builtin "isinstance") := by decide +kernel) (hs : starEach [a, .Name y p2] X.env = (false, eval a X.env) :: starEach [.Name y p2] X.env := by rfl) :
    PD X ct W (.Call (.Name "isinstance" p) [a, .Name y p2] [] pos) (eisi ta T) :=
  PE.imp (pe_callB call_isi hg hm hv (pa_cons ha (pa_cons (pe_bltn (v := .ty T.nm) hg2 hm2 hv2 rfl hn2 hd2) pa_nil) hs) (by decide) (by decide) hs) fun σ H Q ⟨o, G, S, er, h⟩ => go er h fun o1 S1 H1 v d x1 er1 r1 h1 => by
    cases e : d.isT T with
    | none => rw [e] at h1; exact h1.elim
    | some b =>
      rw [e] at h1
      obtain ⟨n, ty, kb⟩ := isT_ok r1 e
      exact ⟨v, _, _, _, b, rfl, .ty _, ty, kit_ty kb, fun _ => h1 o1 _ H1 .refl er1.s (.bl b)⟩

/-! ### methods of texts, of ints -/
def mOf (K : PySem.W.Frag) (ct : CT) (f : D → List D → Option D) : V → List V → Hp → VK → Prop := fun v vs H Q => ∃ o S x ds z, SRel K ct o S H ∧ Rep K o H v x ∧ RepL K o H vs ds ∧ f x ds = some z ∧ After K ct o H Q z S
def ebits (t : Ex) : Ex := fun G S => (t G S).bind fun x S1 => match x with
  | .int i => .ok (.int (Builtin.Int.intBits i : Nat)) S1
  | _ => .bad
theorem pd_bits {apos : Pos} (ha : PD X ct W a ta) (hbase : attributeBase a "bit_length" X.env (eval a X.env) = eval a X.env := by rfl) (hline : (apos.endLine == pos.line) = true := by rfl) : PD X ct W (.Call (.Attribute a "bit_length" apos) [] [] pos) (ebits ta) :=
  PE.wk (pe_bits ha hbase hline) fun σ H Q ⟨o, G, S, er, h⟩ => go er h fun o1 S1 H1 v d x1 er1 r1 h1 => by
    cases r1 with
    | int i => exact ⟨i, rfl, h1 o1 _ H1 .refl er1.s (.int _)⟩
    | _ => exact h1.elim
/-- sep.join(xs) -/
def joinL (sep : List Nat) : List (List Nat) → List Nat
  | [] => []
  | [x] => x
  | x :: y :: r => x ++ sep ++ joinL sep (y :: r)
def ejoin (a b : Ex) : Ex := ebin (fun x y => match x, y.items with
  | .str s, some ys => match D.strs ys with
    | some ts => if (ts.map List.length).sum + ts.length * s.length ≤ 16777216 then some (.str (joinL s ts)) else none
    | none => none
  | _, _ => none) a b
end
end DL

end
section
set_option maxRecDepth 100000
set_option maxHeartbeats 2000000
/-! The data layer: calls of defs, fields, methods, new instances. -/
namespace DL
open PySem PySem.Spec PyProof.Rows L2

/-- a def's promise by a function of data (nothing is raised) -/
def spD (K : PySem.W.Frag) (ct : CT) (d : Fn) : Sp := fun vs H Q _ => ∃ o S ds, SRel K ct o S H ∧ RepL K o H vs ds ∧ match d ds S with
  | .ok z S' => After K ct o H Q z S'
  | _ => False
/-- the def at f does d -/
structure FA (P : Program) (w : World) (K : PySem.W.Frag) (mg : Str → Option Value) (base : Heap) (ct : CT) (k : Nat) (f : Addr) (d : Fn) : Prop where
  ex : ∃ (fd : FuncData) (ps : List Str), Binds K fd ps [] ∧ FnOk P w K mg base CX0 k f fd ps (spD K ct d) ∧ ∀ ds S z S', d ds S = .ok z S' → ds.length = ps.length
/-- at a call the written part is apart from what is tracked -/
theorem FnOk.kf {P : Program} {w : World} {K : PySem.W.Frag} {mg : Str → Option Value} {base : Heap} {CX : CXT} {k : Nat} {f : Addr} {fd : FuncData} {ps : List Str} {sp : Sp} (F : FnOk P w K mg base CX k f fd ps sp) :
    FnOk P w K mg base CX k f fd ps (fun vs H Q E => vs.length = ps.length ∧ (KF K H → sp vs H Q E)) := by
  refine ⟨fun _ _ _ _ h => h.1, fun A outer s H args us vs Q E hr e0 hb r h => F.run A outer s H args us vs Q E hr e0 hb r (h.2 fun b u hu => ?_)⟩
  cases e : K.lookup b with
  | none => rfl
  | some ob =>
    have := (e0.bs b ob (e0.mod.kin b ob e)).2
    rw [hu] at this; cases this
/-- the module's name x is a def that does d -/
structure FI (P : Program) (w : World) (K : PySem.W.Frag) (mg : Str → Option Value) (base : Heap) (ct : CT) (k : Nat) (x : Str) (d : Fn) : Prop where
  ex : ∃ f : Addr, mg x = some (.ref f) ∧ PySem.W.keepIn K (.ref f) = true ∧ FA P w K mg base ct k f d
def ecall (d : Fn) (t : Exs) : Ex := fun G S => (t G S).bind fun xs S1 => match d xs S1 with
  | .ok z S2 => .ok z S2
  | _ => .bad
abbrev XFI (X : Cx) (ct : CT) (k : Nat) (x : Str) (d : Fn) : Prop := FI X.prog X.w X.K X.mg X.base ct k x d
section
variable {X : Cx} {ct : CT} {W : Wish} {pos p apos : Pos} {a o : Expr} {es : List Expr} {ta to : Ex} {tes : Exs} {k j : Nat} {x : Str} {d : Fn}
theorem tD_call {K : PySem.W.Frag} {σ : L2.St} {H : Hp} {Q : VK} {E : XK} (h : tD K ct W (ecall d tes) σ H Q) : tCall (spD K ct d) [] E (tDs K ct W tes) σ H Q := by
  obtain ⟨o, G, S, er, h⟩ := h
  refine goA er h fun o1 S1 H1 v ds x1 er1 r1 h1 => ?_
  rw [List.append_nil]
  refine ⟨o1, S1, ds, er1.s, r1, ?_⟩
  cases e : d ds S1 with
  | ok z S2 => rw [e] at h1; exact h1
  | exc _ _ => rw [e] at h1; exact h1.elim
  | bad => rw [e] at h1; exact h1.elim
theorem pd_call (F : XFI X ct k x d) (hr : Room k X.A) (hg : Gl X x) (ha : PDs X ct W (a :: es) tes) (hdb : (x == ("__debug__" : Str)) = false := by decide)
    (he : starEach (a :: es) X.env = (false, eval a X.env) :: starEach es X.env := by rfl) (hpl : (backTo pos (starEach es X.env)).any (·.1) = false := by rfl) : PD X ct W (.Call (.Name x p) (a :: es) [] pos) (ecall d tes) := by
  obtain ⟨f, hm, kp, fd, ps, hb, hf, _⟩ := F.ex
  exact PE.wk (pe_call hf hr hg hm kp hb .nil pass0 ha hdb he hpl) fun _ _ _ h => tD_call h
theorem pd_call0 (F : XFI X ct k x d) (hr : Room k X.A) (hg : Gl X x) (hdb : (x == ("__debug__" : Str)) = false := by decide) : PD X ct W (.Call (.Name x p) [] [] pos) (ecall d enil) := by
  obtain ⟨f, hm, kp, fd, ps, hb, hf, _⟩ := F.ex
  exact PE.wk (pe_call0 hf hr hg hm kp hb .nil pass0 hdb) fun σ H Q ⟨o, G, S, er, h⟩ => by
    have h : Res X.K ct W o H (match d [] S with
      | .ok z S2 => .ok z S2
      | _ => .bad) (After X.K ct o H Q) := h
    refine ⟨o, S, [], er.s, .nil, ?_⟩
    cases e : d [] S with
    | ok z S2 => rw [e] at h; exact h
    | exc _ _ => rw [e] at h; exact h.elim
    | bad => rw [e] at h; exact h.elim

/-! ### fields -/
/-- the field j of an object of the class c -/
def fldOf (S : Store) (c j : Nat) : D → Option D
  | .obj k => match S[k]? with
    | some cell => if cell.cls = c then match cell.fs[j]? with
      | some (.val d) => some d
      | some (.own _) => some (.fl k j)
      | _ => none
      else none
    | none => none
  | _ => none
def efld (t : Ex) (c j : Nat) : Ex := fun G S => (t G S).bind fun x S1 => match fldOf S1 c j x with
  | some d => .ok d S1
  | none => .bad
theorem fld_ok {K : PySem.W.Frag} {o : Om} {S : Store} {H : Hp} {v : V} {x d : D} {c : Nat} {cd : CD} {f : Str} (sr : SRel K ct o S H) (r : Rep K o H v x) (hc : ct c = some cd) (hf : cd.fl[j]? = some f) (e : fldOf S c j x = some d) :
    ∃ a dx fs w, v = .ref a ∧ H a = some (.ins cd.C dx fs) ∧ fs.lookup f = some w ∧ Rep K o H w d := by
  cases r with
  | @obj k hk =>
    unfold fldOf at e
    dsimp only at e
    cases e1 : S[k]? with
    | none => rw [e1] at e; cases e
    | some cell =>
      rw [e1] at e
      have e : (if cell.cls = c then (match cell.fs[j]? with | some (.val d) => some d | some (.own _) => some (.fl k j) | _ => none) else none) = some d := e
      by_cases hcl : cell.cls = c
      · rw [if_pos hcl] at e
        obtain ⟨cd', dx, vfs, h1, h2, h3, h4, h5, h6⟩ := (sr.cell k cell e1).ex
        rw [hcl, hc] at h1
        cases h1
        cases e2 : cell.fs[j]? with
        | none => rw [e2] at e; cases e
        | some sl =>
          rw [e2] at e
          cases sl with
          | val d' =>
            cases e
            obtain ⟨_, w, q1, q2⟩ := h6 j f _ hf e2
            exact ⟨_, dx, vfs, w, rfl, h2, q1, q2⟩
          | own ds =>
            cases e
            obtain ⟨l, vs, q1, q2, _⟩ := h6 j f _ hf e2
            exact ⟨_, dx, vfs, _, rfl, h2, q2, .fl q1⟩
          | no => cases e
      · rw [if_neg hcl] at e; cases e
  | _ => cases e
theorem CDok.noF {K : PySem.W.Frag} {cd : CD} (h : CDok K cd) {f : Str} (hf : cd.fl[j]? = some f) : NoAttr K cd.C f := h.no f (List.mem_of_getElem? hf)
theorem pd_fld {c : Nat} {cd : CD} {f : Str} (ha : PD X ct W a ta) (hc : ct c = some cd) (hf : cd.fl[j]? = some f) (hb : attributeBase a f X.env (eval a X.env) = eval a X.env := by rfl) : PD X ct W (.Attribute a f pos) (efld ta c j) :=
  PE.imp (pe_fld ha hb) fun σ H Q ⟨o, G, S, er, h⟩ => go er h fun o1 S1 H1 v x x1 er1 r1 h1 => by
    cases e : fldOf S1 c j x with
    | none => rw [e] at h1; exact h1.elim
    | some d =>
      rw [e] at h1
      obtain ⟨a, dx, fs, w, q1, q2, q3, q4⟩ := fld_ok er1.s r1 hc hf e
      have ok := er1.s.cok c cd hc
      exact ⟨a, cd.C, dx, fs, w, q1, q2, ok.cl, ok.noF hf, q3, fun _ => h1 o1 w H1 .refl er1.s q4⟩

/-! ### methods -/
def clsOf (S : Store) : D → Option Nat
  | .obj k => match S[k]? with
    | some cell => some cell.cls
    | none => none
  | _ => none
/-- o.m(..), o of the class c: the def d -/
def emeth (t : Ex) (c : Nat) (d : Fn) (ts : Exs) : Ex := fun G S => (t G S).bind fun x S1 => if clsOf S1 x = some c then (ts G S1).bind fun xs S2 => match d (x :: xs) S2 with
  | .ok z S3 => .ok z S3
  | _ => .bad
  else .bad
theorem lookup_none_of {α : Type} {l : List (Str × α)} {m : Str} (h : m ∉ l.map (·.1)) : l.lookup m = none := by
  cases e : l.lookup m with
  | none => rfl
  | some v => exact absurd (List.mem_map.mpr ⟨(m, v), PySem.mem_of_lookup e, rfl⟩) h
theorem cls_ok {K : PySem.W.Frag} {o : Om} {S : Store} {H : Hp} {v : V} {x : D} {c : Nat} {cd : CD} (sr : SRel K ct o S H) (r : Rep K o H v x) (hc : ct c = some cd) (e : clsOf S x = some c) :
    ∃ a dx fs, v = .ref a ∧ H a = some (.ins cd.C dx fs) ∧ ∀ m, m ∉ cd.fl → fs.lookup m = none := by
  cases r with
  | @obj k hk =>
    unfold clsOf at e
    dsimp only at e
    cases e1 : S[k]? with
    | none => rw [e1] at e; cases e
    | some cell =>
      rw [e1] at e
      have e : some cell.cls = some c := e
      cases e
      obtain ⟨cd', dx, vfs, h1, h2, h3, h4, h5, h6⟩ := (sr.cell k cell e1).ex
      rw [hc] at h1
      cases h1
      exact ⟨_, dx, vfs, rfl, h2, fun m hm => lookup_none_of fun z => hm (h5 m z)⟩
  | _ => cases e
structure MI (P : Program) (w : World) (K : PySem.W.Frag) (mg : Str → Option Value) (base : Heap) (ct : CT) (k : Nat) (C : Addr) (m : Str) (d : Fn) : Prop where
  ex : ∃ f : Addr, Meth K C m f ∧ FA P w K mg base ct k f d
theorem tD_meth {K : PySem.W.Frag} {σ : L2.St} {H : Hp} {Q : VK} {E : XK} {c : Nat} {cd : CD} {m : Str} (hc : ct c = some cd) (hm : m ∉ cd.fl) (h : tD K ct W (emeth to c d tes) σ H Q) : tMeth cd.C m (spD K ct d) [] E (tD K ct W to) (tDs K ct W tes) σ H Q := by
  obtain ⟨o, G, S, er, h⟩ := h
  refine go er h fun o1 S1 H1 v x x1 er1 r1 h1 => ?_
  by_cases e : clsOf S1 x = some c
  · rw [if_pos e] at h1
    obtain ⟨a, dx, fs, q1, q2, q3⟩ := cls_ok er1.s r1 hc e
    refine ⟨a, dx, fs, q1, q2, q3 m hm, ?_⟩
    refine goA er1 h1 fun o2 S2 H2 vs ds x2 er2 r2 h2 => ?_
    rw [List.append_nil]
    refine ⟨o2, S2, x :: ds, er2.s, .cons (x2.rep er1.s r1) r2, ?_⟩
    cases e : d (x :: ds) S2 with
    | ok z S3 => rw [e] at h2; exact h2
    | exc _ _ => rw [e] at h2; exact h2.elim
    | bad => rw [e] at h2; exact h2.elim
  · rw [if_neg e] at h1; exact h1.elim
theorem pd_meth {pl : Sem Bool} {c : Nat} {cd : CD} {m : Str} (ho : PD X ct W o to) (hc : ct c = some cd) (ok : CDok X.K cd) (hm : m ∉ cd.fl) (M : MI X.prog X.w X.K X.mg X.base ct k cd.C m d) (hr : Room k X.A) (ha : PDs X ct W (a :: es) tes)
    (hst : starEach (a :: es) X.env = (false, eval a X.env) :: starEach es X.env := by rfl) (hpl : (backTo pos (starEach es X.env)).any (·.1) = false := by rfl)
    (ht : eval (.Call (.Attribute o m apos) (a :: es) [] pos) X.env = (do
      let ov ← eval o X.env
      standAt apos.atName
      let (f, first) ← holding [ov] (getMethod ov m pl)
      callWith pos f first (backTo pos (starEach (a :: es) X.env)) (backToKw pos (keywordEach [] X.env))) := by rfl) :
    PD X ct W (.Call (.Attribute o m apos) (a :: es) [] pos) (emeth to c d tes) := by
  obtain ⟨f, hM, fd, ps, hb, hf, _⟩ := M.ex
  exact PE.wk (pe_meth ho ok.cl hM hf hr hb .nil pass0 ha hst hpl ht) fun _ _ _ h => tD_meth hc hm h
theorem pd_meth0 {pl : Sem Bool} {c : Nat} {cd : CD} {m : Str} (ho : PD X ct W o to) (hc : ct c = some cd) (ok : CDok X.K cd) (hm : m ∉ cd.fl) (M : MI X.prog X.w X.K X.mg X.base ct k cd.C m d) (hr : Room k X.A)
    (ht : eval (.Call (.Attribute o m apos) [] [] pos) X.env = (do
      let ov ← eval o X.env
      standAt apos.atName
      let (f, first) ← holding [ov] (getMethod ov m pl)
      callWith pos f first (backTo pos (starEach [] X.env)) (backToKw pos (keywordEach [] X.env))) := by rfl) :
    PD X ct W (.Call (.Attribute o m apos) [] [] pos) (emeth to c d enil) := by
  obtain ⟨f, hM, fd, ps, hb, hf, _⟩ := M.ex
  refine PE.wk (pe_meth0 ho ok.cl hM hf hr hb .nil pass0 ht) fun σ H Q h => ?_
  obtain ⟨a, G, S, er, h⟩ := h
  refine go er h fun o1 S1 H1 v x x1 er1 r1 h1 => ?_
  by_cases e : clsOf S1 x = some c
  · rw [if_pos e] at h1
    obtain ⟨a, dx, fs, q1, q2, q3⟩ := cls_ok er1.s r1 hc e
    refine ⟨a, dx, fs, q1, q2, q3 m hm, ?_⟩
    refine ⟨o1, S1, [x], er1.s, .cons r1 .nil, ?_⟩
    have h1 : Res X.K ct W o1 H1 (match d [x] S1 with
      | .ok z S2 => .ok z S2
      | _ => .bad) (After X.K ct o1 H1 Q) := h1
    cases e : d [x] S1 with
    | ok z S3 => rw [e] at h1; exact h1
    | exc _ _ => rw [e] at h1; exact h1.elim
    | bad => rw [e] at h1; exact h1.elim
  · rw [if_neg e] at h1; exact h1.elim

/-! ### new instances -/
/-- C(..): a new object of nf fields, then __init__ -/
def enew (c nf : Nat) (d : Fn) (ts : Exs) : Ex := fun G S => (ts G S).bind fun xs S1 => match d (.obj S1.length :: xs) (S1 ++ [⟨c, List.replicate nf .no⟩]) with
  | .ok .non S2 => .ok (.obj S1.length) S2
  | _ => .bad
theorem SRel.made {K : PySem.W.Frag} {o : Om} {S : Store} {H : Hp} {c : Nat} {cd : CD} {x dx : Addr} (sr : SRel K ct o S H) (hc : ct c = some cd) (hx : H x = none) (hd : H dx = none) (ne : dx ≠ x) (kf : KF K (upd (upd H dx (.own x)) x (.ins cd.C dx []))) :
    ∃ o', Ext K o o' H (upd (upd H dx (.own x)) x (.ins cd.C dx [])) ∧ SRel K ct o' (S ++ [⟨c, List.replicate cd.fl.length .no⟩]) (upd (upd H dx (.own x)) x (.ins cd.C dx [])) ∧ o'.ρ S.length = x ∧ S.length < o'.n := by
  have nx : ∀ {b u}, H b = some u → b ≠ x := fun h z => by rw [z, hx] at h; cases h
  have nd : ∀ {b u}, H b = some u → b ≠ dx := fun h z => by rw [z, hd] at h; cases h
  have kp : ∀ {b u}, H b = some u → upd (upd H dx (.own x)) x (.ins cd.C dx []) b = some u := fun h => by rw [upd_ne (nx h), upd_ne (nd h)]; exact h
  have foN : ∀ j, o.fo S.length j = none := fun j => by
    cases e : o.fo S.length j with
    | none => rfl
    | some l =>
      obtain ⟨c, ds, e1, _⟩ := sr.foS _ _ _ e
      simp at e1
  have ex : Ext K o { n := o.n + 1, ρ := fun k => if k = S.length then x else o.ρ k, fo := o.fo, bad := fun a => o.bad a ∨ a = x } H (upd (upd H dx (.own x)) x (.ins cd.C dx [])) := by
    refine ⟨fun a u h _ => kp h, fun a u h => ⟨u, kp h⟩, Nat.le_succ _, fun k h => ?_, fun a h => .inl h, fun a h => ?_, fun a h => ?_, fun _ _ _ h => h⟩
    · have : k ≠ S.length := by rw [← sr.n]; exact Nat.ne_of_lt h
      show (if k = S.length then x else o.ρ k) = o.ρ k
      rw [if_neg this]
    · rcases h with h | h
      · exact .inl h
      · refine .inr ⟨by rw [h]; exact hx, ?_⟩
        rw [h]
        exact kf x (.ins cd.C dx []) upd_same
    · rcases h with ⟨k, h, e⟩ | h
      · have e : a = (if k = S.length then x else o.ρ k) := e
        by_cases z : k = S.length
        · rw [if_pos z] at e
          rw [e]
          exact .inr hx
        · rw [if_neg z] at e
          refine .inl (.inl ⟨k, ?_, e⟩)
          have h : k < o.n + 1 := h
          have := sr.n
          omega
      · exact .inl (.inr h)
  refine ⟨_, ex, ?_, if_pos rfl, by show S.length < o.n + 1; rw [sr.n]; exact Nat.lt_succ_self _⟩
  have m := ex.mono sr
  refine ⟨by show o.n + 1 = _; rw [sr.n]; simp, kf, fun k cell e => ?_, fun k k' h h' e => ?_, fun k j k' j' l h1 h2 => sr.foI k j k' j' l h1 h2, fun k j l h => ?_, fun a h => ?_, fun a h => ?_, sr.cok⟩
  · by_cases hk : k < S.length
    · rw [List.getElem?_append_left hk] at e
      obtain ⟨cd', dx', vfs, h1, h2, h3, h4, h5, h6⟩ := (sr.cell k cell e).ex
      refine ⟨cd', dx', vfs, h1, ?_, h3, h4, h5, fun j f s e1 e2 => ?_⟩
      · show upd _ _ _ (if k = S.length then x else o.ρ k) = _
        rw [if_neg (Nat.ne_of_lt hk)]
        exact kp h2
      · have q := h6 j f s e1 e2
        cases s with
        | no => exact q
        | val d =>
          obtain ⟨q1, x', q2, q3⟩ := q
          exact ⟨q1, x', q2, q3.mono m⟩
        | own ds =>
          obtain ⟨l, vs, q1, q2, q3, q4⟩ := q
          exact ⟨l, vs, q1, q2, kp q3, q4.mono m⟩
    · have hk' : k = S.length := by
        have := (List.getElem?_eq_some_iff.mp e).1
        simp at this
        omega
      subst hk'
      rw [List.getElem?_append_right (Nat.le_refl _)] at e
      simp at e
      subst e
      refine ⟨cd, dx, [], hc, ?_, by simp, List.nodup_nil, fun f h => (by simp at h), fun j f s e1 e2 => ?_⟩
      · show upd _ _ _ (if S.length = S.length then x else o.ρ S.length) = _
        rw [if_pos rfl, upd_same]
      · have e2 : (List.replicate cd.fl.length Slot.no)[j]? = some s := e2
        rw [List.getElem?_replicate] at e2
        split at e2
        · cases e2
          exact ⟨rfl, foN j⟩
        · cases e2
  · have h : k < o.n + 1 := h
    have h' : k' < o.n + 1 := h'
    have e : (if k = S.length then x else o.ρ k) = (if k' = S.length then x else o.ρ k') := e
    have hn := sr.n
    have apart : ∀ i, i < o.n → o.ρ i ≠ x := fun i hi z => by
      obtain ⟨_, _, _, q⟩ := sr.rhoA hi
      rw [z, hx] at q; cases q
    by_cases z : k = S.length
    · by_cases z' : k' = S.length
      · rw [z, z']
      · rw [if_pos z, if_neg z'] at e
        exact absurd e.symm (apart k' (by omega))
    · by_cases z' : k' = S.length
      · rw [if_neg z, if_pos z'] at e
        exact absurd e (apart k (by omega))
      · rw [if_neg z, if_neg z'] at e
        exact sr.inj k k' (by omega) (by omega) e
  · obtain ⟨cell, ds, e1, e2⟩ := sr.foS k j l h
    refine ⟨cell, ds, ?_, e2⟩
    rw [List.getElem?_append_left (List.getElem?_eq_some_iff.mp e1).1]
    exact e1
  · rcases h with ⟨k, h, e⟩ | h
    · have e : a = (if k = S.length then x else o.ρ k) := e
      by_cases z : k = S.length
      · rw [if_pos z] at e
        exact .inr e
      · rw [if_neg z] at e
        have h : k < o.n + 1 := h
        have := sr.n
        exact .inl (sr.hb a (.inl ⟨k, by omega, e⟩))
    · exact .inl (sr.hb a (.inr h))
  · rcases h with h | h
    · obtain ⟨u, e⟩ := sr.ba a h
      exact ⟨u, kp e⟩
    · rw [h]
      exact ⟨_, upd_same⟩
structure NI (P : Program) (w : World) (K : PySem.W.Frag) (mg : Str → Option Value) (base : Heap) (ct : CT) (k : Nat) (x : Str) (C : Addr) (d : Fn) : Prop where
  ex : ∃ f : Addr, mg x = some (.ref C) ∧ Mk K C f ∧ FA P w K mg base ct k f d
theorem new_sp {K : PySem.W.Frag} {o1 : Om} {S1 : Store} {H1 : Hp} {σ : L2.St} {G : Env} {Q : VK} {E : XK} {c : Nat} {cd : CD} {vs : List V} {ds : List D} {ps : List Str} (hc : ct c = some cd) (ar : ∀ ds S z S', d ds S = .ok z S' → ds.length = ps.length) (er1 : ERel K ct o1 G S1 σ H1) (r1 : RepL K o1 H1 vs ds)
    (h1 : Res K ct W o1 H1 (match d (.obj S1.length :: ds) (S1 ++ [⟨c, List.replicate cd.fl.length .no⟩]) with
      | .ok .non S2 => .ok (.obj S1.length) S2
      | _ => .bad) (After K ct o1 H1 Q)) (x dx : Addr) (hx : H1 x = none) (hd : H1 dx = none) (ne : dx ≠ x) :
    (V.ref x :: (vs ++ [])).length = ps.length ∧ (KF K (upd (upd H1 dx (.own x)) x (.ins cd.C dx [])) → spD K ct d (.ref x :: (vs ++ [])) (upd (upd H1 dx (.own x)) x (.ins cd.C dx [])) (fun v H2 => v = .non ∧ Q (.ref x) H2) E) := by
  refine ⟨?_, fun kf => ?_⟩
  · cases e : d (.obj S1.length :: ds) (S1 ++ [⟨c, List.replicate cd.fl.length .no⟩]) with
    | ok z S3 =>
      have := ar _ _ _ _ e
      rw [List.append_nil, List.length_cons, r1.length]
      rw [List.length_cons] at this
      exact this
    | exc _ _ => rw [e] at h1; exact h1.elim
    | bad => rw [e] at h1; exact h1.elim
  · obtain ⟨o2, x2, sr2, e1, e2⟩ := er1.s.made hc hx hd ne kf
    refine ⟨o2, _, .obj S1.length :: ds, sr2, .cons ?_ (by rw [List.append_nil]; exact x2.repL er1.s r1), ?_⟩
    · rw [← e1]
      exact .obj e2
    · cases e : d (.obj S1.length :: ds) (S1 ++ [⟨c, List.replicate cd.fl.length .no⟩]) with
      | ok z S3 =>
        rw [e] at h1
        cases z with
        | non =>
          intro o3 v H3 x3 s3 r3
          cases r3
          refine ⟨rfl, h1 o3 _ H3 (x2.trans x3) s3 ?_⟩
          have e3 : o3.ρ S1.length = x := by rw [x3.r _ e2]; exact e1
          rw [← e3]
          exact .obj (Nat.lt_of_lt_of_le e2 x3.n)
        | _ => exact h1.elim
      | exc _ _ => rw [e] at h1; exact h1.elim
      | bad => rw [e] at h1; exact h1.elim
theorem pd_new {c : Nat} {cd : CD} (hc : ct c = some cd) (N : NI X.prog X.w X.K X.mg X.base ct k x cd.C d) (hr : Room (k + 1) X.A) (hg : Gl X x) (ha : PDs X ct W (a :: es) tes) {nf : Nat} (hn : nf = cd.fl.length) (hdb : (x == ("__debug__" : Str)) = false := by decide)
    (he : starEach (a :: es) X.env = (false, eval a X.env) :: starEach es X.env := by rfl) (hpl : (backTo pos (starEach es X.env)).any (·.1) = false := by rfl) :
    PD X ct W (.Call (.Name x p) (a :: es) [] pos) (enew c nf d tes) := by
  obtain ⟨f, hm, M, fd, ps, hb, hf, ar⟩ := N.ex
  subst hn
  exact PE.wk (pe_make M (FnOk.kf hf) hr hg hm hb .nil pass0 ha hdb he hpl) fun σ H Q ⟨o, G, S, er, h⟩ => goA er h fun o1 S1 H1 v ds x1 er1 r1 h1 => fun x dx hx hd ne => new_sp hc ar er1 r1 h1 x dx hx hd ne
theorem pd_new0 {c : Nat} {cd : CD} (hc : ct c = some cd) (N : NI X.prog X.w X.K X.mg X.base ct k x cd.C d) (hr : Room (k + 1) X.A) (hg : Gl X x) {nf : Nat} (hn : nf = cd.fl.length) (hdb : (x == ("__debug__" : Str)) = false := by decide) :
    PD X ct W (.Call (.Name x p) [] [] pos) (enew c nf d enil) := by
  obtain ⟨f, hm, M, fd, ps, hb, hf, ar⟩ := N.ex
  subst hn
  exact PE.wk (pe_make0 M (FnOk.kf hf) hr hg hm hb .nil pass0 hdb) fun σ H Q ⟨o, G, S, er, h⟩ x dx hx hd ne => new_sp (Q := Q) hc ar er .nil h x dx hx hd ne
end
end DL

end
section
set_option maxRecDepth 100000
set_option maxHeartbeats 2000000
/-! The data layer: what is walked; comprehensions. -/
namespace DL
open PySem PySem.Spec PyProof.Rows L2

/-! ### walks -/
/-- J gives ds, as long as what was said is said -/
structure WD (K : PySem.W.Frag) (o : Om) (H : Hp) (J : It) (ds : List D) : Prop where
  goes : ∀ i o' H', i < ds.length → Mono K o o' H H' → J.go i H'
  stops : ∀ o' H', Mono K o o' H H' → J.stop ds.length H'
  yields : ∀ i o' H' x H'', i < ds.length → Mono K o o' H H' → J.yld i H' x H'' → (H'' = H' ∧ ∃ d, ds[i]? = some d ∧ Rep K o' H' x d) ∨ ∃ T vs xs, x = .ref T ∧ H' T = none ∧ H'' = upd H' T (.tup vs) ∧ ds[i]? = some (.tup xs) ∧ RepL K o' H' vs xs
abbrev Ix := Env → Store → R (List D)
def tI (K : PySem.W.Frag) (ct : CT) (W : Wish) (t : Ix) : TI := fun σ H Q => ∃ o G S, ERel K ct o G S σ H ∧ Res K ct W o H (t G S) fun ds S' => ∀ o' H' J, Ext K o o' H H' → SRel K ct o' S' H' → WD K o' H' J ds → Q J H'
abbrev PDi (X : Cx) (ct : CT) (W : Wish) (tg it : Expr) (t : Ix) : Prop := PI X tg it (tI X.K ct W t)
section
variable {K : PySem.W.Frag} {o o1 o2 : Om} {H H1 H2 : Hp} {ct : CT}
theorem Mono.refl : Mono K o o H H := ⟨fun _ _ h => h, fun _ _ _ h => h, fun _ _ _ h => h, fun _ _ _ n => n, Nat.le_refl _, fun _ _ => rfl, fun _ _ _ h => h⟩
theorem Mono.trans (x : Mono K o o1 H H1) (y : Mono K o1 o2 H1 H2) : Mono K o o2 H H2 where
  t := fun a xs h => y.t a xs (x.t a xs h)
  l := fun a xs n h => y.l a xs (x.b a xs h n) (x.l a xs n h)
  h := fun a xs n h => y.h a xs (x.b a xs (.of h) n) (x.h a xs n h)
  b := fun a xs h n => y.b a xs (x.l a xs n h) (x.b a xs h n)
  n := Nat.le_trans x.n y.n
  r := fun k h => by rw [y.r k (Nat.lt_of_lt_of_le h x.n), x.r k h]
  f := fun k j l h => y.f k j l (x.f k j l h)
theorem getElem?_lt {α : Type} {xs : List α} {i : Nat} (h : i < xs.length) : ∃ x, xs[i]? = some x := ⟨xs[i], by simp [h]⟩
theorem wd_list {a : Addr} {vs : List V} {ds : List D} (h : H a = some (.lst vs)) (nb : ¬ o.bad a) (r : RepL K o H vs ds) : WD K o H (Itl K a) ds := by
  have w := walk_list (K := K) (a := a) (xs := vs)
  have e := r.length
  refine ⟨fun i o' H' hi m => w.goes i H' (by omega) (.of (m.h _ _ nb h)), fun o' H' m => by rw [← e]; exact w.stops H' (.of (m.h _ _ nb h)), fun i o' H' x H'' hi m y => ?_⟩
  obtain ⟨h1, h2⟩ := w.yields i H' x H'' (by omega) (.of (m.h _ _ nb h)) y
  obtain ⟨d, h3, h4⟩ := (r.mono m).getV h2
  exact .inl ⟨h1, d, h3, h4⟩
theorem wd_tup {a : Addr} {vs : List V} {ds : List D} (h : SqT K H a vs) (r : RepL K o H vs ds) : WD K o H (Itt K a) ds := by
  have w := walk_tup (K := K) (a := a) (xs := vs)
  have e := r.length
  refine ⟨fun i o' H' hi m => w.goes i H' (by omega) (m.t _ _ h), fun o' H' m => by rw [← e]; exact w.stops H' (m.t _ _ h), fun i o' H' x H'' hi m y => ?_⟩
  obtain ⟨h1, h2⟩ := w.yields i H' x H'' (by omega) (m.t _ _ h) y
  obtain ⟨d, h3, h4⟩ := (r.mono m).getV h2
  exact .inl ⟨h1, d, h3, h4⟩
def rngD (lo : Int) (n : Nat) : List D := (List.range n).map fun (i : Nat) => .int (lo + (i : Int))
def rngC (lo c : Int) (n : Nat) : List D := (List.range n).map fun (i : Nat) => .int (lo + (i : Int) * c)
theorem rngD_len (lo : Int) (n : Nat) : (rngD lo n).length = n := by simp [rngD]
theorem rngC_len (lo c : Int) (n : Nat) : (rngC lo c n).length = n := by simp [rngC]
theorem wd_range {lo : Int} {n : Nat} : WD K o H (Itr lo n) (rngD lo n) := by
  have w := walk_range (lo := lo) (n := n)
  refine ⟨fun i o' H' hi m => w.goes i H' (by rw [rngD_len] at hi; exact hi) trivial, fun o' H' m => by rw [rngD_len]; exact w.stops H' trivial, fun i o' H' x H'' hi m y => ?_⟩
  rw [rngD_len] at hi
  obtain ⟨h1, h2⟩ := w.yields i H' x H'' hi trivial y
  subst h2
  exact .inl ⟨h1, .int (lo + i), by simp [rngD, hi], .int _⟩
theorem wd_rangeC {lo c : Int} {n : Nat} : WD K o H (Itc lo c n) (rngC lo c n) := by
  have w := walk_rangeC (lo := lo) (c := c) (n := n)
  refine ⟨fun i o' H' hi m => w.goes i H' (by rw [rngC_len] at hi; exact hi) trivial, fun o' H' m => by rw [rngC_len]; exact w.stops H' trivial, fun i o' H' x H'' hi m y => ?_⟩
  rw [rngC_len] at hi
  obtain ⟨h1, h2⟩ := w.yields i H' x H'' hi trivial y
  subst h2
  exact .inl ⟨h1, .int (lo + i * c), by simp [rngC, hi], .int _⟩
end
section
variable {X : Cx} {ct : CT} {W : Wish} {pos p : Pos} {tg e e2 a b c : Expr} {te ta tb tc : Ex} {t : Ix} {tes : Exs}
theorem PI.wk {tg it : Expr} {w w' : TI} (h : PI X tg it w) (k : ∀ σ H Q, w' σ H Q → w σ H Q) : PI X tg it w' := ⟨fun pins s σ H R I q => h.run pins s σ H R I (k σ H R q)⟩
theorem PI.wk2 {tg it : Expr} {w1 w2 w' : TI} (h1 : PI X tg it w1) (h2 : PI X tg it w2) (k : ∀ σ H Q, w' σ H Q → w1 σ H Q ∨ w2 σ H Q) : PI X tg it w' := ⟨fun pins s σ H R I q => (k σ H R q).elim (h1.run pins s σ H R I) (h2.run pins s σ H R I)⟩
/-- a list, a tuple -/
def iseq (t : Ex) : Ix := fun G S => (t G S).bind fun x S1 => match x with
  | .lst ds => .ok ds S1
  | .tup ds => .ok ds S1
  | .str s => .ok (s.map fun c => .str [c]) S1
  | _ => .bad
theorem wd_str {K : PySem.W.Frag} {o : Om} {H : Hp} (s : List Nat) : WD K o H (Its ⟨s.toArray⟩) (s.map fun c => .str [c]) := by
  have w := walk_str (z := ⟨s.toArray⟩)
  have e : (⟨s.toArray⟩ : Str).cps.size = s.length := by simp
  refine ⟨fun i o' H' hi m => w.goes i H' (by rw [e]; simpa using hi) trivial, fun o' H' m => by rw [List.length_map, ← e]; exact w.stops H' trivial, fun i o' H' x H'' hi m y => ?_⟩
  obtain ⟨h1, c, h2, h3⟩ := w.yields i H' x H'' (by rw [e]; simpa using hi) trivial y
  subst h1 h3
  exact .inl ⟨rfl, .str [c], by rw [List.getElem?_map]; have : s[i]? = some c := (by simpa using h2); rw [this]; rfl, .str _⟩
theorem pdi_seq (h : PD X ct W e te) : PDi X ct W tg e (iseq te) := by
  refine PI.wk2 (pi_list h) (PI.wk2 (w' := fun σ H Q => iTup X.K (tD X.K ct W te) σ H Q ∨ iStr (tD X.K ct W te) σ H Q) (pi_tup h) (pi_str h) fun _ _ _ z => z) fun σ H Q ⟨o, G, S, er, q⟩ => ?_
  have q : Res X.K ct W o H ((te G S).bind fun x S1 => match x with
    | .lst ds => .ok ds S1
    | .tup ds => .ok ds S1
    | .str s => .ok (s.map fun c => .str [c]) S1
    | _ => .bad) (fun ds S' => ∀ o' H' J, Ext X.K o o' H H' → SRel X.K ct o' S' H' → WD X.K o' H' J ds → Q J H') := q
  cases ev : te G S with
  | ok d S1 =>
    rw [ev] at q
    cases d with
    | lst ds =>
      refine .inl ⟨o, G, S, er, ?_⟩
      rw [ev]
      intro o1 v H1 x1 s1 r1
      cases r1 with
      | lst hl nb r => exact ⟨_, rfl, ⟨_, .of hl⟩, q o1 H1 _ x1 s1 (wd_list hl nb r)⟩
    | tup ds =>
      refine .inr (.inl ⟨o, G, S, er, ?_⟩)
      rw [ev]
      intro o1 v H1 x1 s1 r1
      cases r1 with
      | tup ht r => exact ⟨_, rfl, ⟨_, ht⟩, q o1 H1 _ x1 s1 (wd_tup ht r)⟩
    | str s =>
      refine .inr (.inr ⟨o, G, S, er, ?_⟩)
      rw [ev]
      intro o1 v H1 x1 s1 r1
      cases r1
      exact ⟨_, rfl, q o1 H1 _ x1 s1 (wd_str s)⟩
    | _ => exact q.elim
  | exc y S1 =>
    rw [ev] at q
    exact .inl ⟨o, G, S, er, by rw [ev]; exact q⟩
  | bad =>
    rw [ev] at q
    exact q.elim
/-- a gate that no reckoning opens -/
noncomputable def gate {α : Type} (p : Prop) (x y : α) : α := @ite α p (Classical.propDecidable p) x y
theorem gate_pos {α : Type} {p : Prop} {x y : α} (h : p) : gate p x y = x := @if_pos p (Classical.propDecidable p) h α x y
theorem gate_neg {α : Type} {p : Prop} {x y : α} (h : ¬ p) : gate p x y = y := @if_neg p (Classical.propDecidable p) h α x y
/-- range -/
noncomputable def irng1 (t : Exs) : Ix := fun G S => (t G S).bind fun xs S1 => match xs with
  | [.int j] => gate (-(2 ^ 62) ≤ j ∧ j < 2 ^ 62) (.ok (rngD 0 j.toNat) S1) .bad
  | _ => .bad
noncomputable def irng2 (t : Exs) : Ix := fun G S => (t G S).bind fun xs S1 => match xs with
  | [.int i, .int j] => gate (-(2 ^ 62) ≤ i ∧ i < 2 ^ 62 ∧ -(2 ^ 62) ≤ j ∧ j < 2 ^ 62) (.ok (rngD i (j - i).toNat) S1) .bad
  | _ => .bad
/-- how many turns of range(i, j, c) -/
def rngN (i j c : Int) : Nat := if 0 < c then ((j - i + c - 1) / c).toNat else ((i - j - c - 1) / (-c)).toNat
def irng3 (t : Exs) : Ix := fun G S => (t G S).bind fun xs S1 => match xs with
  | [.int i, .int j, .int c] => if (-(2 ^ 62) ≤ i ∧ i < 2 ^ 62 ∧ -(2 ^ 62) ≤ j ∧ j < 2 ^ 62) ∧ c ≠ 0 ∧ c.natAbs < 1073741824 then .ok (rngC i c (rngN i j c)) S1 else .bad
  | _ => .bad
theorem goI {K : PySem.W.Frag} {σ : L2.St} {H : Hp} {o : Om} {G : Env} {S : Store} {f : List D → Store → R (List D)} {Q : It → Hp → Prop} {R : List V → Hp → Prop} (er : ERel K ct o G S σ H)
    (h : Res K ct W o H ((tes G S).bind f) (fun ds S' => ∀ o' H' J, Ext K o o' H H' → SRel K ct o' S' H' → WD K o' H' J ds → Q J H'))
    (k : ∀ o1 S1 H1 v d, Ext K o o1 H H1 → ERel K ct o1 G S1 σ H1 → RepL K o1 H1 v d → Res K ct W o1 H1 (f d S1) (fun ds S' => ∀ o' H' J, Ext K o1 o' H1 H' → SRel K ct o' S' H' → WD K o' H' J ds → Q J H') → R v H1) : tDs K ct W tes σ H R :=
  ⟨o, G, S, er, h.then fun d S1 h' o1 v H1 x1 s1 r1 => k o1 S1 H1 v d x1 (er.ext x1 s1) r1 (h'.later x1 fun _ _ z o' H' J x s w => z o' H' J (x1.trans x) s w)⟩
theorem pdi_range1 (hg : Gl X "range") (hm : X.mg "range" = none) (ha : PDs X ct W [a] tes) (hs : starEach [a] X.env = [(false, eval a X.env)] := by rfl) : PDi X ct W tg (.Call (.Name "range" p) [a] [] pos) (irng1 tes) :=
  PI.wk (pi_range1 hg hm ha hs) fun σ H Q ⟨o, G, S, er, h⟩ => goI er h fun o1 S1 H1 v d x1 er1 r1 h1 => by
    split at h1
    · rename_i j
      by_cases hz : -(2 ^ 62) ≤ j ∧ j < 2 ^ 62
      · rw [gate_pos hz] at h1
        obtain ⟨w, rfl, r⟩ := r1.one
        cases r
        exact ⟨j, rfl, hz.1, hz.2, h1 o1 H1 _ .refl er1.s wd_range⟩
      · rw [gate_neg hz] at h1
        exact h1.elim
    · exact h1.elim
theorem pdi_range2 (hg : Gl X "range") (hm : X.mg "range" = none) (ha : PDs X ct W [a, b] tes) (hs : starEach [a, b] X.env = [(false, eval a X.env), (false, eval b X.env)] := by rfl) (hs2 : starEach [b] X.env = [(false, eval b X.env)] := by rfl) : PDi X ct W tg (.Call (.Name "range" p) [a, b] [] pos) (irng2 tes) :=
  PI.wk (pi_range2 hg hm ha hs hs2) fun σ H Q ⟨o, G, S, er, h⟩ => goI er h fun o1 S1 H1 v d x1 er1 r1 h1 => by
    split at h1
    · rename_i i j
      by_cases hz : -(2 ^ 62) ≤ i ∧ i < 2 ^ 62 ∧ -(2 ^ 62) ≤ j ∧ j < 2 ^ 62
      · rw [gate_pos hz] at h1
        obtain ⟨w, u, rfl, r, r'⟩ := r1.two
        cases r
        cases r'
        exact ⟨i, j, rfl, hz, h1 o1 H1 _ .refl er1.s wd_range⟩
      · rw [gate_neg hz] at h1
        exact h1.elim
    · exact h1.elim
theorem RepL.three {K : PySem.W.Frag} {o : Om} {H : Hp} {vs : List V} {d e f : D} (h : RepL K o H vs [d, e, f]) : ∃ v w u, vs = [v, w, u] ∧ Rep K o H v d ∧ Rep K o H w e ∧ Rep K o H u f := by
  cases h with
  | cons a r =>
    obtain ⟨x, y, rfl, h1, h2⟩ := r.two
    exact ⟨_, _, _, rfl, a, h1, h2⟩
/-- zip of two lists, of two tuples -/
def izip (t : Exs) : Ix := fun G S => (t G S).bind fun xs S1 => match xs with
  | [.lst ds, .lst es] => .ok (List.zipWith (fun x y => D.tup [x, y]) ds es) S1
  | [.tup ds, .tup es] => .ok (List.zipWith (fun x y => D.tup [x, y]) ds es) S1
  | _ => .bad
theorem wd_zip {K : PySem.W.Frag} {o : Om} {H : Hp} {J : It} {vs ws : List V} {ds es : List D} {G : Hp → Prop} (w : Walk J (min vs.length ws.length) G (YPair (fun i => vs[i]?) (fun i => ws[i]?))) (hG : ∀ o' H', Mono K o o' H H' → G H')
    (r1 : RepL K o H vs ds) (r2 : RepL K o H ws es) : WD K o H J (List.zipWith (fun x y => D.tup [x, y]) ds es) := by
  have e : (List.zipWith (fun x y => D.tup [x, y]) ds es).length = min vs.length ws.length := by rw [List.length_zipWith, r1.length, r2.length]
  refine ⟨fun i o' H' hi m => w.goes i H' (by omega) (hG _ _ m), fun o' H' m => by rw [e]; exact w.stops H' (hG _ _ m), fun i o' H' x H'' hi m y => ?_⟩
  obtain ⟨T, u1, u2, h1, h2, h3, h4, h5⟩ := w.yields i H' x H'' (by omega) (hG _ _ m) y
  obtain ⟨d1, q1, q2⟩ := (r1.mono m).getV h4
  obtain ⟨d2, q3, q4⟩ := (r2.mono m).getV h5
  refine .inr ⟨T, _, [d1, d2], h1, h2, h3, ?_, .cons q2 (.cons q4 .nil)⟩
  rw [List.getElem?_zipWith, q1, q3]
theorem walk_zipT {K : PySem.W.Frag} {a b : Addr} {xs ys : List V} : Walk (RZ.ItzT K a b) (min xs.length ys.length) (fun H => SqT K H a xs ∧ SqT K H b ys) (YPair (fun i => xs[i]?) (fun i => ys[i]?)) := by
  refine ⟨fun i H hi q => ?_, fun H q => ⟨xs, ys, q.1, q.2, by omega⟩, fun i H v H' _ q y => ?_⟩
  · obtain ⟨x, hx⟩ := getElem?_lt (xs := xs) (i := i) (by omega)
    obtain ⟨y, hy⟩ := getElem?_lt (xs := ys) (i := i) (by omega)
    exact ⟨xs, ys, x, y, q.1, q.2, hx, hy⟩
  · obtain ⟨T, x, z, h1, h2, h3, h4, h5⟩ := y
    exact ⟨T, x, z, h1, h2, h3, h4 xs q.1, h5 ys q.2⟩
theorem pdi_zip {elts : List Expr} {kk : Nat} {tpos : Pos} (hg : Gl X "zip") (hm : X.mg "zip" = none) (ha : PDs X ct W [e, e2] tes) (hs : starEach [e, e2] X.env = (false, eval e X.env) :: starEach [e2] X.env := by rfl) (hpl : (backTo pos (starEach [e2] X.env)).any (·.1) = false := by rfl) :
    PDi X ct W (.Tuple elts kk tpos) (.Call (.Name "zip" p) [e, e2] [] pos) (izip tes) :=
  PI.wk (RZ.pi_zipA hg hm ha hs hpl) fun σ H Q ⟨o, G, S, er, h⟩ => goI er h fun o1 S1 H1 v d x1 er1 r1 h1 => by
    split at h1
    · obtain ⟨w, u, rfl, r, r'⟩ := r1.two
      cases r with
      | lst ha na ra =>
        cases r' with
        | lst hb nb rb => exact ⟨_, _, _, _, rfl, .inl ⟨.of ha, .of hb, h1 o1 H1 _ .refl er1.s (wd_zip (walk_zip rfl) (fun o' H' m => ⟨.of (m.h _ _ na ha), .of (m.h _ _ nb hb)⟩) ra rb)⟩⟩
    · obtain ⟨w, u, rfl, r, r'⟩ := r1.two
      cases r with
      | tup ha ra =>
        cases r' with
        | tup hb rb => exact ⟨_, _, _, _, rfl, .inr ⟨ha, hb, h1 o1 H1 _ .refl er1.s (wd_zip walk_zipT (fun o' H' m => ⟨m.t _ _ ha, m.t _ _ hb⟩) ra rb)⟩⟩
    · exact h1.elim

/-! ### targets -/
/-- a name, names in brackets: which slots a value goes to -/
inductive Tg where
  | nm (i : Nat)
  | tp (ts : List Tg)
mutual
def Tg.put : Tg → D → Env → Option Env
  | .nm i, d, G => some (G.set i (.val d))
  | .tp ts, .tup ds, G => Tg.puts ts ds G
  | .tp ts, .lst ds, G => Tg.puts ts ds G
  | .tp _, _, _ => none
def Tg.puts : List Tg → List D → Env → Option Env
  | [], [], G => some G
  | t :: ts, d :: ds, G => (Tg.put t d G).bind (Tg.puts ts ds)
  | _, _, _ => none
end
end
end DL

end
section
set_option maxRecDepth 100000
set_option maxHeartbeats 2000000
/-! The data layer: statements. -/
namespace DL
open PySem PySem.Spec PyProof.Rows L2

abbrev Lo := Nat → Option Addr
def Lo.B (lo : Lo) : Addr → Prop := fun a => ∃ i, lo i = some a
abbrev Om.wi (o : Om) (lo : Lo) : Om := o.plus lo.B
/-- a def's state: A where it began, lo the lists of its own -/
structure StRel (K : PySem.W.Frag) (ct : CT) (A : Om × Hp) (o : Om) (lo : Lo) (G : Env) (S : Store) (σ : L2.St) (H : Hp) : Prop where
  s : SRel K ct (o.wi lo) S H
  len : G.length = σ.length
  v : ∀ (i : Nat) (d : D), G[i]? = some (Slot.val d) → ∃ x, σ[i]? = some (some x) ∧ Rep K (o.wi lo) H x d
  w : ∀ (i : Nat) (ds : List D), G[i]? = some (Slot.own ds) → ∃ l vs, lo i = some l ∧ σ[i]? = some (some (.ref l)) ∧ H l = some (.lst vs) ∧ RepL K (o.wi lo) H vs ds
  wo : ∀ (i : Nat) l, lo i = some l → ∃ ds, G[i]? = some (Slot.own ds)
  inj : ∀ i j l, lo i = some l → lo j = some l → i = j
  nb : ∀ i l, lo i = some l → ¬ o.bad l
  nh : ∀ i l, lo i = some l → ¬ o.hot l
  fr : ∀ i l, lo i = some l → A.2 l = none
  x : Ext K A.1 o A.2 H
mutual
def Slot.flat : Slot → Bool
  | .no => true
  | .val d => d.flat
  | .own xs => D.flats xs
end
def Store.flat (S : Store) : Bool := S.all fun c => c.fs.all Slot.flat
section
variable {K : PySem.W.Frag} {ct : CT} {A : Om × Hp} {o o1 o' : Om} {lo lo' : Lo} {G G' : Env} {S S1 S' : Store} {σ σ' : L2.St} {H H1 H' : Hp}
theorem Om.ext {a b : Om} (h1 : a.n = b.n) (h2 : a.ρ = b.ρ) (h3 : a.fo = b.fo) (h4 : ∀ x, a.bad x ↔ b.bad x) : a = b := by
  obtain ⟨n, r, f, p⟩ := a
  obtain ⟨n', r', f', p'⟩ := b
  cases h1; cases h2; cases h3
  have : p = p' := funext fun x => propext (h4 x)
  rw [this]
theorem Mono.wi : Mono K (o.wi lo) o H H := Mono.unplus
theorem SRel.less (r : SRel K ct o S H) {B : Addr → Prop} (h : ∀ a, B a → o.bad a) (hb : ∀ a, o.hot a → B a) : SRel K ct { o with bad := B } S H := by
  refine ⟨r.n, r.kf, fun k c e => ?_, r.inj, r.foI, r.foS, fun a z => hb a z, fun a z => r.ba a (h a z), r.cok⟩
  obtain ⟨cd, dx, vfs, h1, h2, h3, h4, h5, h6⟩ := (r.cell k c e).ex
  refine ⟨cd, dx, vfs, h1, h2, h3, h4, h5, fun j f s e1 e2 => ?_⟩
  have q := h6 j f s e1 e2
  have m : Mono K o { o with bad := B } H H := Mono.less h
  cases s with
  | no => exact q
  | val d =>
    obtain ⟨q1, x', q2, q3⟩ := q
    exact ⟨q1, x', q2, q3.mono m⟩
  | own ds =>
    obtain ⟨l, vs, q1, q2, q3, q4⟩ := q
    exact ⟨l, vs, q1, q2, q3, q4.mono m⟩
theorem StRel.noB (r : StRel K ct A o lo G S σ H) {a : Addr} (h : o.hot a) : ¬ lo.B a := fun ⟨i, e⟩ => r.nh i a e h
theorem StRel.s0 (r : StRel K ct A o lo G S σ H) : SRel K ct o S H :=
  r.s.less (B := o.bad) (fun a z => .inl z) fun a z => (r.s.hb a z).resolve_right (r.noB z)
/-- every name seen -/
theorem StRel.full (r : StRel K ct A o lo G S σ H) : ERel K ct o G S σ H := by
  refine ⟨r.s0, r.len, fun i d e => ?_⟩
  unfold look at e
  cases e1 : G[i]? with
  | none => rw [e1] at e; cases e
  | some s =>
    rw [e1] at e
    cases s with
    | no => cases e
    | val d' =>
      cases e
      obtain ⟨x, q1, q2⟩ := r.v i _ e1
      exact ⟨x, q1, q2.mono Mono.wi⟩
    | own ds =>
      cases e
      obtain ⟨l, vs, q1, q2, q3, q4⟩ := r.w i _ e1
      exact ⟨_, q2, .lst q3 (r.nb i l q1) (q4.mono Mono.wi)⟩
/-- the lists of its own unseen -/
theorem StRel.hid (r : StRel K ct A o lo G S σ H) : ERel K ct (o.wi lo) (hide G) S σ H := by
  refine ⟨r.s, by unfold hide; rw [List.length_map]; exact r.len, fun i d e => ?_⟩
  unfold look hide at e
  rw [List.getElem?_map] at e
  cases e1 : G[i]? with
  | none => rw [e1] at e; cases e
  | some s =>
    rw [e1] at e
    cases s with
    | no => cases e
    | val d' =>
      cases e
      exact r.v i _ e1
    | own ds => cases e
theorem StRel.afterS (r : StRel K ct A o lo G S σ H) (x : Ext K (o.wi lo) o' H H1) (s1 : SRel K ct o' S1 H1) : ∃ o2, o' = o2.wi lo ∧ StRel K ct A o2 lo G S1 σ H1 := by
  have m := x.mono r.s
  have e : o' = ({ o' with bad := fun a => o'.bad a ∧ ¬ lo.B a } : Om).wi lo := by
    refine Om.ext rfl rfl rfl fun a => ⟨fun z => ?_, fun z => ?_⟩
    · by_cases q : lo.B a
      · exact .inr q
      · exact .inl ⟨z, q⟩
    · rcases z with ⟨z, _⟩ | z
      · exact z
      · exact x.badS a (.inr z)
  refine ⟨_, e, ?_⟩
  have hl : ∀ i l, lo i = some l → ∃ vs, H l = some (.lst vs) := fun i l h => by
    obtain ⟨ds, e1⟩ := r.wo i l h
    obtain ⟨l', vs, q1, q2, q3, q4⟩ := r.w i ds e1
    rw [h] at q1; cases q1
    exact ⟨vs, q3⟩
  have kp : ∀ i l u, lo i = some l → H l = some u → H1 l = some u := fun i l u h e1 => x.keep l u e1 fun z => r.nh i l h z
  refine ⟨e ▸ s1, r.len, fun i d h => ?_, fun i ds h => ?_, r.wo, r.inj, fun i l h z => z.2 ⟨i, h⟩, fun i l h z => ?_, r.fr, ?_⟩
  · obtain ⟨y, q1, q2⟩ := r.v i d h
    exact ⟨y, q1, e ▸ q2.mono m⟩
  · obtain ⟨l, vs, q1, q2, q3, q4⟩ := r.w i ds h
    exact ⟨l, vs, q1, q2, kp i l _ q1 q3, e ▸ q4.mono m⟩
  · obtain ⟨vs, q3⟩ := hl i l h
    rcases x.hotN l z with q | q
    · exact r.nh i l h q
    · rw [q3] at q; cases q
  · refine r.x.trans ⟨fun a u h n => x.keep a u h n, x.there, x.n, x.r, fun a z => ⟨x.badS a (.inl z), fun ⟨i, q⟩ => r.nb i a q z⟩, fun a z => ?_, fun a z => x.hotN a z, x.f⟩
    rcases x.badN a z.1 with (q | q) | q
    · exact .inl q
    · exact absurd q z.2
    · exact .inr q
theorem StRel.keptS (r : StRel K ct A o lo G S σ H) (x : Ext K (o.wi lo) o' H H1) : ∀ i l u, lo i = some l → H l = some u → H1 l = some u := fun i l u h e1 => x.keep l u e1 fun z => r.nh i l h z
theorem StRel.keptF (r : StRel K ct A o lo G S σ H) (x : Ext K o o' H H1) : ∀ i l u, lo i = some l → H l = some u → H1 l = some u := fun i l u h e1 => x.keep l u e1 fun z => r.nh i l h z
theorem StRel.monoF (r : StRel K ct A o lo G S σ H) (x : Ext K o o' H H1) : Mono K (o.wi lo) (o'.wi lo) H H1 := by
  have m := x.mono r.s0
  exact ⟨m.t, fun a xs nb h => m.l a xs (fun z => nb (.inl z)) h, fun a xs nb h => m.h a xs (fun z => nb (.inl z)) h, fun a xs h nb z => z.elim (m.b a xs h fun z => nb (.inl z)) fun z => nb (.inr z), m.n, m.r, m.f⟩
theorem StRel.afterF (r : StRel K ct A o lo G S σ H) (x : Ext K o o' H H1) (s1 : SRel K ct o' S1 H1) (fl : Store.flat S1 = true) : StRel K ct A o' lo G S1 σ H1 := by
  have m := r.monoF x
  have hl : ∀ i l, lo i = some l → ∃ vs, H l = some (.lst vs) := fun i l h => by
    obtain ⟨ds, e1⟩ := r.wo i l h
    obtain ⟨l', vs, q1, q2, q3, q4⟩ := r.w i ds e1
    rw [h] at q1; cases q1
    exact ⟨vs, q3⟩
  have kp : ∀ i l u, lo i = some l → H l = some u → H1 l = some u := fun i l u h e1 => x.keep l u e1 fun z => r.nh i l h z
  refine ⟨⟨s1.n, s1.kf, fun k c e => ?_, s1.inj, s1.foI, s1.foS, fun a z => .inl (s1.hb a z), fun a z => ?_, s1.cok⟩, r.len, fun i d h => ?_, fun i ds h => ?_, r.wo, r.inj, fun i l h z => ?_, fun i l h z => ?_, r.fr, r.x.trans x⟩
  · obtain ⟨cd, dx, vfs, h1, h2, h3, h4, h5, h6⟩ := (s1.cell k c e).ex
    refine ⟨cd, dx, vfs, h1, h2, h3, h4, h5, fun j f s e1 e2 => ?_⟩
    have q := h6 j f s e1 e2
    have fs : s.flat = true := by
      have := List.all_eq_true.mp fl c (List.mem_of_getElem? e)
      exact List.all_eq_true.mp this s (List.mem_of_getElem? e2)
    cases s with
    | no => exact q
    | val d =>
      obtain ⟨q1, x', q2, q3⟩ := q
      exact ⟨q1, x', q2, q3.flat fs⟩
    | own ds =>
      obtain ⟨l, vs, q1, q2, q3, q4⟩ := q
      exact ⟨l, vs, q1, q2, q3, q4.flats fs⟩
  · rcases z with z | ⟨i, z⟩
    · exact s1.ba a z
    · obtain ⟨vs, q⟩ := hl i a z
      exact ⟨_, kp i a _ z q⟩
  · obtain ⟨y, q1, q2⟩ := r.v i d h
    exact ⟨y, q1, q2.mono m⟩
  · obtain ⟨l, vs, q1, q2, q3, q4⟩ := r.w i ds h
    exact ⟨l, vs, q1, q2, kp i l _ q1 q3, q4.mono m⟩
  · obtain ⟨vs, q⟩ := hl i l h
    rcases x.badN l z with z | ⟨z, _⟩
    · exact r.nb i l h z
    · rw [q] at z; cases z
  · obtain ⟨vs, q⟩ := hl i l h
    rcases x.hotN l z with z | z
    · exact r.nh i l h z
    · rw [q] at z; cases z
/-- a slot gets a value -/
def Lo.rm (lo : Lo) (i : Nat) : Lo := fun j => if j = i then none else lo j
theorem Lo.rm_some {i j : Nat} {l : Addr} (h : lo.rm i j = some l) : j ≠ i ∧ lo j = some l := by
  unfold Lo.rm at h
  by_cases e : j = i
  · rw [if_pos e] at h; cases h
  · rw [if_neg e] at h; exact ⟨e, h⟩
theorem Lo.rmB {i : Nat} {a : Addr} (h : (lo.rm i).B a) : lo.B a := let ⟨j, e⟩ := h; ⟨j, (Lo.rm_some e).2⟩
theorem StRel.rmMono (i : Nat) : Mono K (o.wi lo) (o.wi (lo.rm i)) H H := Mono.less fun a z => z.elim .inl fun z => .inr (Lo.rmB z)
theorem StRel.rmS (r : StRel K ct A o lo G S σ H) (i : Nat) : SRel K ct (o.wi (lo.rm i)) S H :=
  r.s.less (B := (o.wi (lo.rm i)).bad) (fun a z => z.elim .inl fun z => .inr (Lo.rmB z)) fun a z => .inl ((r.s.hb a z).resolve_right (r.noB z))
theorem StRel.set (r : StRel K ct A o lo G S σ H) {i : Nat} {y : V} {d : D} (hy : Rep K (o.wi (lo.rm i)) H y d) : StRel K ct A o (lo.rm i) (G.set i (.val d)) S (σ.set i (some y)) H := by
  have m : Mono K (o.wi lo) (o.wi (lo.rm i)) H H := StRel.rmMono i
  refine ⟨r.rmS i, by rw [List.length_set, List.length_set]; exact r.len, fun j e h => ?_, fun j ds h => ?_, fun j l h => ?_, fun j k l h h' => r.inj j k l (Lo.rm_some h).2 (Lo.rm_some h').2, fun j l h => r.nb j l (Lo.rm_some h).2, fun j l h => r.nh j l (Lo.rm_some h).2, fun j l h => r.fr j l (Lo.rm_some h).2, r.x⟩
  · by_cases q : i = j
    · subst q
      have hi : i < G.length := by
        have := (List.getElem?_eq_some_iff.mp h).1
        rw [List.length_set] at this
        exact this
      rw [List.getElem?_set_self hi] at h
      cases h
      exact ⟨y, by rw [List.getElem?_set_self (by rw [← r.len]; exact hi)], hy⟩
    · rw [List.getElem?_set_ne q] at h
      obtain ⟨x, q1, q2⟩ := r.v j e h
      exact ⟨x, by rw [List.getElem?_set_ne q]; exact q1, q2.mono m⟩
  · by_cases q : i = j
    · subst q
      have hi : i < G.length := by
        have := (List.getElem?_eq_some_iff.mp h).1
        rw [List.length_set] at this
        exact this
      rw [List.getElem?_set_self hi] at h
      cases h
    · rw [List.getElem?_set_ne q] at h
      obtain ⟨l, vs, q1, q2, q3, q4⟩ := r.w j ds h
      exact ⟨l, vs, by unfold Lo.rm; rw [if_neg (Ne.symm q)]; exact q1, by rw [List.getElem?_set_ne q]; exact q2, q3, q4.mono m⟩
  · obtain ⟨q, h⟩ := Lo.rm_some h
    obtain ⟨ds, e⟩ := r.wo j l h
    exact ⟨ds, by rw [List.getElem?_set_ne (Ne.symm q)]; exact e⟩
/-- a list of its own is no longer changed -/
theorem StRel.frz (r : StRel K ct A o lo G S σ H) {i : Nat} {ds : List D} (h : G[i]? = some (.own ds)) : StRel K ct A o (lo.rm i) (G.set i (.val (.lst ds))) S σ H := by
  obtain ⟨l, vs, q1, q2, q3, q4⟩ := r.w i ds h
  have hs : σ.set i (some (.ref l)) = σ := by
    refine List.ext_getElem? fun j => ?_
    by_cases e : i = j
    · subst e
      rw [List.getElem?_set_self (List.getElem?_eq_some_iff.mp q2).1, q2]
    · rw [List.getElem?_set_ne e]
  have := r.set (i := i) (y := .ref l) (d := .lst ds) (.lst q3 (fun z => z.elim (r.nb i l q1) fun ⟨j, e⟩ => (Lo.rm_some e).1 (r.inj _ _ _ (Lo.rm_some e).2 q1)) (q4.mono (StRel.rmMono i)))
  rw [hs] at this
  exact this
/-- a new list of its own -/
def Lo.ad (lo : Lo) (i : Nat) (l : Addr) : Lo := fun j => if j = i then some l else lo j
theorem StRel.own {o0 : Om} {S0 : Store} (r0 : StRel K ct A o0 lo G S0 σ H') (r : StRel K ct A o lo G S σ H) (m0 : Mono K (o0.wi lo) (o.wi lo) H' H) (kp : ∀ i l u, lo i = some l → H' l = some u → H l = some u) {i : Nat} {l : Addr} {vs : List V} {ds : List D} (hi : i < G.length) (hl : H l = some (.lst vs)) (fr : H' l = none)
    (hb : ¬ (o.wi lo).bad l) (q : RepL K (o.wi lo) H vs ds) (fl : D.flats ds = true) (fS : Store.flat S = true) :
    StRel K ct A o (lo.ad i l) (G.set i (.own ds)) S (σ.set i (some (.ref l))) H ∧ Mono K (o0.wi lo) (o.wi (lo.ad i l)) H' H := by
  have kf := r.s.kf
  have adS : ∀ {j a}, lo.ad i l j = some a → (j = i ∧ a = l) ∨ (j ≠ i ∧ lo j = some a) := fun {j a} h => by
    unfold Lo.ad at h
    by_cases e : j = i
    · rw [if_pos e] at h; cases h; exact .inl ⟨e, rfl⟩
    · rw [if_neg e] at h; exact .inr ⟨e, h⟩
  have ne : ∀ {j a}, lo j = some a → a ≠ l := fun h e => hb (.inr ⟨_, e ▸ h⟩)
  have hn : ¬ o.hot l := fun z => hb (r.s.hb l z)
  have hB : ∀ a, (lo.ad i l).B a → a = l ∨ lo.B a := fun a ⟨j, h⟩ => (adS h).elim (fun z => .inl z.2) fun z => .inr ⟨j, z.2⟩
  have m : Mono K (o0.wi lo) (o.wi (lo.ad i l)) H' H := by
    refine ⟨m0.t, m0.l, m0.h, fun a xs h nb z => ?_, m0.n, m0.r, m0.f⟩
    rcases z with z | z
    · exact m0.b a xs h nb (.inl z)
    · rcases hB a z with z | z
      · subst z
        rcases h with (h | ⟨ob, h⟩) | ⟨ob, its, n, hk, _⟩
        · rw [fr] at h; cases h
        · rw [fr] at h; cases h
        · rw [kf _ _ hl] at hk; cases hk
      · exact m0.b a xs h nb (.inr z)
  refine ⟨⟨⟨r.s.n, r.s.kf, fun k c e => ?_, r.s.inj, r.s.foI, r.s.foS, fun a z => .inl ((r.s.hb a z).resolve_right (r.noB z)), fun a z => ?_, r.s.cok⟩, by rw [List.length_set, List.length_set]; exact r.len, fun j e h => ?_, fun j ds h => ?_, fun j a h => ?_, fun j k a h h' => ?_, fun j a h z => ?_, fun j a h => ?_, fun j a h => ?_, r.x⟩, m⟩
  · obtain ⟨cd, dx, vfs, h1, h2, h3, h4, h5, h6⟩ := (r.s.cell k c e).ex
    refine ⟨cd, dx, vfs, h1, h2, h3, h4, h5, fun j f s e1 e2 => ?_⟩
    have q := h6 j f s e1 e2
    have fs : s.flat = true := by
      have := List.all_eq_true.mp fS c (List.mem_of_getElem? e)
      exact List.all_eq_true.mp this s (List.mem_of_getElem? e2)
    cases s with
    | no => exact q
    | val d =>
      obtain ⟨q1, x', q2, q3⟩ := q
      exact ⟨q1, x', q2, q3.flat fs⟩
    | own ds =>
      obtain ⟨l, vs, q1, q2, q3, q4⟩ := q
      exact ⟨l, vs, q1, q2, q3, q4.flats fs⟩
  · rcases z with z | z
    · exact r.s.ba a (.inl z)
    · rcases hB a z with z | z
      · subst z; exact ⟨_, hl⟩
      · exact r.s.ba a (.inr z)
  · by_cases q : i = j
    · subst q
      rw [List.getElem?_set_self hi] at h
      cases h
    · rw [List.getElem?_set_ne q] at h
      obtain ⟨x, q1, q2⟩ := r0.v j e h
      exact ⟨x, by rw [List.getElem?_set_ne q]; exact q1, q2.mono m⟩
  · by_cases z : i = j
    · subst z
      rw [List.getElem?_set_self hi] at h
      cases h
      exact ⟨l, vs, by unfold Lo.ad; rw [if_pos rfl], by rw [List.getElem?_set_self (by rw [← r.len]; exact hi)], hl, q.flats fl⟩
    · rw [List.getElem?_set_ne z] at h
      obtain ⟨l', vs', q1, q2, q3, q4⟩ := r.w j ds h
      obtain ⟨l0, vs0, p1, p2, p3, p4⟩ := r0.w j ds h
      rw [q1] at p1; cases p1
      refine ⟨l', vs', by unfold Lo.ad; rw [if_neg (Ne.symm z)]; exact q1, by rw [List.getElem?_set_ne z]; exact q2, q3, ?_⟩
      rw [kp j l' _ q1 p3] at q3
      cases q3
      exact p4.mono m
  · rcases adS h with ⟨rfl, rfl⟩ | ⟨q, h⟩
    · exact ⟨ds, List.getElem?_set_self hi⟩
    · obtain ⟨ds', e⟩ := r.wo j a h
      exact ⟨ds', by rw [List.getElem?_set_ne (Ne.symm q)]; exact e⟩
  · rcases adS h with ⟨e1, e2⟩ | ⟨q, h⟩ <;> rcases adS h' with ⟨e3, e4⟩ | ⟨q', h'⟩
    · rw [e1, e3]
    · exact absurd e2 (ne h')
    · exact absurd e4 (ne h)
    · exact r.inj j k a h h'
  · rcases adS h with ⟨e1, e2⟩ | ⟨q, h⟩
    · subst e2; exact hb (.inl z)
    · exact r.nb j a h z
  · rcases adS h with ⟨e1, e2⟩ | ⟨q, h⟩
    · subst e2; exact hn
    · exact r.nh j a h
  · rcases adS h with ⟨e1, e2⟩ | ⟨q, h⟩
    · subst e2; exact r0.x.back fr
    · exact r.fr j a h
end
/-! ### parts of statements -/
/-- what follows a part of a statement -/
structure Then (K : PySem.W.Frag) (ct : CT) (A : Om × Hp) (o : Om) (lo : Lo) (G : Env) (σ : L2.St) (H : Hp) (o1 : Om) (S1 : Store) (H1 : Hp) : Prop where
  r : StRel K ct A o1 lo G S1 σ H1
  m : Mono K (o.wi lo) (o1.wi lo) H H1
  k : ∀ i l u, lo i = some l → H l = some u → H1 l = some u
def ResS {α : Type} (r : R α) (Q : α → Store → Prop) : Prop := match r with
  | .ok a S => Q a S
  | _ => False
def tM (K : PySem.W.Frag) (ct : CT) (A : Om × Hp) (t : Ex) : TE := fun σ H Q => ∃ o lo G S, StRel K ct A o lo G S σ H ∧ ResS (t G S) fun d S1 => ∀ o1 v H1, Then K ct A o lo G σ H o1 S1 H1 → Rep K (o1.wi lo) H1 v d → Q v H1
def tMb (K : PySem.W.Frag) (ct : CT) (A : Om × Hp) (t : Tx) : TT := fun σ H Q => ∃ o lo G S, StRel K ct A o lo G S σ H ∧ ResS (t G S) fun d S1 => ∀ o1 H1, Then K ct A o lo G σ H o1 S1 H1 → Q d H1
def tMi (K : PySem.W.Frag) (ct : CT) (A : Om × Hp) (t : Ix) : TI := fun σ H Q => ∃ o lo G S, StRel K ct A o lo G S σ H ∧ ResS (t G S) fun ds S1 => ∀ o1 J H1, Then K ct A o lo G σ H o1 S1 H1 → WD K (o1.wi lo) H1 J ds → Q J H1
/-- a new list -/
def tMf (K : PySem.W.Frag) (ct : CT) (A : Om × Hp) (t : Ex) : TE := fun σ H Q => ∃ o lo G S, StRel K ct A o lo G S σ H ∧ ResS (t G S) fun d S1 => ∃ ds, d = .lst ds ∧ D.flats ds = true ∧ ∀ o1 l vs H1, Then K ct A o lo G σ H o1 S1 H1 → H l = none → H1 l = some (.lst vs) → ¬ (o1.wi lo).bad l → RepL K (o1.wi lo) H1 vs ds → Q (.ref l) H1
abbrev PM (X : Cx) (ct : CT) (e : Expr) (t : Ex) : Prop := ∀ A, PE X e (tM X.K ct A t)
abbrev PMb (X : Cx) (ct : CT) (e : Expr) (t : Tx) : Prop := ∀ A, PT X e (tMb X.K ct A t)
abbrev PMi (X : Cx) (ct : CT) (tg e : Expr) (t : Ix) : Prop := ∀ A, PI X tg e (tMi X.K ct A t)
abbrev PMf (X : Cx) (ct : CT) (e : Expr) (t : Ex) : Prop := ∀ A, PE X e (tMf X.K ct A t)
abbrev WF : Wish := fun _ _ _ _ => True
/-- without the lists of its own; with them, the value without lists -/
def strict {α : Type} (t : Env → Store → R α) : Env → Store → R α := fun G S => t (hide G) S
def relax (t : Ex) : Ex := fun G S => match t G S with
  | .ok d S1 => if d.flat = true ∧ Store.flat S1 = true then .ok d S1 else .bad
  | _ => .bad
def relaxb (t : Tx) : Tx := fun G S => match t G S with
  | .ok d S1 => if Store.flat S1 = true then .ok d S1 else .bad
  | _ => .bad
section
variable {X : Cx} {ct : CT} {W : Wish} {e tg : Expr} {t : Ex} {tb : Tx} {ti : Ix}
theorem resS {K : PySem.W.Frag} {o : Om} {H : Hp} {α : Type} {r : R α} {Q Q' : α → Store → Prop} (h : ResS r Q) (k : ∀ a S, Q a S → Q' a S) : Res K ct W o H r Q' := by
  cases r with
  | ok a S => exact k a S h
  | exc x S => exact h.elim
  | bad => exact h.elim
theorem pm_strict (h : PD X ct W e t) : PM X ct e (strict t) := fun A => PE.wk h fun σ H Q ⟨o, lo, G, S, r, q⟩ =>
  ⟨o.wi lo, hide G, S, r.hid, resS q fun d S1 k o' v H1 x1 s1 r1 => by
    obtain ⟨o2, e, r2⟩ := r.afterS x1 s1
    subst e
    exact k o2 v H1 ⟨r2, x1.mono r.s, r.keptS x1⟩ r1⟩
theorem pmb_strict (h : PDb X ct W e tb) : PMb X ct e (strict tb) := fun A => PT.wk h fun σ H Q ⟨o, lo, G, S, r, q⟩ =>
  ⟨o.wi lo, hide G, S, r.hid, resS q fun d S1 k o' H1 x1 s1 => by
    obtain ⟨o2, e, r2⟩ := r.afterS x1 s1
    subst e
    exact k o2 H1 ⟨r2, x1.mono r.s, r.keptS x1⟩⟩
theorem pmi_strict (h : PDi X ct W tg e ti) : PMi X ct tg e (strict ti) := fun A => PI.wk h fun σ H Q ⟨o, lo, G, S, r, q⟩ =>
  ⟨o.wi lo, hide G, S, r.hid, resS q fun d S1 k o' H1 J x1 s1 w => by
    obtain ⟨o2, e, r2⟩ := r.afterS x1 s1
    subst e
    exact k o2 J H1 ⟨r2, x1.mono r.s, r.keptS x1⟩ w⟩
theorem pm_relax (h : PD X ct W e t) : PM X ct e (relax t) := fun A => PE.wk h fun σ H Q ⟨o, lo, G, S, r, q⟩ => by
  refine ⟨o, G, S, r.full, ?_⟩
  unfold relax at q
  cases ev : t G S with
  | ok d S1 =>
    rw [ev] at q
    dsimp only at q
    split at q
    · rename_i hz
      intro o' v H1 x1 s1 r1
      exact q o' v H1 ⟨r.afterF x1 s1 hz.2, r.monoF x1, r.keptF x1⟩ (r1.flat hz.1)
    · exact q.elim
  | exc x S1 => rw [ev] at q; exact q.elim
  | bad => rw [ev] at q; exact q.elim
theorem pmb_relax (h : PDb X ct W e tb) : PMb X ct e (relaxb tb) := fun A => PT.wk h fun σ H Q ⟨o, lo, G, S, r, q⟩ => by
  refine ⟨o, G, S, r.full, ?_⟩
  unfold relaxb at q
  cases ev : tb G S with
  | ok d S1 =>
    rw [ev] at q
    dsimp only at q
    split at q
    · rename_i hz
      intro o' H1 x1 s1
      exact q o' H1 ⟨r.afterF x1 s1 hz, r.monoF x1, r.keptF x1⟩
    · exact q.elim
  | exc x S1 => rw [ev] at q; exact q.elim
  | bad => rw [ev] at q; exact q.elim
end

/-! ### statements -/
def NxK (K : PySem.W.Frag) (ct : CT) (A : Om × Hp) (o : Om) (H : Hp) (N : L2.St → Hp → Prop) (G' : Env) (S' : Store) : Prop := ∀ o' lo' σ' H', StRel K ct A o' lo' G' S' σ' H' → Mono K o (o'.wi lo') H H' → N σ' H'
def OutOk (K : PySem.W.Frag) (ct : CT) (A : Om × Hp) (o : Om) (H : Hp) (D : Ends) : Out → Prop
  | .nx G S => NxK K ct A o H D.nx G S
  | .rt d S => After K ct A.1 A.2 D.rt d S
  | .bk G S => NxK K ct A o H D.bk G S
  | .ct G S => NxK K ct A o H D.ct G S
  | _ => False
def tS (K : PySem.W.Frag) (ct : CT) (A : Om × Hp) (t : St) : TS := fun D σ H => ∃ o lo G S, StRel K ct A o lo G S σ H ∧ OutOk K ct A (o.wi lo) H D (t G S)
abbrev PSD (X : Cx) (ct : CT) (st : Stmt) (t : St) : Prop := ∀ A, PS X st (tS X.K ct A t)
abbrev PSDs (X : Cx) (ct : CT) (st : List Stmt) (t : St) : Prop := ∀ A, PSs X st (tS X.K ct A t)
section
variable {K : PySem.W.Frag} {ct : CT} {A : Om × Hp} {o o1 : Om} {H H1 : Hp} {D D' : Ends} {out : Out}
theorem NxK.later {N : L2.St → Hp → Prop} {G : Env} {S : Store} (m : Mono K o o1 H H1) (h : NxK K ct A o H N G S) : NxK K ct A o1 H1 N G S := fun o' lo' σ' H' r m' => h o' lo' σ' H' r (m.trans m')
theorem OutOk.later (m : Mono K o o1 H H1) (h : OutOk K ct A o H D out) : OutOk K ct A o1 H1 D out := by
  cases out with
  | nx G S => exact NxK.later m h
  | rt d S => exact h
  | bk G S => exact NxK.later m h
  | ct G S => exact NxK.later m h
  | exc => exact h
  | bad => exact h
end
def snx : St := fun G S => .nx G S
def sbk : St := fun G S => .bk G S
def sct : St := fun G S => .ct G S
def sseq (t u : St) : St := fun G S => match t G S with
  | .nx G' S' => u G' S'
  | z => z
def sset (i : Nat) (t : Ex) : St := fun G S => match t G S with
  | .ok d S1 => .nx (G.set i (.val d)) S1
  | _ => .bad
def sown (i : Nat) (t : Ex) : St := fun G S => match t G S with
  | .ok (.lst ds) S1 => if i < G.length ∧ D.flats ds = true ∧ Store.flat S1 = true then .nx (G.set i (.own ds)) S1 else .bad
  | _ => .bad
def sfrz (i : Nat) (t : St) : St := fun G S => match G[i]? with
  | some (.own ds) => t (G.set i (.val (.lst ds))) S
  | _ => t G S
def sret (t : Ex) : St := fun G S => match t G S with
  | .ok d S1 => .rt d S1
  | _ => .bad
def sdrop (t : Ex) : St := fun G S => match t G S with
  | .ok _ S1 => .nx G S1
  | _ => .bad
def sif (c : Tx) (t u : St) : St := fun G S => match c G S with
  | .ok true S1 => t G S1
  | .ok false S1 => u G S1
  | _ => .bad
section
variable {X : Cx} {ct : CT} {W : Wish} {e tg : Expr} {t : Ex} {tb : Tx} {ti : Ix} {st : Stmt} {sts a b : List Stmt} {u u' : St} {pos pos' : Pos} {x : Str}
theorem PS.wk {t t' : TS} (h : PS X st t) (k : ∀ D σ H, t' D σ H → t D σ H) : PS X st t' := ⟨fun pins s σ H D I w => h.run pins s σ H D I (k D σ H w)⟩
theorem PSs.wk {t t' : TS} (h : PSs X sts t) (k : ∀ D σ H, t' D σ H → t D σ H) : PSs X sts t' := ⟨fun pins s σ H D I w => h.run pins s σ H D I (k D σ H w)⟩
theorem psd_nil : PSDs X ct [] snx := fun A => PSs.wk pss_nil fun D σ H ⟨o, lo, G, S, r, q⟩ => q o lo σ H r .refl
theorem psd_cons (h1 : PSD X ct st u) (h2 : PSDs X ct sts u') : PSDs X ct (st :: sts) (sseq u u') := fun A => PSs.wk (pss_cons (h1 A) (h2 A)) fun D σ H ⟨o, lo, G, S, r, q⟩ => by
  refine ⟨o, lo, G, S, r, ?_⟩
  have q : OutOk X.K ct A (o.wi lo) H D (match u G S with
    | .nx G' S' => u' G' S'
    | z => z) := q
  cases e : u G S with
  | nx G1 S1 =>
    rw [e] at q
    exact fun o1 lo1 σ1 H1 r1 m1 => ⟨o1, lo1, G1, S1, r1, q.later m1⟩
  | rt d S1 => rw [e] at q; exact q
  | bk G1 S1 => rw [e] at q; exact q
  | ct G1 S1 => rw [e] at q; exact q
  | exc _ _ _ => rw [e] at q; exact q
  | bad => rw [e] at q; exact q
theorem psd_one (h1 : PSD X ct st u) : PSDs X ct [st] u := fun A => pss_one (h1 A)
theorem psd_pass : PSD X ct (.Pass pos) snx := fun A => PS.wk ps_pass fun D σ H ⟨o, lo, G, S, r, q⟩ => q o lo σ H r .refl
theorem psd_break : PSD X ct (.Break pos) sbk := fun A => PS.wk ps_break fun D σ H ⟨o, lo, G, S, r, q⟩ => q o lo σ H r .refl
theorem psd_cont : PSD X ct (.Continue pos) sct := fun A => PS.wk ps_continue fun D σ H ⟨o, lo, G, S, r, q⟩ => q o lo σ H r .refl
theorem psd_doc {j : Nat} {p : Pos} : PSD X ct (.Expr (.Constant (.str x) j p) pos') snx := fun A => PS.wk ps_doc fun D σ H ⟨o, lo, G, S, r, q⟩ => q o lo σ H r .refl
/-- a list of its own is no longer changed -/
theorem psds_frz {i : Nat} (h : PSDs X ct sts u) : PSDs X ct sts (sfrz i u) := fun A => PSs.wk (h A) fun D σ H ⟨o, lo, G, S, r, q⟩ => by
  unfold sfrz at q
  split at q
  · rename_i ds e
    exact ⟨o, lo.rm i, _, S, r.frz e, q.later (StRel.rmMono i)⟩
  · exact ⟨o, lo, G, S, r, q⟩
theorem psd_ret (h : PD X ct W e t) : PSD X ct (.Return (some e) pos) (sret t) := fun A => PS.wk (ps_ret h) fun D σ H ⟨o, lo, G, S, r, q⟩ => by
  refine ⟨o, G, S, r.full, ?_⟩
  unfold sret at q
  cases ev : t G S with
  | ok d S1 =>
    rw [ev] at q
    intro o' v H1 x1 s1 r1
    exact q o' v H1 (r.x.trans x1) s1 r1
  | exc x S1 => rw [ev] at q; exact q.elim
  | bad => rw [ev] at q; exact q.elim
theorem psd_retN : PSD X ct (.Return none pos) (sret (ec .non)) := fun A => PS.wk ps_retN fun D σ H ⟨o, lo, G, S, r, q⟩ => q o .non H r.x r.s0 .non
theorem psd_set {i : Nat} (h : PM X ct e t) (hN : X.N.Nodup) (hi : X.N[i]? = some x) (hx : Loc X.env.scope x) (hs : swapsWith e (some (.Name x pos')) pos.line X.env = pure false) (hf : X.fn x = true ∨ X.env.scope.names.lookup x = some .local) : PSD X ct (.Assign [.Name x pos'] e pos) (sset i t) := fun A =>
  PS.wk (ps_set hN hi hx (h A) hs hf) fun D σ H ⟨o, lo, G, S, r, q⟩ => by
    refine ⟨o, lo, G, S, r, ?_⟩
    unfold sset at q
    cases ev : t G S with
    | ok d S1 =>
      rw [ev] at q
      intro o1 v H1 T r1
      exact q o1 (lo.rm i) _ H1 (T.r.set (r1.mono (StRel.rmMono i))) (T.m.trans (StRel.rmMono i))
    | exc x S1 => rw [ev] at q; exact q.elim
    | bad => rw [ev] at q; exact q.elim
theorem psd_own {i : Nat} (h : PMf X ct e t) (hN : X.N.Nodup) (hi : X.N[i]? = some x) (hx : Loc X.env.scope x) (hs : swapsWith e (some (.Name x pos')) pos.line X.env = pure false) (hf : X.fn x = true ∨ X.env.scope.names.lookup x = some .local) : PSD X ct (.Assign [.Name x pos'] e pos) (sown i t) := fun A =>
  PS.wk (ps_set hN hi hx (h A) hs hf) fun D σ H ⟨o, lo, G, S, r, q⟩ => by
    refine ⟨o, lo, G, S, r, ?_⟩
    unfold sown at q
    cases ev : t G S with
    | ok d S1 =>
      rw [ev] at q
      cases d with
      | lst ds =>
        dsimp only at q
        split at q
        · rename_i hz
          refine ⟨ds, rfl, hz.2.1, fun o1 l vs H1 T hn hl hb rl => ?_⟩
          obtain ⟨r2, m2⟩ := StRel.own r T.r T.m T.k hz.1 hl hn hb rl hz.2.1 hz.2.2
          exact q o1 (lo.ad i l) _ H1 r2 m2
        · exact q.elim
      | _ => exact q.elim
    | exc x S1 => rw [ev] at q; exact q.elim
    | bad => rw [ev] at q; exact q.elim
theorem psd_drop (h : PM X ct e t) (hs : swapsWith e none pos.line X.env = pure false) : PSD X ct (.Expr e pos) (sdrop t) := fun A =>
  PS.wk (ps_expr (h A) hs) fun D σ H ⟨o, lo, G, S, r, q⟩ => by
    refine ⟨o, lo, G, S, r, ?_⟩
    unfold sdrop at q
    cases ev : t G S with
    | ok d S1 =>
      rw [ev] at q
      intro o1 v H1 T r1
      exact q o1 lo σ H1 T.r T.m
    | exc x S1 => rw [ev] at q; exact q.elim
    | bad => rw [ev] at q; exact q.elim
theorem psd_if {c : Expr} (hc : PMb X ct c tb) (ha : PSDs X ct a u) (hb : PSDs X ct b u') : PSD X ct (.If c a b pos) (sif tb u u') := fun A =>
  PS.wk (ps_if (hc A) (ha A) (hb A)) fun D σ H ⟨o, lo, G, S, r, q⟩ => by
    refine ⟨o, lo, G, S, r, ?_⟩
    unfold sif at q
    cases ev : tb G S with
    | ok d S1 =>
      rw [ev] at q
      intro o1 H1 T
      cases d with
      | true => exact ⟨o1, lo, G, S1, T.r, OutOk.later T.m q⟩
      | false => exact ⟨o1, lo, G, S1, T.r, OutOk.later T.m q⟩
    | exc x S1 => rw [ev] at q; exact q.elim
    | bad => rw [ev] at q; exact q.elim
end
end DL

end
section
set_option maxRecDepth 100000
set_option maxHeartbeats 2000000
/-! The data layer: targets, loops, lists changed in place. -/
namespace DL
open PySem PySem.Spec PyProof.Rows L2

/-! ### targets -/
def gT (K : PySem.W.Frag) (ct : CT) (A : Om × Hp) (g : Tg) : TG := fun v σ H Q => ∃ o lo G S d G', StRel K ct A o lo G S σ H ∧ Rep K (o.wi lo) H v d ∧ g.put d G = some G' ∧ NxK K ct A (o.wi lo) H Q G' S
def gTs (K : PySem.W.Frag) (ct : CT) (A : Om × Hp) (g : List Tg) : TGs := fun v σ H Q => ∃ o lo G S d G', StRel K ct A o lo G S σ H ∧ RepL K (o.wi lo) H v d ∧ Tg.puts g d G = some G' ∧ NxK K ct A (o.wi lo) H Q G' S
abbrev PGD (X : Cx) (ct : CT) (tg : Expr) (g : Tg) : Prop := ∀ A, PG X tg (gT X.K ct A g)
abbrev PGDs (X : Cx) (ct : CT) (tg : List Expr) (g : List Tg) : Prop := ∀ A, PGs X tg (gTs X.K ct A g)
section
variable {X : Cx} {ct : CT} {W : Wish} {e tg : Expr} {es : List Expr} {t : Ex} {tb : Tx} {ti : Ix} {st : Stmt} {sts a b : List Stmt} {u u' : St} {pos pos' : Pos} {x : Str} {g : Tg} {gs : List Tg}
theorem PG.wk {t t' : TG} (h : PG X e t) (k : ∀ v σ H Q, t' v σ H Q → t v σ H Q) : PG X e t' := ⟨fun pins s σ H v u Q I r w => h.run pins s σ H v u Q I r (k v σ H Q w)⟩
theorem PG.kf {t : TG} (h : PG X e t) : PG X e (fun v σ H Q => KF X.K H → t v σ H Q) := ⟨fun pins s σ H v u Q I r w => h.run pins s σ H v u Q I r (w (kf_of I))⟩
theorem PGs.wk {t t' : TGs} (h : PGs X es t) (k : ∀ v σ H Q, t' v σ H Q → t v σ H Q) : PGs X es t' := ⟨fun pins s σ H v u Q I r w => h.run pins s σ H v u Q I r (k v σ H Q w)⟩
theorem pgd_name {i : Nat} (hN : X.N.Nodup) (hi : X.N[i]? = some x) (hx : Loc X.env.scope x) (hf : X.fn x = true ∨ X.env.scope.names.lookup x = some .local) : PGD X ct (.Name x pos) (.nm i) := fun A =>
  PG.wk (pg_name hN hi hx hf) fun v σ H Q ⟨o, lo, G, S, d, G', r, rv, e, q⟩ => by
    cases e
    exact q o (lo.rm i) _ H (r.set (rv.mono (StRel.rmMono i))) (StRel.rmMono i)
theorem pgds_nil : PGDs X ct [] [] := fun A => PGs.wk pgs_nil fun v σ H Q ⟨o, lo, G, S, d, G', r, rv, e, q⟩ => by
  cases rv with
  | nil => cases e; exact ⟨rfl, q o lo σ H r .refl⟩
  | cons _ _ => cases e
theorem pgds_cons (h1 : PGD X ct e g) (h2 : PGDs X ct es gs) (hs : (assignEach (e :: es) X.env).map (·.2) = assign e X.env :: (assignEach es X.env).map (·.2) := by rfl) : PGDs X ct (e :: es) (g :: gs) := fun A =>
  PGs.wk (pgs_cons (h1 A) (h2 A) hs) fun v σ H Q ⟨o, lo, G, S, d, G', r, rv, e, q⟩ => by
    cases rv with
    | nil => cases e
    | @cons v1 d1 vs ds r1 r2 =>
      have e : (Tg.put g d1 G).bind (Tg.puts gs ds) = some G' := e
      cases e1 : Tg.put g d1 G with
      | none => rw [e1] at e; cases e
      | some G1 =>
        rw [e1] at e
        exact ⟨_, _, rfl, o, lo, G, S, d1, G1, r, r1, e1, fun o1 lo1 σ1 H1 ra m => ⟨o1, lo1, G1, S, ds, G', ra, r2.mono m, e, NxK.later m q⟩⟩
theorem puts_len : ∀ {gs : List Tg} {ds : List D} {G G' : Env}, Tg.puts gs ds G = some G' → ds.length = gs.length
  | [], [], _, _, _ => rfl
  | [], _ :: _, _, _, h => by cases h
  | _ :: _, [], _, _, h => by cases h
  | g :: gs, d :: ds, G, G', h => by
    have h : (Tg.put g d G).bind (Tg.puts gs ds) = some G' := h
    cases e1 : Tg.put g d G with
    | none => rw [e1] at h; cases h
    | some G1 =>
      rw [e1] at h
      rw [List.length_cons, List.length_cons, puts_len (gs := gs) h]
theorem PG.wk2 {X : Cx} {tg : Expr} {t t1 t2 : TG} (h1 : PG X tg t1) (h2 : PG X tg t2) (k : ∀ v σ H Q, t v σ H Q → t1 v σ H Q ∨ t2 v σ H Q) : PG X tg t :=
  ⟨fun pins s σ H v u Q I r w => (k v σ H Q w).elim (h1.run pins s σ H v u Q I r) (h2.run pins s σ H v u Q I r)⟩
theorem pgd_tup {k n : Nat} (hc : X.calm = true) (h : PGDs X ct es gs) (hl : gs.length = n) (hn : (assignEach es X.env).length = n) (hst : (assignEach es X.env).findIdx? (·.1) = none) : PGD X ct (.Tuple es k pos) (.tp gs) := fun A =>
  PG.wk2 (pg_tup hc (h A) hn hst) (pg_lst hc (h A) hn hst) fun v σ H Q ⟨o, lo, G, S, d, G', r, rv, e, q⟩ => by
    cases rv with
    | @tup a vs ds ht rs =>
      refine .inl ⟨a, vs, rfl, ht, ?_, o, lo, G, S, ds, G', r, rs, e, q⟩
      rw [rs.length, puts_len (gs := gs) e, hl]
    | @lst a vs ds hl2 nb rs =>
      refine .inr ⟨a, vs, rfl, SqL.of hl2, ?_, o, lo, G, S, ds, G', r, rs, e, q⟩
      rw [rs.length, puts_len (gs := gs) e, hl]
    | _ => cases e
/-- target = value -/
def sasg (g : Tg) (t : Ex) : St := fun G S => match t G S with
  | .ok d S1 => match g.put d G with
    | some G' => .nx G' S1
    | none => .bad
  | _ => .bad
theorem psd_asg (h : PM X ct e t) (hg : PGD X ct tg g) (hs : swapsWithSole [tg] e pos.line X.env = pure false) (hw : swappedStores [tg] e X.env = pure none)
    (h1 : (assignEach [tg] X.env).map (·.2) = [assign tg X.env] := by rfl) : PSD X ct (.Assign [tg] e pos) (sasg g t) := fun A =>
  PS.wk (ps_asg (h A) (hg A) hs hw h1) fun D σ H ⟨o, lo, G, S, r, q⟩ => by
    refine ⟨o, lo, G, S, r, ?_⟩
    unfold sasg at q
    cases ev : t G S with
    | ok d S1 =>
      rw [ev] at q
      dsimp only at q
      cases e1 : g.put d G with
      | none => rw [e1] at q; exact q.elim
      | some G1 =>
        rw [e1] at q
        exact fun o1 v H1 T rv => ⟨o1, lo, G, S1, d, G1, T.r, rv, e1, NxK.later T.m q⟩
    | exc x S1 => rw [ev] at q; exact q.elim
    | bad => rw [ev] at q; exact q.elim
/-- a, b = x, y -/
def tMs (K : PySem.W.Frag) (ct : CT) (A : Om × Hp) (t : Exs) : TA := fun σ H Q => ∃ o lo G S, StRel K ct A o lo G S σ H ∧ ResS (t G S) fun d S1 => ∀ o1 v H1, Then K ct A o lo G σ H o1 S1 H1 → RepL K (o1.wi lo) H1 v d → Q v H1
abbrev PMs (X : Cx) (ct : CT) (es : List Expr) (t : Exs) : Prop := ∀ A, PA X es (tMs X.K ct A t)
def relaxs (t : Exs) : Exs := fun G S => match t G S with
  | .ok d S1 => if D.flats d = true ∧ Store.flat S1 = true then .ok d S1 else .bad
  | _ => .bad
theorem pms_strict {t : Exs} (h : PDs X ct W es t) : PMs X ct es (strict t) := fun A => PA.wk h fun σ H Q ⟨o, lo, G, S, r, q⟩ =>
  ⟨o.wi lo, hide G, S, r.hid, resS q fun d S1 k o' v H1 x1 s1 r1 => by
    obtain ⟨o2, e, r2⟩ := r.afterS x1 s1
    subst e
    exact k o2 v H1 ⟨r2, x1.mono r.s, r.keptS x1⟩ r1⟩
theorem pms_relax {t : Exs} (h : PDs X ct W es t) : PMs X ct es (relaxs t) := fun A => PA.wk h fun σ H Q ⟨o, lo, G, S, r, q⟩ => by
  refine ⟨o, G, S, r.full, ?_⟩
  unfold relaxs at q
  cases ev : t G S with
  | ok d S1 =>
    rw [ev] at q
    dsimp only at q
    split at q
    · rename_i hz
      intro o' v H1 x1 s1 r1
      exact q o' v H1 ⟨r.afterF x1 s1 hz.2, r.monoF x1, r.keptF x1⟩ (r1.flats hz.1)
    · exact q.elim
  | exc x S1 => rw [ev] at q; exact q.elim
  | bad => rw [ev] at q; exact q.elim
def spar (i j : Nat) (t : Exs) : St := fun G S => match t G S with
  | .ok [d, e] S1 => .nx ((G.set i (.val d)).set j (.val e)) S1
  | _ => .bad
theorem psd_par {i j : Nat} {y : Str} {ea eb : Expr} {t : Exs} {px py pt : Pos} {kt k2 : Nat} {pt2 : Pos} (h : PMs X ct [ea, eb] t) (hc : X.calm = true) (hN : X.N.Nodup) (hi : X.N[i]? = some x) (hj : X.N[j]? = some y) (hij : i ≠ j)
    (hx : X.env.scope.names.lookup x = some .local) (hy : X.env.scope.names.lookup y = some .local)
    (hw : swappedStores [.Tuple [.Name x px, .Name y py] kt pt] (.Tuple [ea, eb] k2 pt2) X.env = pure (some [x, y]))
    (hs : swapsWithSole [.Tuple [.Name x px, .Name y py] kt pt] (.Tuple [ea, eb] k2 pt2) pos.line X.env = pure false) : PSD X ct (.Assign [.Tuple [.Name x px, .Name y py] kt pt] (.Tuple [ea, eb] k2 pt2) pos) (spar i j t) := fun A =>
  PS.wk (ps_par hc hN hi hj hij hx hy (h A) hw hs) fun D σ H ⟨o, lo, G, S, r, q⟩ => by
    refine ⟨o, lo, G, S, r, ?_⟩
    unfold spar at q
    cases ev : t G S with
    | ok d S1 =>
      rw [ev] at q
      intro o1 v H1 T rv
      split at q
      · rename_i d1 d2 S2 he
        cases he
        obtain ⟨v1, v2, rfl, r1, r2⟩ := rv.two
        have ra := T.r.set (i := i) (r1.mono (StRel.rmMono i))
        have m1 : Mono X.K (o1.wi lo) (o1.wi (lo.rm i)) H1 H1 := StRel.rmMono i
        have m2 : Mono X.K (o1.wi (lo.rm i)) (o1.wi ((lo.rm i).rm j)) H1 H1 := StRel.rmMono j
        exact ⟨v1, v2, rfl, q o1 _ _ H1 (ra.set (i := j) (r2.mono (m1.trans m2))) ((T.m.trans m1).trans m2)⟩
      · exact q.elim
    | exc x S1 => rw [ev] at q; exact q.elim
    | bad => rw [ev] at q; exact q.elim
/-- name op= value -/
def saug (i : Nat) (f : D → D → Option D) (t : Ex) : St := fun G S => match G[i]? with
  | some (.val d) => match t G S with
    | .ok y S1 => match f d y with
      | some z => .nx (G.set i (.val z)) S1
      | none => .bad
    | _ => .bad
  | _ => .bad
theorem psd_aug {i : Nat} {op : Operator} {f : D → D → Option D} (h : PM X ct e t) (ho : OpS X ct (inplaceOp op) f) (hN : X.N.Nodup) (hi : X.N[i]? = some x) (hx : Loc X.env.scope x) (hf : X.fn x = true ∨ X.env.scope.names.lookup x = some .local) : PSD X ct (.AugAssign (.Name x pos') op e pos) (saug i f t) := fun A =>
  PS.wk (ps_aug hN hi hx (h A) ho hf) fun D σ H ⟨o, lo, G, S, r, q⟩ => by
    unfold saug at q
    split at q
    · rename_i d he
      obtain ⟨y, e1, ry⟩ := r.v i d he
      refine ⟨y, e1, o, lo, G, S, r, ?_⟩
      cases ev : t G S with
      | ok d1 S1 =>
        rw [ev] at q
        intro o1 v H1 T rv
        dsimp only at q
        cases ef : f d d1 with
        | none => rw [ef] at q; exact q.elim
        | some z =>
          rw [ef] at q
          refine ⟨o1.wi lo, S1, d, d1, z, T.r.s, ry.mono T.m, rv, ef, fun o' w H2 x2 s2 r2 => ?_⟩
          obtain ⟨o2, e2, r3⟩ := T.r.afterS x2 s2
          subst e2
          exact q o2 (lo.rm i) _ H2 (r3.set (r2.mono (StRel.rmMono i))) ((T.m.trans (x2.mono T.r.s)).trans (StRel.rmMono i))
      | exc x S1 => rw [ev] at q; exact q.elim
      | bad => rw [ev] at q; exact q.elim
    · exact q.elim

/-! ### for -/
def runFor (g : Tg) (u : St) : List D → Env → Store → Out
  | [], G, S => .nx G S
  | d :: r, G, S => match g.put d G with
    | some G1 => match u G1 S with
      | .nx G2 S2 => runFor g u r G2 S2
      | .ct G2 S2 => runFor g u r G2 S2
      | .bk G2 S2 => .nx G2 S2
      | z => z
    | none => .bad
def sfor (it : Ix) (g : Tg) (u : St) : St := fun G S => match it G S with
  | .ok ds S1 => runFor g u ds G S1
  | _ => .bad
theorem Mono.grown {K : PySem.W.Frag} {o : Om} {H : Hp} {T : Addr} {w : HO} (hT : H T = none) : Mono K o o H (upd H T w) := by
  have ne : ∀ {b w}, H b = some w → b ≠ T := fun h z => by rw [z, hT] at h; cases h
  refine ⟨fun a xs h => ?_, fun a xs _ h => ?_, fun a xs _ h => by rw [upd_ne (ne h)]; exact h, fun _ _ _ n => n, Nat.le_refl _, fun _ _ => rfl, fun _ _ _ h => h⟩
  · rcases h with (h | ⟨ob, h⟩) | h
    · exact .inl (.inl (by rw [upd_ne (ne h)]; exact h))
    · exact .inl (.inr ⟨ob, by rw [upd_ne (ne h)]; exact h⟩)
    · exact .inr h
  · rcases h with (h | ⟨ob, h⟩) | h
    · exact .inl (.inl (by rw [upd_ne (ne h)]; exact h))
    · exact .inl (.inr ⟨ob, by rw [upd_ne (ne h)]; exact h⟩)
    · exact .inr h
theorem StRel.grown {K : PySem.W.Frag} {A : Om × Hp} {o : Om} {lo : Lo} {G : Env} {S : Store} {σ : L2.St} {H : Hp} {T : Addr} {w : HO} (r : StRel K ct A o lo G S σ H) (hT : H T = none) (kf : KF K (upd H T w)) : StRel K ct A o lo G S σ (upd H T w) := by
  have ne : ∀ {b w}, H b = some w → b ≠ T := fun h z => by rw [z, hT] at h; cases h
  have m : Mono K (o.wi lo) (o.wi lo) H (upd H T w) := Mono.grown hT
  refine ⟨r.s.grown hT kf, r.len, fun i d h => let ⟨y, q1, q2⟩ := r.v i d h; ⟨y, q1, q2.mono m⟩, fun i ds h => let ⟨l, vs, q1, q2, q3, q4⟩ := r.w i ds h; ⟨l, vs, q1, q2, by rw [upd_ne (ne q3)]; exact q3, q4.mono m⟩, r.wo, r.inj, r.nb, r.nh, r.fr, r.x.trans (.grown hT)⟩
/-- one value yielded -/
theorem yielded {K : PySem.W.Frag} {A : Om × Hp} {o0 o : Om} {lo : Lo} {G : Env} {S : Store} {σ : L2.St} {H0 H H' : Hp} {J : It} {ds : List D} {i : Nat} {v : V} (w : WD K o0 H0 J ds) (hi : i < ds.length) (m : Mono K o0 (o.wi lo) H0 H) (r : StRel K ct A o lo G S σ H) (y : J.yld i H v H') (kf : KF K H') :
    StRel K ct A o lo G S σ H' ∧ Mono K (o.wi lo) (o.wi lo) H H' ∧ ∃ d, ds[i]? = some d ∧ Rep K (o.wi lo) H' v d := by
  rcases w.yields i _ _ v H' hi m y with ⟨e, d, h1, h2⟩ | ⟨T, vs, xs, h1, h2, h3, h4, h5⟩
  · subst e
    exact ⟨r, .refl, d, h1, h2⟩
  · subst h3
    subst h1
    exact ⟨r.grown h2 kf, .grown h2, _, h4, .tup (.of upd_same) (h5.mono (.grown h2))⟩
theorem psd_for (hi : PMi X ct tg e ti) (hg : PGD X ct tg g) (hb : PSDs X ct a u) (hp : PassesOwn (model X.prog X.w) X.A X.env X.xe) (hc : X.calm = true) (hs : ∀ x, foldedSetIterable e X.env x = pure x := by intro _; rfl) : PSD X ct (.For tg e a [] pos) (sfor ti g u) := fun A =>
  PS.wk (ps_for hp hc (hi A) (PG.kf (hg A)) (hb A) hs) fun D σ H ⟨o, lo, G, S, r, q⟩ => by
    refine ⟨o, lo, G, S, r, ?_⟩
    unfold sfor at q
    cases ev : ti G S with
    | ok ds S1 =>
      rw [ev] at q
      intro o1 J H1 T w
      refine ⟨fun i m σ' H' => i ≤ ds.length ∧ m = ds.length - i ∧ ∃ o' lo' G' S', StRel X.K ct A o' lo' G' S' σ' H' ∧ Mono X.K (o1.wi lo) (o'.wi lo') H1 H' ∧ OutOk X.K ct A (o'.wi lo') H' D (runFor g u (ds.drop i) G' S'), ⟨_, Nat.zero_le _, rfl, o1, lo, G, S1, T.r, .refl, OutOk.later T.m q⟩, ?_⟩
      rintro i m σ2 H2 ⟨hi, rfl, o2, lo2, G2, S2, r2, m2, q2⟩
      by_cases hlt : i < ds.length
      · refine .inr ⟨w.goes i _ _ hlt m2, fun σ' H' => ∃ o' lo' G' S', StRel X.K ct A o' lo' G' S' σ' H' ∧ Mono X.K (o1.wi lo) (o'.wi lo') H1 H' ∧ OutOk X.K ct A (o'.wi lo') H' D (runFor g u (ds.drop (i + 1)) G' S'), fun σ' H' z => ⟨ds.length - (i + 1), by omega, by omega, rfl, z⟩, fun v H' y kf => ?_⟩
        obtain ⟨r3, m3, d, hd, rv⟩ := yielded w hlt m2 r2 y kf
        have ed : ds.drop i = d :: ds.drop (i + 1) := by
          rw [List.drop_eq_getElem_cons hlt]
          have := List.getElem?_eq_getElem hlt
          rw [hd] at this
          cases this
          rfl
        rw [ed] at q2
        have q2 : OutOk X.K ct A (o2.wi lo2) H2 D (match g.put d G2 with
          | some G1 => match u G1 S2 with
            | .nx G2 S2 => runFor g u (ds.drop (i + 1)) G2 S2
            | .ct G2 S2 => runFor g u (ds.drop (i + 1)) G2 S2
            | .bk G2 S2 => .nx G2 S2
            | z => z
          | none => .bad) := q2
        cases eg : g.put d G2 with
        | none => rw [eg] at q2; exact q2.elim
        | some G3 =>
          rw [eg] at q2
          refine ⟨o2, lo2, G2, S2, d, G3, r3, rv, eg, fun o4 lo4 σ4 H4 r4 m4 => ⟨o4, lo4, G3, S2, r4, ?_⟩⟩
          have m5 := (m2.trans m3).trans m4
          have m6 := m3.trans m4
          dsimp only at q2
          cases eu : u G3 S2 with
          | nx G5 S5 =>
            rw [eu] at q2
            exact fun o6 lo6 σ6 H6 r6 m7 => ⟨o6, lo6, G5, S5, r6, m5.trans m7, OutOk.later (m6.trans m7) q2⟩
          | ct G5 S5 =>
            rw [eu] at q2
            exact fun o6 lo6 σ6 H6 r6 m7 => ⟨o6, lo6, G5, S5, r6, m5.trans m7, OutOk.later (m6.trans m7) q2⟩
          | bk G5 S5 =>
            rw [eu] at q2
            exact fun o6 lo6 σ6 H6 r6 m7 => q2 o6 lo6 σ6 H6 r6 (m6.trans m7)
          | rt d S5 => rw [eu] at q2; exact q2
          | exc _ _ _ => rw [eu] at q2; exact q2
          | bad => rw [eu] at q2; exact q2
      · have e : i = ds.length := by omega
        subst e
        rw [List.drop_length] at q2
        exact .inl ⟨w.stops _ _ m2, q2 o2 lo2 σ2 H2 r2 .refl⟩
    | exc x S1 => rw [ev] at q; exact q.elim
    | bad => rw [ev] at q; exact q.elim

/-! ### while -/
def runWhile (c : Tx) (u : St) : Nat → Env → Store → Out
  | 0, _, _ => .bad
  | n + 1, G, S => match c G S with
    | .ok true S1 => match u G S1 with
      | .nx G2 S2 => runWhile c u n G2 S2
      | .ct G2 S2 => runWhile c u n G2 S2
      | .bk G2 S2 => .nx G2 S2
      | z => z
    | .ok false S1 => .nx G S1
    | _ => .bad
def swhile (n : Nat) (c : Tx) (u : St) : St := runWhile c u n
theorem psd_while {n : Nat} {c : Expr} (hcnd : PMb X ct c tb) (hb : PSDs X ct a u) (hp : PassesOwn (model X.prog X.w) X.A X.env X.xe) : PSD X ct (.While c a [] pos) (swhile n tb u) := fun A =>
  PS.wk (ps_while hp (hcnd A) (hb A)) fun D σ H ⟨o, lo, G, S, r, q⟩ => by
    have q : OutOk X.K ct A (o.wi lo) H D (runWhile tb u n G S) := q
    refine ⟨fun m σ' H' => ∃ o' lo' G' S', StRel X.K ct A o' lo' G' S' σ' H' ∧ OutOk X.K ct A (o'.wi lo') H' D (runWhile tb u m G' S'), ⟨n, o, lo, G, S, r, q⟩, ?_⟩
    rintro m σ2 H2 ⟨o2, lo2, G2, S2, r2, q2⟩
    cases m with
    | zero => exact q2.elim
    | succ m =>
      have q2 : OutOk X.K ct A (o2.wi lo2) H2 D (match tb G2 S2 with
        | .ok true S1 => match u G2 S1 with
          | .nx G2 S2 => runWhile tb u m G2 S2
          | .ct G2 S2 => runWhile tb u m G2 S2
          | .bk G2 S2 => .nx G2 S2
          | z => z
        | .ok false S1 => .nx G2 S1
        | _ => .bad) := q2
      refine ⟨o2, lo2, G2, S2, r2, ?_⟩
      cases ev : tb G2 S2 with
      | ok d S1 =>
        rw [ev] at q2
        intro o3 H3 T
        cases d with
        | false => exact q2 o3 lo2 σ2 H3 T.r T.m
        | true =>
          refine ⟨fun σ' H' => ∃ o' lo' G' S', StRel X.K ct A o' lo' G' S' σ' H' ∧ OutOk X.K ct A (o'.wi lo') H' D (runWhile tb u m G' S'), fun σ' H' z => ⟨m, Nat.lt_succ_self _, z⟩, o3, lo2, G2, S1, T.r, ?_⟩
          dsimp only at q2
          cases eu : u G2 S1 with
          | nx G5 S5 =>
            rw [eu] at q2
            exact fun o6 lo6 σ6 H6 r6 m7 => ⟨o6, lo6, G5, S5, r6, OutOk.later (T.m.trans m7) q2⟩
          | ct G5 S5 =>
            rw [eu] at q2
            exact fun o6 lo6 σ6 H6 r6 m7 => ⟨o6, lo6, G5, S5, r6, OutOk.later (T.m.trans m7) q2⟩
          | bk G5 S5 =>
            rw [eu] at q2
            exact fun o6 lo6 σ6 H6 r6 m7 => q2 o6 lo6 σ6 H6 r6 (T.m.trans m7)
          | rt d S5 => rw [eu] at q2; exact q2
          | exc _ _ _ => rw [eu] at q2; exact q2
          | bad => rw [eu] at q2; exact q2
      | exc x S1 => rw [ev] at q2; exact q2.elim
      | bad => rw [ev] at q2; exact q2.elim
end
end DL

end
section
set_option maxRecDepth 100000
set_option maxHeartbeats 2000000
/-! The data layer: lists changed in place. -/
namespace DL
open PySem PySem.Spec PyProof.Rows L2

section
variable {K : PySem.W.Frag} {ct : CT} {A : Om × Hp} {o : Om} {lo : Lo} {G : Env} {S : Store} {σ : L2.St} {H : Hp} {l : Addr} {vs vs' : List V} {ds ds' : List D} {w : HO}
theorem Mono.badU (hl : H l = some (.lst vs)) (b : o.bad l) (kf : K.lookup l = none) : Mono K o o H (upd H l w) := by
  refine ⟨fun a xs h => ?_, fun a xs nb h => ?_, fun a xs nb h => by rw [upd_ne (show a ≠ l from fun e => nb (e ▸ b))]; exact h, fun _ _ _ n => n, Nat.le_refl _, fun _ _ => rfl, fun _ _ _ h => h⟩
  · rcases h with (h | ⟨ob, h⟩) | h
    · exact .inl (.inl (by rw [upd_ne (show a ≠ l from fun e => by rw [e, hl] at h; cases h)]; exact h))
    · exact .inl (.inr ⟨ob, by rw [upd_ne (show a ≠ l from fun e => by rw [e, hl] at h; cases h)]; exact h⟩)
    · exact .inr h
  · have ne : a ≠ l := fun e => nb (e ▸ b)
    rcases h with (h | ⟨ob, h⟩) | h
    · exact .inl (.inl (by rw [upd_ne ne]; exact h))
    · exact .inl (.inr ⟨ob, by rw [upd_ne ne]; exact h⟩)
    · exact .inr h
theorem kfU {u : HO} (kf : KF K H) (hl : H l = some u) : KF K (upd H l w) := fun b x h => by
  by_cases e : b = l
  · rw [e]; exact kf l u hl
  · rw [upd_ne e] at h; exact kf b x h
theorem thereU {u : HO} (hl : H l = some u) {a : Addr} {x : HO} (h : H a = some x) : ∃ y, upd H l w a = some y := by
  by_cases e : a = l
  · rw [e]; exact ⟨w, upd_same⟩
  · exact ⟨x, by rw [upd_ne e]; exact h⟩
/-- a list that is no object's -/
theorem SRel.wrote (r : SRel K ct o S H) (hl : H l = some (.lst vs)) (b : o.bad l) (nh : ¬ o.hot l) : SRel K ct o S (upd H l w) := by
  have m : Mono K o o H (upd H l w) := Mono.badU hl b (r.kf _ _ hl)
  refine ⟨r.n, kfU r.kf hl, fun k c e => ?_, r.inj, r.foI, r.foS, r.hb, fun a z => let ⟨u, q⟩ := r.ba a z; thereU hl q, r.cok⟩
  obtain ⟨cd, dx, vfs, h1, h2, h3, h4, h5, h6⟩ := (r.cell k c e).ex
  have hk : k < o.n := by rw [r.n]; exact (List.getElem?_eq_some_iff.mp e).1
  refine ⟨cd, dx, vfs, h1, by rw [upd_ne (show o.ρ k ≠ l from fun z => nh (.inl ⟨k, hk, z.symm⟩))]; exact h2, h3, h4, h5, fun j f s e1 e2 => ?_⟩
  have q := h6 j f s e1 e2
  cases s with
  | no => exact q
  | val d =>
    obtain ⟨q1, x', q2, q3⟩ := q
    exact ⟨q1, x', q2, q3.mono m⟩
  | own ds =>
    obtain ⟨l', vs', q1, q2, q3, q4⟩ := q
    exact ⟨l', vs', q1, q2, by rw [upd_ne (show l' ≠ l from fun z => nh (.inr ⟨k, j, z ▸ q1⟩))]; exact q3, q4.mono m⟩
theorem StRel.put (r : StRel K ct A o lo G S σ H) {i : Nat} (hi : G[i]? = some (.own ds)) (hl : lo i = some l) (hH : H l = some (.lst vs)) (q : RepL K (o.wi lo) H vs' ds') :
    StRel K ct A o lo (G.set i (.own ds')) S σ (upd H l (.lst vs')) ∧ Mono K (o.wi lo) (o.wi lo) H (upd H l (.lst vs')) := by
  have b : (o.wi lo).bad l := .inr ⟨i, hl⟩
  have m : Mono K (o.wi lo) (o.wi lo) H (upd H l (.lst vs')) := Mono.badU hH b (r.s.kf _ _ hH)
  have lt : i < G.length := (List.getElem?_eq_some_iff.mp hi).1
  obtain ⟨l0, vs0, p1, p2, p3, p4⟩ := r.w i ds hi
  rw [hl] at p1; cases p1
  refine ⟨⟨r.s.wrote hH b (r.nh i l hl), by rw [List.length_set]; exact r.len, fun j d h => ?_, fun j es h => ?_, fun j l' h => ?_, r.inj, r.nb, r.nh, r.fr, ?_⟩, m⟩
  · by_cases e : i = j
    · subst e
      rw [List.getElem?_set_self lt] at h; cases h
    · rw [List.getElem?_set_ne e] at h
      obtain ⟨x, q1, q2⟩ := r.v j d h
      exact ⟨x, q1, q2.mono m⟩
  · by_cases e : i = j
    · subst e
      rw [List.getElem?_set_self lt] at h; cases h
      exact ⟨l, vs', hl, p2, upd_same, q.mono m⟩
    · rw [List.getElem?_set_ne e] at h
      obtain ⟨l', vs2, q1, q2, q3, q4⟩ := r.w j es h
      exact ⟨l', vs2, q1, q2, by rw [upd_ne (show l' ≠ l from fun z => e (r.inj i j l hl (z ▸ q1)))]; exact q3, q4.mono m⟩
  · by_cases e : i = j
    · subst e
      exact ⟨ds', List.getElem?_set_self lt⟩
    · obtain ⟨es, q⟩ := r.wo j l' h
      exact ⟨es, by rw [List.getElem?_set_ne e]; exact q⟩
  · refine ⟨fun a u h n => ?_, fun a u h => ?_, r.x.n, r.x.r, r.x.badS, r.x.badN, r.x.hotN, r.x.f⟩
    · rw [upd_ne (show a ≠ l from fun z => by rw [z, r.fr i l hl] at h; cases h)]
      exact r.x.keep a u h n
    · obtain ⟨u', q⟩ := r.x.there a u h
      exact thereU hH q
/-- an object's own list -/
def fput (S : Store) (k j : Nat) (ds : List D) : Store := match S[k]? with
  | some c => S.set k { c with fs := c.fs.set j (.own ds) }
  | none => S
theorem fput_len (S : Store) (k j : Nat) (ds : List D) : (fput S k j ds).length = S.length := by
  unfold fput
  split
  · rw [List.length_set]
  · rfl
theorem StRel.fput (r : StRel K ct A o lo G S σ H) {k j : Nat} (hl : o.fo k j = some l) (hH : H l = some (.lst vs)) (q : RepL K (o.wi lo) H vs' ds') :
    StRel K ct A o lo G (fput S k j ds') σ (upd H l (.lst vs')) ∧ Mono K (o.wi lo) (o.wi lo) H (upd H l (.lst vs')) := by
  have hot : o.hot l := .inr ⟨k, j, hl⟩
  have b : (o.wi lo).bad l := r.s.hb l hot
  have m : Mono K (o.wi lo) (o.wi lo) H (upd H l (.lst vs')) := Mono.badU hH b (r.s.kf _ _ hH)
  obtain ⟨c, ds, vs0, e1, e2, e3, e4, e5⟩ := r.s.fl (k := k) (j := j) (a := l) hl
  have ck : k < S.length := (List.getElem?_eq_some_iff.mp e1).1
  have cj : j < c.fs.length := (List.getElem?_eq_some_iff.mp e2).1
  have eS : DL.fput S k j ds' = S.set k { c with fs := c.fs.set j (.own ds') } := by
    unfold DL.fput
    rw [e1]
  have apart : ∀ k', k' < o.n → o.ρ k' ≠ l := fun k' hk z => by
    obtain ⟨_, _, _, q⟩ := r.s.rhoA hk
    have q : H (o.ρ k') = _ := q
    rw [z, hH] at q; cases q
  rw [eS]
  refine ⟨⟨⟨by rw [List.length_set]; exact r.s.n, kfU r.s.kf hH, fun k' c' e => ?_, r.s.inj, r.s.foI, fun k' j' l' h => ?_, r.s.hb, fun a z => let ⟨u, q⟩ := r.s.ba a z; thereU hH q, r.s.cok⟩, r.len, fun i d h => let ⟨x, q1, q2⟩ := r.v i d h; ⟨x, q1, q2.mono m⟩, fun i es h => ?_, r.wo, r.inj, r.nb, r.nh, r.fr, ?_⟩, m⟩
  · have main : ∀ c0 : Cell, S[k']? = some c0 → (∀ s jj, c'.fs[jj]? = some s → (k' = k ∧ jj = j ∧ s = .own ds') ∨ (¬ (k' = k ∧ jj = j) ∧ c0.fs[jj]? = some s)) → c'.cls = c0.cls → c'.fs.length = c0.fs.length → CellRep K ct (o.wi lo) (upd H l (.lst vs')) k' c' := fun c0 h0 hs hc hn => by
      obtain ⟨cd, dx, vfs, h1, h2, h3, h4, h5, h6⟩ := (r.s.cell k' c0 h0).ex
      have hk : k' < o.n := by
        have := r.s.n
        have h : (o.wi lo).n = o.n := rfl
        rw [← h, this]
        exact (List.getElem?_eq_some_iff.mp h0).1
      refine ⟨cd, dx, vfs, by rw [hc]; exact h1, (upd_ne (apart k' hk)).trans h2, by rw [hn]; exact h3, h4, h5, fun jj f s f1 f2 => ?_⟩
      rcases hs s jj f2 with ⟨rfl, rfl, rfl⟩ | ⟨ne, f2⟩
      · rw [e1] at h0; cases h0
        have q' := h6 jj f _ f1 e2
        obtain ⟨l', vs2, q1, q2, q3, q4⟩ := q'
        have q1' : o.fo k' jj = some l' := q1
        rw [hl] at q1'; cases q1'
        exact ⟨l, vs', q1, q2, upd_same, q.mono m⟩
      · have q' := h6 jj f s f1 f2
        cases s with
        | no => exact q'
        | val d =>
          obtain ⟨q1, x', q2, q3⟩ := q'
          exact ⟨q1, x', q2, q3.mono m⟩
        | own es =>
          obtain ⟨l', vs2, q1, q2, q3, q4⟩ := q'
          refine ⟨l', vs2, q1, q2, ?_, q4.mono m⟩
          rw [upd_ne (show l' ≠ l from fun z => ne (r.s.foI k' jj k j l (z ▸ q1) hl))]
          exact q3
    by_cases e0 : k = k'
    · subst e0
      rw [List.getElem?_set_self ck] at e
      cases e
      refine main c e1 (fun s jj h => ?_) rfl (by simp)
      by_cases ej : j = jj
      · subst ej
        have h : (c.fs.set j (.own ds'))[j]? = some s := h
        rw [List.getElem?_set_self cj] at h
        cases h
        exact .inl ⟨rfl, rfl, rfl⟩
      · have h : (c.fs.set j (.own ds'))[jj]? = some s := h
        rw [List.getElem?_set_ne ej] at h
        exact .inr ⟨fun z => ej z.2.symm, h⟩
    · rw [List.getElem?_set_ne e0] at e
      exact main c' e (fun s jj h => .inr ⟨fun z => e0 z.1.symm, h⟩) rfl rfl
  · obtain ⟨c0, es, h1, h2⟩ := r.s.foS k' j' l' h
    by_cases e0 : k = k'
    · subst e0
      rw [e1] at h1; cases h1
      refine ⟨_, if j = j' then ds' else es, List.getElem?_set_self ck, ?_⟩
      show (c.fs.set j (.own ds'))[j']? = _
      by_cases ej : j = j'
      · subst ej
        rw [List.getElem?_set_self cj, if_pos rfl]
      · rw [List.getElem?_set_ne ej, if_neg ej]
        exact h2
    · exact ⟨c0, es, by rw [List.getElem?_set_ne e0]; exact h1, h2⟩
  · obtain ⟨l', vs2, q1, q2, q3, q4⟩ := r.w i es h
    exact ⟨l', vs2, q1, q2, by rw [upd_ne (show l' ≠ l from fun z => r.nh i l' q1 (z ▸ hot))]; exact q3, q4.mono m⟩
  · refine ⟨fun a u h n => ?_, fun a u h => ?_, r.x.n, r.x.r, r.x.badS, r.x.badN, r.x.hotN, r.x.f⟩
    · refine (upd_ne fun z => ?_).trans (r.x.keep a u h n)
      subst z
      rcases r.x.hotN a hot with z | z
      · exact n z
      · rw [h] at z; cases z
    · obtain ⟨u', q⟩ := r.x.there a u h
      exact thereU hH q
end

/-! ### append, extend -/
def D.items2 : D → Option (List D)
  | .lst xs => some xs
  | .tup xs => some xs
  | _ => none
/-- what is added: one item; the items of a list, of a tuple -/
def addOne (d : D) : Option (List D) := some [d]
def sadd (i : Nat) (f : D → Option (List D)) (t : Ex) : St := fun G S => match t G S with
  | .ok d S1 => match G[i]?, f d with
    | some (.own ds), some es => if ds.length + es.length ≤ 16777216 then .nx (G.set i (.own (ds ++ es))) S1 else .bad
    | _, _ => .bad
  | _ => .bad
def sfadd (to : Ex) (f : D → Option (List D)) (t : Ex) : St := fun G S => match to G S with
  | .ok (.fl k j) S0 => match t G S0 with
    | .ok d S1 => match deref S1 (.fl k j), f d with
      | .lst ds, some es => if ds.length + es.length ≤ 16777216 then .nx G (fput S1 k j (ds ++ es)) else .bad
      | _, _ => .bad
    | _ => .bad
  | _ => .bad
theorem meets_extT (l : Addr) (items : Array Value) (n : Nat) (b : Addr) (items2 : Array Value) (n2 : Nat) (hs0 : ¬(!items.isEmpty && Builtin.List.listTooLong (items.size + items2.size)) = true) (hs1 : items.size ≤ sizeLine) (hs2 : items.size + items2.size ≤ sizeLine + 1) :
    Meets (Builtin.«list.extend» ⟨[.ref l, .ref b], []⟩) (fun _ R s => s.heap.get? l = some { cls := .type "list", dict := none, data := .seq items n, slots := #[] } ∧ (∃ o, s.heap.get? b = some o ∧ o.cls = .type "tuple" ∧ o.data = .seq items2 n2) ∧
      R (.ok (.ret Value.none)) { s with heap := s.heap.update l (Obj.mapSeq fun x => x ++ items2), toks := s.toks }) := by
  intro prog w A R s ⟨hl, ⟨o, ho, hc, hd⟩, hR⟩
  show wpAny _ A.in1 (Builtin.List.listExtendWith (.ref l) (.ref b) .none) _ _ s
  unfold Builtin.List.listExtendWith
  refine wpAny_bind (wpAny_typeOf ⟨o, ho, hc⟩ ?_)
  have h1 : (Builtin.List.listSameRef (.ref l) (.ref b) || Value.type "tuple" == Value.type "list" || Value.type "tuple" == Value.type "tuple") = true := by simp
  simp only [h1, if_true]
  refine wpAny_bind ?_
  unfold Builtin.List.listItems
  refine wpAny_bind (wpAny_seqItems ho hd (wpAny_pure ?_))
  refine wpAny_bind ?_
  refine wpAny_bind (wpAny_seqItems hl rfl (wpAny_pure ?_))
  rw [if_neg hs0]
  show wpAny _ A.in1 (updateSeq l (· ++ items2) >>= fun _ => ret .none) _ _ s
  have hz' : (items ++ items2).size ≤ sizeLine + 1 := by rw [Array.size_append]; exact hs2
  refine wpAny_bind (wpAny_updateSeq hl rfl (hz := hs1) (_hz' := hz') ?_)
  exact wpAny_pure hR
def rExtT (K : PySem.W.Frag) : V → List V → Hp → VK → Prop := fun x vs H Q => ∃ l b xs zs, x = .ref l ∧ vs = [.ref b] ∧ H l = some (.lst xs) ∧ SqT K H b zs ∧ xs.length + zs.length ≤ sizeLine ∧ Q .non (upd H l (.lst (xs ++ zs)))
theorem mt_extT {X : Cx} : MtM X "list.extend" (rExtT X.K) := by
  intro pins s σ H x vs v us Q I rx rv h
  obtain ⟨l, b, xs, zs, rfl, rfl, hH, hB, hz, q⟩ := h
  cases rx
  obtain ⟨u, rfl, ru⟩ := rv.one
  cases ru
  obtain ⟨z, its, n, r, hl, e⟩ := I.lstM hH
  obtain ⟨its2, r2, ⟨ob, e2, c2, n2, d2⟩, z2⟩ := I.tuple hB
  have hl2 := r2.length
  have hlong : ¬ (!its.toArray.isEmpty && Builtin.List.listTooLong (its.toArray.size + its2.toArray.size)) = true := by
    have : Builtin.List.listTooLong (its.toArray.size + its2.toArray.size) = false := by
      unfold Builtin.List.listTooLong
      refine decide_eq_false ?_
      rw [List.size_toArray, List.size_toArray]
      have := line63
      omega
    rw [this, Bool.and_false]
    exact Bool.false_ne_true
  refine call_meets PySem.F.slot_list_extend ⟨_, e, rfl⟩ PySem.F.entry_list_extend (PySem.F.args_list_extend_2 _ _)
    (meets_extT l its.toArray n b its2.toArray n2 hlong (by rw [List.size_toArray]; omega) (by rw [List.size_toArray, List.size_toArray]; omega)) ⟨e, ⟨ob, e2, c2, d2⟩, ?_⟩
  refine ⟨.non, _, I.lset (its' := its ++ its2) hH e (by simp) (r.append r2) ?_, rfl, q⟩
  rw [List.length_append]
  omega
section
variable {X : Cx} {ct : CT} {W : Wish} {e oe ie : Expr} {t to ti : Ex} {pos pos' apos p : Pos} {x : Str} {f : D → Option (List D)} {id : String} {nm : Str} {r : V → List V → Hp → VK → Prop}
/-- a method that adds to a list -/
def AddR (K : PySem.W.Frag) (f : D → Option (List D)) (r : V → List V → Hp → VK → Prop) : Prop := ∀ (o : Om) (l : Addr) (y : V) (d : D) (es : List D) (xs : List V) (H : Hp) (Q : VK), Rep K o H y d → f d = some es → H l = some (.lst xs) → xs.length + es.length ≤ 16777216 →
  (∀ zs, RepL K o H zs es → Q .non (upd H l (.lst (xs ++ zs)))) → r (.ref l) [y] H Q
theorem add_one {K : PySem.W.Frag} : AddR K addOne rAppend := fun o l y d es xs H Q ry e hl hz k => by
  cases e
  exact ⟨l, xs, y, rfl, rfl, hl, by rw [sizeLine_eq]; exact hz, k [y] (.cons ry .nil)⟩
def rExt2 (K : PySem.W.Frag) : V → List V → Hp → VK → Prop := fun x vs H Q => rExtend x vs H Q ∨ rExtT K x vs H Q
theorem mt_ext2 : MtM X "list.extend" (rExt2 X.K) := fun pins s σ H x vs v us Q I rx rv h => h.elim (mt_extend pins s σ H x vs v us Q I rx rv) (mt_extT pins s σ H x vs v us Q I rx rv)
theorem add_ext {K : PySem.W.Frag} : AddR K D.items2 (rExt2 K) := fun o l y d es xs H Q ry e hl hz k => by
  cases ry with
  | lst h _ rs =>
    cases e
    exact .inl ⟨l, _, xs, _, rfl, rfl, hl, h, by rw [sizeLine_eq, rs.length]; exact hz, k _ rs⟩
  | tup h rs =>
    cases e
    exact .inr ⟨l, _, xs, _, rfl, rfl, hl, h, by rw [sizeLine_eq, rs.length]; exact hz, k _ rs⟩
  | _ => cases e
theorem psd_add {i : Nat} {cpos : Pos} (ad : AddR X.K f r) (sl : PySem.Slot "list" nm id) (hty : typeOf (.builtin id) = pure (.type "method_descriptor")) (hm : MtM X id r) (h : PM X ct e t) (hN : X.N[i]? = some x) (hv : Vis X.env.scope x)
    (hd : (x == ("__debug__" : Str)) = false := by decide) (hcd : (x == ("__classdict__" : Str)) = false := by decide)
    (hbase : attributeBase (.Name x p) nm X.env (eval (.Name x p) X.env) = eval (.Name x p) X.env := by rfl) (hline : (apos.endLine == cpos.line) = true := by rfl) (hs : starEach [e] X.env = (false, eval e X.env) :: starEach [] X.env := by rfl)
    (hfew : ((backTo cpos (starEach [e] X.env)).all (fun x => !x.1) && (backToKw cpos (keywordEach [] X.env)).all (fun x => x.1.isSome)
      && decide (([e] : List Expr).length + ([] : List Keyword).length + (if ([] : List Keyword).isEmpty then 0 else 1) < 30)) = true := by rfl)
    (hpl : (backTo cpos (starEach [] X.env)).any (·.1) = false := by rfl) (hsw : swapsWith (.Call (.Attribute (.Name x p) nm apos) [e] [] cpos) none pos.line X.env = pure false := by rfl) :
    PSD X ct (.Expr (.Call (.Attribute (.Name x p) nm apos) [e] [] cpos) pos) (sadd i f t) := fun A =>
  PS.wk (ps_expr (pe_bm PySem.F.plainAttrs_list sl hty hm (pe_var hN hv hd hcd) (pa_cons (h A) pa_nil hs) hbase hfew hline hs hpl) hsw) fun D σ H ⟨o, lo, G, S, r, q⟩ => by
    unfold sadd at q
    cases ev : t G S with
    | ok d S1 =>
      rw [ev] at q
      dsimp only at q
      split at q
      · rename_i ds es hi hf
        split at q
        · rename_i hz
          obtain ⟨l, vs, q1, q2, q3, q4⟩ := r.w i ds hi
          refine ⟨.ref l, q2, .inl ⟨rfl, vs, .of q3⟩, o, lo, G, S, r, ?_⟩
          rw [ev]
          intro o1 v H1 T rv
          have kl := T.k i l _ q1 q3
          obtain ⟨l2, vs2, p1, p2, p3, p4⟩ := T.r.w i ds hi
          rw [q1] at p1; cases p1
          refine ad (o1.wi lo) l v d es vs2 H1 _ rv hf p3 (by rw [p4.length]; exact hz) fun zs rz => ?_
          obtain ⟨r3, m3⟩ := T.r.put hi q1 p3 (p4.append rz)
          exact q o1 lo σ _ r3 (T.m.trans m3)
        · exact q.elim
      · exact q.elim
    | exc x S1 => rw [ev] at q; exact q.elim
    | bad => rw [ev] at q; exact q.elim
theorem psd_fadd {cpos : Pos} (ad : AddR X.K f r) (sl : PySem.Slot "list" nm id) (hty : typeOf (.builtin id) = pure (.type "method_descriptor")) (hm : MtM X id r) (ho : PM X ct oe to) (h : PM X ct e t)
    (hbase : attributeBase oe nm X.env (eval oe X.env) = eval oe X.env := by rfl) (hline : (apos.endLine == cpos.line) = true := by rfl) (hs : starEach [e] X.env = (false, eval e X.env) :: starEach [] X.env := by rfl)
    (hfew : ((backTo cpos (starEach [e] X.env)).all (fun x => !x.1) && (backToKw cpos (keywordEach [] X.env)).all (fun x => x.1.isSome)
      && decide (([e] : List Expr).length + ([] : List Keyword).length + (if ([] : List Keyword).isEmpty then 0 else 1) < 30)) = true := by rfl)
    (hpl : (backTo cpos (starEach [] X.env)).any (·.1) = false := by rfl) (hsw : swapsWith (.Call (.Attribute oe nm apos) [e] [] cpos) none pos.line X.env = pure false := by rfl) :
    PSD X ct (.Expr (.Call (.Attribute oe nm apos) [e] [] cpos) pos) (sfadd to f t) := fun A =>
  PS.wk (ps_expr (pe_bm PySem.F.plainAttrs_list sl hty hm (ho A) (pa_cons (h A) pa_nil hs) hbase hfew hline hs hpl) hsw) fun D σ H ⟨o, lo, G, S, r, q⟩ => by
    unfold sfadd at q
    refine ⟨o, lo, G, S, r, ?_⟩
    cases ev0 : to G S with
    | ok d0 S0 =>
      rw [ev0] at q
      intro o0 v0 H0 T0 rv0
      cases rv0 with
      | @fl k j l hk =>
        dsimp only at q
        obtain ⟨c0, ds0, vs0, a1, a2, a3, a4, a5⟩ := T0.r.s.fl hk
        refine ⟨.inl ⟨rfl, vs0, .of a3⟩, o0, lo, G, S0, T0.r, ?_⟩
        cases ev : t G S0 with
        | ok d S1 =>
          rw [ev] at q
          dsimp only at q
          intro o1 v H1 T rv
          have hk1 : o1.fo k j = some l := T.m.f k j l hk
          obtain ⟨c1, ds1, vs1, b1, b2, b3, b4, b5⟩ := T.r.s.fl (k := k) (j := j) (a := l) hk1
          rw [b5] at q
          cases hf : f d with
          | none => rw [hf] at q; exact q.elim
          | some es =>
            rw [hf] at q
            dsimp only at q
            split at q
            · rename_i hz
              refine ad (o1.wi lo) l v d es vs1 H1 _ rv hf b3 (by rw [b4.length]; exact hz) fun zs rz => ?_
              obtain ⟨r3, m3⟩ := T.r.fput hk1 b3 (b4.append rz)
              exact q o1 lo σ _ r3 ((T0.m.trans T.m).trans m3)
            · exact q.elim
        | exc x S1 => rw [ev] at q; exact q.elim
        | bad => rw [ev] at q; exact q.elim
      | _ => exact q.elim
    | exc x S1 => rw [ev0] at q; exact q.elim
    | bad => rw [ev0] at q; exact q.elim

/-! ### xs[i] = v, xs[i] op= v -/
def sput (i : Nat) (ti t : Ex) : St := fun G S => match t G S with
  | .ok d S1 => match ti G S1 with
    | .ok (.int k) S2 => match G[i]? with
      | some (.own ds) => match ixN ds.length k with
        | some j => .nx (G.set i (.own (ds.set j d))) S2
        | none => .bad
      | _ => .bad
    | _ => .bad
  | _ => .bad
def sfput (to ti t : Ex) : St := fun G S => match t G S with
  | .ok d S1 => match to G S1 with
    | .ok (.fl k j) S2 => match ti G S2 with
      | .ok (.int m) S3 => match deref S3 (.fl k j) with
        | .lst ds => match ixN ds.length m with
          | some n => .nx G (fput S3 k j (ds.set n d))
          | none => .bad
        | _ => .bad
      | _ => .bad
    | _ => .bad
  | _ => .bad
def sputa (i : Nat) (f : D → D → Option D) (ti t : Ex) : St := fun G S => match ti G S with
  | .ok (.int k) S1 => match t G S1 with
    | .ok d S2 => match G[i]? with
      | some (.own ds) => match ixN ds.length k with
        | some j => match ds[j]? with
          | some d0 => match f d0 d with
            | some z => .nx (G.set i (.own (ds.set j z))) S2
            | none => .bad
          | none => .bad
        | none => .bad
      | _ => .bad
    | _ => .bad
  | _ => .bad
theorem psd_put {i : Nat} {tpos : Pos} (h : PM X ct e t) (hi : PM X ct ie ti) (hN : X.N[i]? = some x) (hv : Vis X.env.scope x)
    (hs : swapsWithSole [.Subscript (.Name x p) ie tpos] e pos.line X.env = pure false) (hw : swappedStores [.Subscript (.Name x p) ie tpos] e X.env = pure none)
    (hd : (x == ("__debug__" : Str)) = false := by decide) (hcd : (x == ("__classdict__" : Str)) = false := by decide)
    (ha : ∀ v, assign (.Subscript (.Name x p) ie tpos) X.env v = (do
      let ov ← holding [v] (eval (.Name x p) X.env)
      let iv ← holding [v, ov] (eval ie X.env)
      standAt tpos
      holding [v, ov, iv] (setItem ov iv v)
      release [v, ov, iv] []) := by intro _; rfl) (h1 : (assignEach [.Subscript (.Name x p) ie tpos] X.env).map (·.2) = [assign (.Subscript (.Name x p) ie tpos) X.env] := by rfl) :
    PSD X ct (.Assign [.Subscript (.Name x p) ie tpos] e pos) (sput i ti t) := fun A =>
  PS.wk (ps_asg (h A) (pg_sub (pe_var hN hv hd hcd) (hi A) set_list ha) hs hw h1) fun D σ H ⟨o, lo, G, S, r, q⟩ => by
    unfold sput at q
    refine ⟨o, lo, G, S, r, ?_⟩
    cases ev : t G S with
    | ok d S1 =>
      rw [ev] at q
      dsimp only at q
      intro o1 v H1 T rv
      cases ev2 : ti G S1 with
      | ok d2 S2 =>
        rw [ev2] at q
        split at q
        · rename_i d2 k S2' ed
          cases ed
          split at q
          · rename_i ds hg
            obtain ⟨l, vs, q1, q2, q3, q4⟩ := T.r.w i ds hg
            refine ⟨.ref l, q2, o1, lo, G, S1, T.r, ?_⟩
            rw [ev2]
            intro o2 w H2 T2 rw2
            cases rw2 with
            | int =>
            cases hj : ixN ds.length k with
            | none => rw [hj] at q; exact q.elim
            | some j =>
              rw [hj] at q
              obtain ⟨l2, vs2, p1, p2, p3, p4⟩ := T2.r.w i ds hg
              rw [q1] at p1; cases p1
              obtain ⟨r3, m3⟩ := T2.r.put hg q1 p3 (p4.set (rv.mono T2.m) j)
              exact ⟨l, vs2, k, j, rfl, rfl, p3, by rw [p4.length]; exact hj, q o2 lo σ _ r3 ((T.m.trans T2.m).trans m3)⟩
          · exact q.elim
        · exact q.elim
      | exc x S1 => rw [ev2] at q; exact q.elim
      | bad => rw [ev2] at q; exact q.elim
    | exc x S1 => rw [ev] at q; exact q.elim
    | bad => rw [ev] at q; exact q.elim
theorem psd_fput {tpos : Pos} (h : PM X ct e t) (ho : PM X ct oe to) (hi : PM X ct ie ti) (hs : swapsWithSole [.Subscript oe ie tpos] e pos.line X.env = pure false) (hw : swappedStores [.Subscript oe ie tpos] e X.env = pure none)
    (ha : ∀ v, assign (.Subscript oe ie tpos) X.env v = (do
      let ov ← holding [v] (eval oe X.env)
      let iv ← holding [v, ov] (eval ie X.env)
      standAt tpos
      holding [v, ov, iv] (setItem ov iv v)
      release [v, ov, iv] []) := by intro _; rfl) (h1 : (assignEach [.Subscript oe ie tpos] X.env).map (·.2) = [assign (.Subscript oe ie tpos) X.env] := by rfl) :
    PSD X ct (.Assign [.Subscript oe ie tpos] e pos) (sfput to ti t) := fun A =>
  PS.wk (ps_asg (h A) (pg_sub (ho A) (hi A) set_list ha) hs hw h1) fun D σ H ⟨o, lo, G, S, r, q⟩ => by
    unfold sfput at q
    refine ⟨o, lo, G, S, r, ?_⟩
    cases ev : t G S with
    | ok d S1 =>
      rw [ev] at q
      dsimp only at q
      intro o1 v H1 T rv
      refine ⟨o1, lo, G, S1, T.r, ?_⟩
      cases ev0 : to G S1 with
      | ok d0 S0 =>
        rw [ev0] at q
        intro o0 v0 H0 T0 rv0
        cases rv0 with
        | @fl k j l hk =>
          dsimp only at q
          refine ⟨o0, lo, G, S0, T0.r, ?_⟩
          cases ev2 : ti G S0 with
          | ok d2 S2 =>
            rw [ev2] at q
            intro o2 w H2 T2 rw2
            cases rw2 with
            | @int m =>
              dsimp only at q
              have hk1 : o2.fo k j = some l := T2.m.f k j l hk
              obtain ⟨c1, ds1, vs1, b1, b2, b3, b4, b5⟩ := T2.r.s.fl (k := k) (j := j) (a := l) hk1
              rw [b5] at q
              dsimp only at q
              cases hj : ixN ds1.length m with
              | none => rw [hj] at q; exact q.elim
              | some n =>
                rw [hj] at q
                obtain ⟨r3, m3⟩ := T2.r.fput hk1 b3 (b4.set (rv.mono (T0.m.trans T2.m)) n)
                exact ⟨l, vs1, m, n, rfl, rfl, b3, by rw [b4.length]; exact hj, q o2 lo σ _ r3 ((T.m.trans (T0.m.trans T2.m)).trans m3)⟩
            | _ => exact q.elim
          | exc x S1 => rw [ev2] at q; exact q.elim
          | bad => rw [ev2] at q; exact q.elim
        | _ => exact q.elim
      | exc x S1 => rw [ev0] at q; exact q.elim
      | bad => rw [ev0] at q; exact q.elim
    | exc x S1 => rw [ev] at q; exact q.elim
    | bad => rw [ev] at q; exact q.elim
end
end DL

end
section
set_option maxRecDepth 100000
set_option maxHeartbeats 2000000
/-! The data layer: comprehensions; an item changed by an operator. -/
namespace DL
open PySem PySem.Spec PyProof.Rows L2

section
variable {X : Cx} {ct : CT} {W : Wish} {e oe ie : Expr} {t to ti : Ex} {pos pos' apos p : Pos} {x : Str}
theorem get_list : PGet X (rIxL X.K) := by
  intro pins s σ H ov iv v u Q I rx ry h
  obtain ⟨p, xs, i, z, rfl, rfl, hq, he, q⟩ := h
  cases rx
  obtain ⟨t, rfl⟩ := ry
  obtain ⟨its, r, pl, hz⟩ := I.list hq
  obtain ⟨j, h1, h2, h3, h4, h5⟩ := atI_get he
  obtain ⟨w, ew, rw'⟩ := r.get h2
  have hl := r.length
  have hn := line63
  have fin : EP X pins σ Q w s := ⟨z, H, I, rw', q⟩
  by_cases h0 : 0 ≤ i
  · have hj : i.toNat = j := by
      rw [seqIndex_of h0 h5] at h1
      exact Option.some.inj h1
    exact wpAny_getItem_list pl.isList h0 (by omega) (by rw [hj]; simpa using ew) fin
  · have hj : (i + (its.toArray.size : Int)).toNat = j := by
      rw [seqIndex_neg (by omega) h4] at h1
      rw [List.size_toArray, ← hl]
      exact Option.some.inj h1
    exact wpAny_getItem_list_neg pl.isList (by omega) (by rw [List.size_toArray] <;> omega) (by omega) (by rw [hj]; simpa using ew) fin
theorem psd_puta {i : Nat} {tpos : Pos} {op : Operator} {f : D → D → Option D} (h : PM X ct e t) (hi : PM X ct ie ti) (hop : OpS X ct (inplaceOp op) f) (hN : X.N[i]? = some x) (hv : Vis X.env.scope x)
    (hd : (x == ("__debug__" : Str)) = false := by decide) (hcd : (x == ("__classdict__" : Str)) = false := by decide)
    (ha : ∀ ov iv new, augStore ie ov iv new = (do holding [new, ov, iv] (setItem ov iv new); release [new, ov, iv] []; pure .next) := by intros; rfl) :
    PSD X ct (.AugAssign (.Subscript (.Name x p) ie tpos) op e pos) (sputa i f ti t) := fun A =>
  PS.wk (ps_augS (pe_var hN hv hd hcd) (hi A) get_list (h A) hop set_list ha) fun D σ H ⟨o, lo, G, S, r, q⟩ => by
    unfold sputa at q
    cases ev : ti G S with
    | ok d2 S2 =>
      rw [ev] at q
      split at q
      · rename_i d2 k S1 ed
        cases ed
        cases ev2 : t G S2 with
        | ok d S3 =>
          rw [ev2] at q
          dsimp only at q
          split at q
          · rename_i ds hg
            obtain ⟨l, vs, q1, q2, q3, q4⟩ := r.w i ds hg
            refine ⟨.ref l, q2, o, lo, G, S, r, ?_⟩
            rw [ev]
            intro o1 w H1 T rw2
            cases rw2 with
            | int =>
            cases hj : ixN ds.length k with
            | none => rw [hj] at q; exact q.elim
            | some j =>
              rw [hj] at q
              dsimp only at q
              cases hd0 : ds[j]? with
              | none => rw [hd0] at q; exact q.elim
              | some d0 =>
                rw [hd0] at q
                dsimp only at q
                obtain ⟨l1, vs1, p1, p2, p3, p4⟩ := T.r.w i ds hg
                rw [q1] at p1; cases p1
                obtain ⟨v0, hv0, rv0⟩ := p4.get hd0
                refine ⟨l, vs1, k, v0, rfl, rfl, .of p3, ?_, o1, lo, G, S2, T.r, ?_⟩
                · unfold atI
                  rw [p4.length, hj]
                  exact hv0
                · rw [ev2]
                  intro o2 v H2 T2 rv
                  cases hz : f d0 d with
                  | none => rw [hz] at q; exact q.elim
                  | some z =>
                    rw [hz] at q
                    refine ⟨o2.wi lo, S3, d0, d, z, T2.r.s, rv0.mono T2.m, rv, hz, fun o' w3 H3 x3 s3 r3 => ?_⟩
                    obtain ⟨o3, e3, r4⟩ := T2.r.afterS x3 s3
                    subst e3
                    obtain ⟨l2, vs2, n1, n2, n3, n4⟩ := r4.w i ds hg
                    rw [q1] at n1; cases n1
                    obtain ⟨r5, m5⟩ := r4.put hg q1 n3 (n4.set r3 j)
                    exact ⟨l, vs2, k, j, rfl, rfl, n3, by rw [n4.length]; exact hj, q o3 lo σ _ r5 ((T.m.trans (T2.m.trans (x3.mono T2.r.s))).trans m5)⟩
          · exact q.elim
        | exc x S1 => rw [ev2] at q; exact q.elim
        | bad => rw [ev2] at q; exact q.elim
      · exact q.elim
    | exc x S1 => rw [ev] at q; exact q.elim
    | bad => rw [ev] at q; exact q.elim
end

/-! ### targets of a block -/
mutual
def Tg.names : Tg → List Nat
  | .nm i => [i]
  | .tp ts => Tg.namess ts
def Tg.namess : List Tg → List Nat
  | [] => []
  | t :: ts => Tg.names t ++ Tg.namess ts
end
def Only (ns : List Nat) (σ σ' : L2.St) : Prop := ∀ vs : List Nat, (∀ i ∈ ns, i ∈ vs) → wipe σ' vs = wipe σ vs
theorem wipe_set {σ : L2.St} {i : Nat} {v : Option V} : ∀ {vs : List Nat}, i ∈ vs → wipe (σ.set i v) vs = wipe σ vs
  | [], h => by simp at h
  | k :: vs, h => by
    show (wipe (σ.set i v) vs).set k none = (wipe σ vs).set k none
    by_cases hk : i ∈ vs
    · rw [wipe_set hk]
    · have e : i = k := by
        rcases List.mem_cons.mp h with e | e
        · exact e
        · exact absurd e hk
      subst e
      have aux : ∀ (us : List Nat) (τ : L2.St), i ∉ us → wipe (τ.set i v) us = (wipe τ us).set i v := by
        intro us
        induction us with
        | nil => intro τ _; rfl
        | cons j us ih =>
          intro τ hj
          show (wipe (τ.set i v) us).set j none = ((wipe τ us).set j none).set i v
          rw [ih τ (fun z => hj (List.mem_cons_of_mem _ z))]
          exact List.set_comm _ _ (fun z => hj (z ▸ List.mem_cons_self))
      rw [aux vs σ hk, List.set_set]
theorem wipe_wipe {σ : L2.St} (vs : List Nat) : wipe (wipe σ vs) vs = wipe σ vs := by
  have aux : ∀ (us : List Nat) (τ : L2.St), (∀ i ∈ us, i ∈ vs) → wipe (wipe τ us) vs = wipe τ vs := by
    intro us
    induction us with
    | nil => intro τ _; rfl
    | cons j us ih =>
      intro τ h
      show wipe ((wipe τ us).set j none) vs = wipe τ vs
      rw [wipe_set (h j List.mem_cons_self)]
      exact ih τ fun i hi => h i (List.mem_cons_of_mem _ hi)
  exact aux vs σ fun _ h => h
def gE (K : PySem.W.Frag) (ct : CT) (g : Tg) : TG := fun v σ H Q => ∃ o G S d G', ERel K ct o G S σ H ∧ Rep K o H v d ∧ g.put d G = some G' ∧ ∀ σ', ERel K ct o G' S σ' H → Only g.names σ σ' → Q σ' H
def gEs (K : PySem.W.Frag) (ct : CT) (g : List Tg) : TGs := fun v σ H Q => ∃ o G S d G', ERel K ct o G S σ H ∧ RepL K o H v d ∧ Tg.puts g d G = some G' ∧ ∀ σ', ERel K ct o G' S σ' H → Only (Tg.namess g) σ σ' → Q σ' H
abbrev PGE (X : Cx) (ct : CT) (tg : Expr) (g : Tg) : Prop := PG X tg (gE X.K ct g)
abbrev PGEs (X : Cx) (ct : CT) (tg : List Expr) (g : List Tg) : Prop := PGs X tg (gEs X.K ct g)
section
variable {K : PySem.W.Frag} {ct : CT} {o : Om} {G : Env} {S : Store} {σ : L2.St} {H : Hp}
theorem ERel.set (r : ERel K ct o G S σ H) {i : Nat} {v : V} {d : D} (h : Rep K o H v d) : ERel K ct o (G.set i (.val d)) S (σ.set i (some v)) H := by
  refine ⟨r.s, by rw [List.length_set, List.length_set]; exact r.len, fun j e q => ?_⟩
  unfold look at q
  by_cases z : i = j
  · subst z
    by_cases lt : i < G.length
    · rw [List.getElem?_set_self lt] at q
      cases q
      exact ⟨v, by rw [List.getElem?_set_self (by rw [← r.len]; exact lt)], h⟩
    · rw [List.getElem?_eq_none (by rw [List.length_set]; omega)] at q
      cases q
  · rw [List.getElem?_set_ne z] at q
    rw [List.getElem?_set_ne z]
    exact r.v j e q
def wipeG (G : Env) : List Nat → Env
  | [] => G
  | v :: vs => (wipeG G vs).set v .no
theorem ERel.wipe (r : ERel K ct o G S σ H) : ∀ vs : List Nat, ERel K ct o (wipeG G vs) S (L2.wipe σ vs) H
  | [] => r
  | k :: vs => by
    have q := ERel.wipe r vs
    refine ⟨q.s, by show ((wipeG G vs).set k .no).length = ((L2.wipe σ vs).set k none).length; rw [List.length_set, List.length_set]; exact q.len, fun j e h => ?_⟩
    have h : look ((wipeG G vs).set k .no) j = some e := h
    show ∃ x, ((L2.wipe σ vs).set k none)[j]? = some (some x) ∧ _
    unfold look at h
    by_cases z : k = j
    · subst z
      by_cases lt : k < (wipeG G vs).length
      · rw [List.getElem?_set_self lt] at h; cases h
      · rw [List.getElem?_eq_none (by rw [List.length_set]; omega)] at h; cases h
    · rw [List.getElem?_set_ne z] at h
      rw [List.getElem?_set_ne z]
      exact q.v j e h
theorem ERel.mono {o' : Om} {S' : Store} {H' : Hp} (r : ERel K ct o G S σ H) (m : Mono K o o' H H') (s : SRel K ct o' S' H') : ERel K ct o' G S' σ H' :=
  ⟨s, r.len, fun i d h => let ⟨x, e, q⟩ := r.v i d h; ⟨x, e, q.mono m⟩⟩
end
section
variable {X : Cx} {ct : CT} {W : Wish} {e : Expr} {es : List Expr} {pos : Pos} {x : Str} {g : Tg} {gs : List Tg}
theorem pge_name {i : Nat} (hN : X.N.Nodup) (hi : X.N[i]? = some x) (hx : Loc X.env.scope x) (hf : X.fn x = true ∨ X.env.scope.names.lookup x = some .local) : PGE X ct (.Name x pos) (.nm i) :=
  PG.wk (pg_name hN hi hx hf) fun v σ H Q ⟨o, G, S, d, G', r, rv, e, q⟩ => by
    cases e
    exact q _ (r.set rv) fun vs h => wipe_set (h i (by simp [Tg.names]))
theorem pges_nil : PGEs X ct [] [] := PGs.wk pgs_nil fun v σ H Q ⟨o, G, S, d, G', r, rv, e, q⟩ => by
  cases rv with
  | nil => cases e; exact ⟨rfl, q σ r fun _ _ => rfl⟩
  | cons _ _ => cases e
theorem pges_cons (h1 : PGE X ct e g) (h2 : PGEs X ct es gs) (hs : (assignEach (e :: es) X.env).map (·.2) = assign e X.env :: (assignEach es X.env).map (·.2) := by rfl) : PGEs X ct (e :: es) (g :: gs) :=
  PGs.wk (pgs_cons h1 h2 hs) fun v σ H Q ⟨o, G, S, d, G', r, rv, e, q⟩ => by
    cases rv with
    | nil => cases e
    | @cons v1 d1 vs ds r1 r2 =>
      have e : (Tg.put g d1 G).bind (Tg.puts gs ds) = some G' := e
      cases e1 : Tg.put g d1 G with
      | none => rw [e1] at e; cases e
      | some G1 =>
        rw [e1] at e
        refine ⟨_, _, rfl, o, G, S, d1, G1, r, r1, e1, fun σ1 ra on1 => ⟨o, G1, S, ds, G', ra, r2, e, fun σ2 rb on2 => q σ2 rb fun vs h => ?_⟩⟩
        rw [on2 vs fun i hi => h i (by show i ∈ Tg.names g ++ Tg.namess gs; exact List.mem_append_right _ hi), on1 vs fun i hi => h i (by show i ∈ Tg.names g ++ Tg.namess gs; exact List.mem_append_left _ hi)]
theorem pge_tup {k n : Nat} (hc : X.calm = true) (h : PGEs X ct es gs) (hl : gs.length = n) (hn : (assignEach es X.env).length = n) (hst : (assignEach es X.env).findIdx? (·.1) = none) : PGE X ct (.Tuple es k pos) (.tp gs) :=
  PG.wk2 (pg_tup hc h hn hst) (pg_lst hc h hn hst) fun v σ H Q ⟨o, G, S, d, G', r, rv, e, q⟩ => by
    cases rv with
    | @tup a vs ds ht rs => exact .inl ⟨a, vs, rfl, ht, by rw [rs.length, puts_len (gs := gs) e, hl], o, G, S, ds, G', r, rs, e, q⟩
    | @lst a vs ds hl2 nb rs => exact .inr ⟨a, vs, rfl, SqL.of hl2, by rw [rs.length, puts_len (gs := gs) e, hl], o, G, S, ds, G', r, rs, e, q⟩
    | _ => cases e
end

/-! ### list comprehensions -/
def runLc (g : Tg) (tt : Tx) (te : Ex) (G : Env) : List D → Store → R (List D)
  | [], S => .ok [] S
  | d :: r, S => match g.put d G with
    | some G1 => match tt G1 S with
      | .ok true S1 => match te G1 S1 with
        | .ok y S2 => match runLc g tt te G r S2 with
          | .ok ys S3 => .ok (y :: ys) S3
          | _ => .bad
        | _ => .bad
      | .ok false S1 => runLc g tt te G r S1
      | _ => .bad
    | none => .bad
def elc (it : Ix) (g : Tg) (tt : Tx) (te : Ex) (vs : List Nat) : Ex := fun G S => (it G S).bind fun ds S1 => match runLc g tt te (wipeG G vs) ds S1 with
  | .ok ys S2 => if ds.length ≤ 16777216 then .ok (.lst ys) S2 else .bad
  | _ => .bad
def tyes : Tx := fun _ S => .ok true S
structure LcRel (K : PySem.W.Frag) (ct : CT) (o : Om) (H1 : Hp) (L : Addr) (o2 : Om) (acc : List D) (S2 : Store) (H2 : Hp) : Prop where
  s : SRel K ct (o2.plus (· = L)) S2 H2
  nb : ¬ o2.bad L
  nh : ¬ o2.hot L
  l : ∃ vs, H2 L = some (.lst vs) ∧ RepL K (o2.plus (· = L)) H2 vs acc
  x : Ext K o o2 H1 H2
  m : Mono K o (o2.plus (· = L)) H1 H2
section
variable {K : PySem.W.Frag} {ct : CT} {o o' o2 : Om} {S S1 S2 : Store} {H H1 H2 H3 : Hp} {L : Addr} {acc : List D}
theorem LcRel.start (s : SRel K ct o S H) (hL : H L = none) (hk : K.lookup L = none) : LcRel K ct o H L o [] S (upd H L (.lst [])) := by
  have ne : ∀ {b w}, H b = some w → b ≠ L := fun h z => by rw [z, hL] at h; cases h
  have kf : KF K (upd H L (.lst [])) := fun b u h => by
    by_cases e : b = L
    · rw [e]; exact hk
    · rw [upd_ne e] at h; exact s.kf b u h
  have m0 : Mono K o o H (upd H L (.lst [])) := Mono.grown hL
  have m : Mono K o (o.plus (· = L)) H (upd H L (.lst [])) := by
    refine ⟨m0.t, m0.l, m0.h, fun a xs h nb z => ?_, m0.n, m0.r, m0.f⟩
    rcases z with z | z
    · exact nb z
    · subst z
      rcases h with (h | ⟨ob, h⟩) | ⟨ob, its, n, h, _⟩
      · rw [hL] at h; cases h
      · rw [hL] at h; cases h
      · rw [hk] at h; cases h
  have nb : ¬ o.bad L := fun z => by obtain ⟨u, e⟩ := s.ba L z; rw [hL] at e; cases e
  refine ⟨⟨s.n, kf, fun k c e => ?_, s.inj, s.foI, s.foS, fun a z => .inl (s.hb a z), fun a z => ?_, s.cok⟩, nb, fun z => nb (s.hb L z), ⟨[], upd_same, .nil⟩, .grown hL, m⟩
  · obtain ⟨cd, dx, vfs, h1, h2, h3, h4, h5, h6⟩ := (s.cell k c e).ex
    refine ⟨cd, dx, vfs, h1, (upd_ne (ne h2)).trans h2, h3, h4, h5, fun j f sl e1 e2 => ?_⟩
    have q := h6 j f sl e1 e2
    cases sl with
    | no => exact q
    | val d =>
      obtain ⟨q1, x', q2, q3⟩ := q
      exact ⟨q1, x', q2, q3.mono m⟩
    | own ds =>
      obtain ⟨l, vs, q1, q2, q3, q4⟩ := q
      exact ⟨l, vs, q1, q2, (upd_ne (ne q3)).trans q3, q4.mono m⟩
  · rcases z with z | z
    · obtain ⟨u, e⟩ := s.ba a z
      exact ⟨u, (upd_ne (ne e)).trans e⟩
    · subst z; exact ⟨_, upd_same⟩
theorem LcRel.after (r : LcRel K ct o H1 L o2 acc S2 H2) (x : Ext K (o2.plus (· = L)) o' H2 H3) (s : SRel K ct o' S H3) : ∃ o3, o' = o3.plus (· = L) ∧ LcRel K ct o H1 L o3 acc S H3 := by
  have e : o' = ({ o' with bad := fun a => o'.bad a ∧ a ≠ L } : Om).plus (· = L) := by
    refine Om.ext rfl rfl rfl fun a => ⟨fun z => ?_, fun z => ?_⟩
    · by_cases q : a = L
      · exact .inr q
      · exact .inl ⟨z, q⟩
    · rcases z with ⟨z, _⟩ | z
      · exact z
      · exact x.badS a (.inr z)
  obtain ⟨vs, hl, rl⟩ := r.l
  have m := x.mono r.s
  refine ⟨_, e, e ▸ s, fun z => z.2 rfl, fun z => ?_, ⟨vs, x.keep _ _ hl fun z => r.nh z, e ▸ rl.mono m⟩, ?_, e ▸ r.m.trans m⟩
  · rcases x.hotN L z with z | z
    · exact r.nh z
    · rw [hl] at z; cases z
  · refine r.x.trans ⟨fun a u h n => x.keep a u h n, x.there, x.n, x.r, fun a z => ⟨x.badS a (.inl z), fun q => r.nb (q ▸ z)⟩, fun a z => ?_, fun a z => x.hotN a z, x.f⟩
    rcases x.badN a z.1 with (q | q) | q
    · exact .inl q
    · exact absurd q z.2
    · exact .inr q
theorem LcRel.grown {T : Addr} {w : HO} (r : LcRel K ct o H1 L o2 acc S2 H2) (hT : H2 T = none) (kf : KF K (upd H2 T w)) : LcRel K ct o H1 L o2 acc S2 (upd H2 T w) := by
  obtain ⟨vs, hl, rl⟩ := r.l
  have ne : ∀ {b w}, H2 b = some w → b ≠ T := fun h z => by rw [z, hT] at h; cases h
  exact ⟨r.s.grown hT kf, r.nb, r.nh, ⟨vs, (upd_ne (ne hl)).trans hl, rl.mono (.grown hT)⟩, r.x.trans (.grown hT), r.m.trans (.grown hT)⟩
theorem LcRel.app {y : V} {d : D} {vs : List V} (r : LcRel K ct o H1 L o2 acc S2 H2) (hl : H2 L = some (.lst vs)) (q : Rep K (o2.plus (· = L)) H2 y d) (fr : H1 L = none) : LcRel K ct o H1 L o2 (acc ++ [d]) S2 (upd H2 L (.lst (vs ++ [y]))) := by
  obtain ⟨vs', hl', rl⟩ := r.l
  rw [hl] at hl'; cases hl'
  have m : Mono K (o2.plus (· = L)) (o2.plus (· = L)) H2 (upd H2 L (.lst (vs ++ [y]))) := Mono.badU hl (.inr rfl) (r.s.kf _ _ hl)
  refine ⟨r.s.wrote hl (.inr rfl) r.nh, r.nb, r.nh, ⟨_, upd_same, (rl.append (.cons q .nil)).mono m⟩, ?_, r.m.trans m⟩
  refine ⟨fun a u h n => ?_, fun a u h => ?_, r.x.n, r.x.r, r.x.badS, r.x.badN, r.x.hotN, r.x.f⟩
  · rw [upd_ne (show a ≠ L from fun z => by rw [z, fr] at h; cases h)]
    exact r.x.keep a u h n
  · obtain ⟨u', q⟩ := r.x.there a u h
    exact thereU hl q
end
theorem runLc_cons {g : Tg} {tt : Tx} {te : Ex} {G : Env} {d : D} {r ys : List D} {S S' : Store} (h : runLc g tt te G (d :: r) S = .ok ys S') :
    ∃ G1 b S1, g.put d G = some G1 ∧ tt G1 S = .ok b S1 ∧ (b = false → runLc g tt te G r S1 = .ok ys S') ∧ (b = true → ∃ y S2 zs, te G1 S1 = .ok y S2 ∧ runLc g tt te G r S2 = .ok zs S' ∧ ys = y :: zs) := by
  unfold runLc at h
  split at h
  · rename_i G1 e1
    split at h
    · rename_i S1 e2
      split at h
      · rename_i y S2 e3
        split at h
        · rename_i zs S3 e4
          cases h
          exact ⟨G1, true, S1, e1, e2, (fun z => by cases z), fun _ => ⟨y, S2, zs, e3, e4, rfl⟩⟩
        · cases h
      · cases h
    · rename_i S1 e2
      exact ⟨G1, false, S1, e1, e2, fun _ => h, (fun z => by cases z)⟩
    · cases h
  · cases h
theorem lc_run {K : PySem.W.Frag} {ct : CT} {W' : Wish} {o1 : Om} {G : Env} {S1 S2 : Store} {σ : L2.St} {H1 : Hp} {J : It} {ds ys : List D} {g : Tg} {tt : Tx} {te : Ex} {vs : List Nat} (er : ERel K ct o1 G S1 σ H1) (w : WD K o1 H1 J ds)
    (run : runLc g tt te (wipeG G vs) ds S1 = .ok ys S2) (hz : ds.length ≤ 16777216) (sub : ∀ i ∈ g.names, i ∈ vs) {Q : VK}
    (k : ∀ o' L H' xs, Ext K o1 o' H1 H' → SRel K ct o' S2 H' → H1 L = none → H' L = some (.lst xs) → ¬ o'.bad L → RepL K o' H' xs ys → Q (.ref L) H') :
    ∀ D, H1 D = none → ∃ Wn : Nat → Nat → Hp → Prop, (∃ m, Wn 0 m (upd H1 D (.lst []))) ∧ ∀ i m H, Wn i m H →
      (J.stop i H ∧ (KF K H → Q (.ref D) H)) ∨ (J.go i H ∧ ∃ Nx : Hp → Prop, (∀ H', Nx H' → ∃ m', m' < m ∧ Wn (i + 1) m' H') ∧ ∀ x H', J.yld i H x H' → (KF K H' → gE K ct g x (wipe σ vs) H' fun σ2 H2 => wipe σ2 vs = wipe σ vs ∧ tDb K ct W' tt σ2 H2 fun b H3 =>
        if b = true then tD K ct W' te σ2 H3 fun y H4 => ∃ acc, H4 D = some (.lst acc) ∧ acc.length < sizeLine ∧ Nx (upd H4 D (.lst (acc ++ [y]))) else Nx H3)) := by
  intro L hL
  have hne : ∀ {T w}, (upd H1 L (.lst [])) T = none → (upd (upd H1 L (.lst [])) T w) L = some (.lst []) := fun {T w} h => by
    rw [upd_ne (show L ≠ T from fun z => by rw [← z, upd_same] at h; cases h), upd_same]
  cases hk : K.lookup L with
  | some ob =>
    refine ⟨fun i m H => i = 0 ∧ H = upd H1 L (.lst []), ⟨0, rfl, rfl⟩, ?_⟩
    rintro i m H ⟨rfl, rfl⟩
    have m0 : Mono K o1 o1 H1 (upd H1 L (.lst [])) := Mono.grown hL
    have bad : ∀ {H'}, H' L = some (.lst []) → KF K H' → False := fun h kf => by rw [kf _ _ h] at hk; cases hk
    by_cases h0 : ds.length = 0
    · exact .inl ⟨by rw [← h0]; exact w.stops _ _ m0, fun kf => (bad upd_same kf).elim⟩
    · refine .inr ⟨w.goes 0 _ _ (by omega) m0, fun _ => False, fun _ z => z.elim, fun x H' y kf => ?_⟩
      rcases w.yields 0 o1 _ x H' (by omega) m0 y with ⟨e, _⟩ | ⟨T, _, _, _, h2, h3, _⟩
      · subst e; exact (bad upd_same kf).elim
      · subst h3; exact (bad (hne h2) kf).elim
  | none =>
    refine ⟨fun i m H => i ≤ ds.length ∧ m = ds.length - i ∧ ∃ o2 acc S ys', LcRel K ct o1 H1 L o2 acc S H ∧ acc.length ≤ i ∧ runLc g tt te (wipeG G vs) (ds.drop i) S = .ok ys' S2 ∧ ys = acc ++ ys',
      ⟨_, Nat.zero_le _, rfl, o1, [], S1, ys, LcRel.start er.s hL hk, Nat.zero_le _, run, rfl⟩, ?_⟩
    rintro i m H ⟨hi, rfl, o2, acc, S, ys', r, ha, run', rfl⟩
    by_cases hlt : i < ds.length
    · refine .inr ⟨w.goes i _ _ hlt r.m, fun H' => ∃ o2 acc2 S ys2, LcRel K ct o1 H1 L o2 acc2 S H' ∧ acc2.length ≤ i + 1 ∧ runLc g tt te (wipeG G vs) (ds.drop (i + 1)) S = .ok ys2 S2 ∧ acc ++ ys' = acc2 ++ ys2,
        fun H' ⟨p1, p2, p3, p4, z⟩ => ⟨ds.length - (i + 1), by omega, by omega, rfl, p1, p2, p3, p4, z⟩, fun x H' y kf => ?_⟩
      have yl : LcRel K ct o1 H1 L o2 acc S H' ∧ ∃ d, ds[i]? = some d ∧ Rep K (o2.plus (· = L)) H' x d := by
        rcases w.yields i _ _ x H' hlt r.m y with ⟨e, d, h1, h2⟩ | ⟨T, us, xs, h1, h2, h3, h4, h5⟩
        · subst e; exact ⟨r, d, h1, h2⟩
        · subst h3
          subst h1
          exact ⟨r.grown h2 kf, _, h4, .tup (.of upd_same) (h5.mono (.grown h2))⟩
      obtain ⟨r, d, hd, rx⟩ := yl
      have ed : ds.drop i = d :: ds.drop (i + 1) := by
        rw [List.drop_eq_getElem_cons hlt]
        have := List.getElem?_eq_getElem hlt
        rw [hd] at this
        cases this
        rfl
      rw [ed] at run'
      obtain ⟨G1, b, S3, e1, e2, e3, e4⟩ := runLc_cons run'
      refine ⟨_, wipeG G vs, S, d, G1, (er.wipe vs).mono r.m r.s, rx, e1, fun σ' ra on => ⟨?_, ?_⟩⟩
      · rw [on vs sub, wipe_wipe]
      · refine ⟨_, G1, S, ra, ?_⟩
        rw [e2]
        intro o3 H3 x3 s3
        obtain ⟨o4, eo, r4⟩ := r.after x3 s3
        subst eo
        cases b with
        | false => exact ⟨o4, acc, S3, ys', r4, by omega, e3 rfl, rfl⟩
        | true =>
          obtain ⟨yv, S5, zs, f1, f2, f3⟩ := e4 rfl
          refine ⟨_, G1, S3, ra.mono (x3.mono r.s) s3, ?_⟩
          rw [f1]
          intro o5 v H5 x5 s5 r5
          obtain ⟨o6, eo, r6⟩ := r4.after x5 s5
          subst eo
          obtain ⟨us, hl, rl⟩ := r6.l
          refine ⟨us, hl, by rw [rl.length, sizeLine_eq]; omega, o6, acc ++ [yv], S5, zs, r6.app hl r5 hL, by rw [List.length_append]; exact Nat.succ_le_succ ha, f2, by rw [f3, List.append_assoc]; rfl⟩
    · have e : i = ds.length := by omega
      subst e
      rw [List.drop_length] at run'
      cases run'
      refine .inl ⟨w.stops _ _ r.m, fun _ => ?_⟩
      obtain ⟨us, hl, rl⟩ := r.l
      rw [List.append_nil] at k
      have ss : SRel K ct o2 S2 H := r.s.less (B := o2.bad) (fun a z => .inl z) fun a z => (r.s.hb a z).resolve_right fun q => r.nh (q ▸ z)
      exact k o2 L H us r.x ss hL hl r.nb (rl.mono Mono.unplus)
section
variable {X : Cx} {ct : CT} {W W' : Wish} {elt tg iter : Expr} {ifs : List Expr} {scope : Scope} {own : List (Str × Nat)} {pos : Pos} {it : Ix} {g : Tg} {tt : Tx} {te : Ex} {c : Expr}
theorem ptd_nil {Y : Cx} : PTs Y [] (tDb Y.K ct W tyes) := ⟨fun pins s σ H Q I ⟨o, G, S, er, q⟩ => pts_nil.run pins s σ H Q I (q o H .refl er.s)⟩
theorem ptd_one {Y : Cx} {tb : Tx} (h : PDb Y ct W c tb) : PTs Y [c] (tDb Y.K ct W tb) := pts_one h
theorem pd_lc (hi : PDi X ct W tg iter it) (hc : X.calm = true) (hN : X.N.Nodup) (ok : BlkOk X.N X.env.scope scope own)
    (hg : ∀ (s : Shared) (H : Hp) (C : Addr) (cl : List (Str × Addr)) (fp : List Addr), PGE (X.blk s H scope (compEnvC scope cl C X.env) fp) ct tg g) (ht : ∀ (s : Shared) (H : Hp) (C : Addr) (cl : List (Str × Addr)) (fp : List Addr), PTs (X.blk s H scope (compEnvC scope cl C X.env) fp) ifs (tDb X.K ct W' tt))
    (he : ∀ (s : Shared) (H : Hp) (C : Addr) (cl : List (Str × Addr)) (fp : List Addr), PD (X.blk s H scope (compEnvC scope cl C X.env) fp) ct W' elt te) {vs : List Nat} (hv : vs = own.map (·.2)) (sub : ∀ i ∈ g.names, i ∈ vs) (hs : ∀ x, foldedSetIterable iter X.env x = pure x := by intro _; rfl) :
    PD X ct W (.ListComp elt [⟨tg, iter, ifs, 0⟩] scope pos) (elc it g tt te vs) := by
  subst hv
  refine PE.wk (PE.kf (pe_lc (g := fun v σ H Q => KF X.K H → gE X.K ct g v σ H Q) (tt := tDb X.K ct W' tt) (te := tD X.K ct W' te) hc hN hi ok (fun s H C cl fp => PG.kf (hg s H C cl fp)) ht he hs)) fun σ H Q ⟨o, G, S, er, q⟩ => ?_
  refine ⟨o, G, S, er, Res.then q fun ds S1 h' o1 H1 J x1 s1 w => ?_⟩
  cases ev : runLc g tt te (wipeG G (own.map (·.2))) ds S1 with
  | ok ys S2 =>
    rw [ev] at h'
    dsimp only at h'
    split at h'
    · rename_i hz
      exact lc_run (er.ext x1 s1) w ev hz sub fun o' L H' xs x s _ hl nb rl => h' o' _ H' (x1.trans x) s (.lst hl nb rl)
    · exact h'.elim
  | exc x S1 => rw [ev] at h'; exact h'.elim
  | bad => rw [ev] at h'; exact h'.elim
/-! ### lists of its own, new -/
def tDf (K : PySem.W.Frag) (ct : CT) (W : Wish) (t : Ex) : TE := fun σ H Q => ∃ o G S, ERel K ct o G S σ H ∧ ResS (t G S) fun d S' => ∃ ds, d = .lst ds ∧ ∀ o' l vs H', Ext K o o' H H' → SRel K ct o' S' H' → H l = none → H' l = some (.lst vs) → ¬ o'.bad l → RepL K o' H' vs ds → Q (.ref l) H'
abbrev PDf (X : Cx) (ct : CT) (e : Expr) (t : Ex) : Prop := PE X e (tDf X.K ct WF t)
theorem pdf_lc (hi : PDi X ct WF tg iter it) (hc : X.calm = true) (hN : X.N.Nodup) (ok : BlkOk X.N X.env.scope scope own)
    (hg : ∀ (s : Shared) (H : Hp) (C : Addr) (cl : List (Str × Addr)) (fp : List Addr), PGE (X.blk s H scope (compEnvC scope cl C X.env) fp) ct tg g) (ht : ∀ (s : Shared) (H : Hp) (C : Addr) (cl : List (Str × Addr)) (fp : List Addr), PTs (X.blk s H scope (compEnvC scope cl C X.env) fp) ifs (tDb X.K ct W' tt))
    (he : ∀ (s : Shared) (H : Hp) (C : Addr) (cl : List (Str × Addr)) (fp : List Addr), PD (X.blk s H scope (compEnvC scope cl C X.env) fp) ct W' elt te) {vs : List Nat} (hv : vs = own.map (·.2)) (sub : ∀ i ∈ g.names, i ∈ vs) (hs : ∀ x, foldedSetIterable iter X.env x = pure x := by intro _; rfl) :
    PDf X ct (.ListComp elt [⟨tg, iter, ifs, 0⟩] scope pos) (elc it g tt te vs) := by
  subst hv
  refine PE.wk (PE.kf (pe_lc (g := fun v σ H Q => KF X.K H → gE X.K ct g v σ H Q) (tt := tDb X.K ct W' tt) (te := tD X.K ct W' te) hc hN hi ok (fun s H C cl fp => PG.kf (hg s H C cl fp)) ht he hs)) fun σ H Q ⟨o, G, S, er, q⟩ => ?_
  have q : ResS ((it G S).bind fun ds S1 => match runLc g tt te (wipeG G (own.map (·.2))) ds S1 with
    | .ok ys S2 => if ds.length ≤ 16777216 then .ok (D.lst ys) S2 else .bad
    | _ => .bad) _ := q
  refine ⟨o, G, S, er, ?_⟩
  cases ev0 : it G S with
  | ok ds S1 =>
    rw [ev0] at q
    intro o1 H1 J x1 s1 w
    have q : ResS (match runLc g tt te (wipeG G (own.map (·.2))) ds S1 with
      | .ok ys S2 => if ds.length ≤ 16777216 then .ok (D.lst ys) S2 else .bad
      | _ => .bad) _ := q
    cases ev : runLc g tt te (wipeG G (own.map (·.2))) ds S1 with
    | ok ys S2 =>
      rw [ev] at q
      dsimp only at q
      split at q
      · rename_i hz
        obtain ⟨ds', ed, q⟩ := q
        cases ed
        exact lc_run (er.ext x1 s1) w ev hz sub fun o' L H' xs x s hL hl nb rl => q o' L xs H' (x1.trans x) s (x1.back hL) hl nb rl
      · exact q.elim
    | exc x S1 => rw [ev] at q; exact q.elim
    | bad => rw [ev] at q; exact q.elim
  | exc x S1 => rw [ev0] at q; exact q.elim
  | bad => rw [ev0] at q; exact q.elim
end
section
variable {X : Cx} {ct : CT} {e a b : Expr} {es : List Expr} {t ta tb : Ex} {tes : Exs} {pos : Pos}
theorem pdf_lst (h : PDs X ct WF es tes) : PDf X ct (.List es pos) (elst tes) :=
  PE.wk (PE.kf (pe_lst h)) fun σ H Q ⟨o, G, S, er, q⟩ => by
    have q : ResS ((tes G S).bind fun xs S1 => if xs.length ≤ 16777216 then .ok (D.lst xs) S1 else .bad) _ := q
    refine ⟨o, G, S, er, ?_⟩
    cases ev : tes G S with
    | ok d S1 =>
      rw [ev] at q
      intro o1 v H1 x1 s1 r1
      have q : ResS (if d.length ≤ 16777216 then .ok (D.lst d) S1 else .bad) _ := q
      by_cases hz : d.length ≤ 16777216
      · rw [if_pos hz] at q
        obtain ⟨ds', ed, q⟩ := q
        cases ed
        refine ⟨by rw [r1.length, sizeLine_eq]; exact hz, fun p hp kf => ?_⟩
        exact q o1 p v _ (x1.trans (.grown hp)) (s1.grown hp kf) (x1.back hp) upd_same (fun z => by obtain ⟨u, e⟩ := s1.ba _ z; rw [hp] at e; cases e) ((Ext.grown hp).repL s1 r1)
      · rw [if_neg hz] at q; exact q.elim
    | exc x S1 => rw [ev] at q; exact q.elim
    | bad => rw [ev] at q; exact q.elim
/-- strict, relaxed -/
def fstr (t : Ex) : Ex := fun G S => match t (hide G) S with
  | .ok (.lst ds) S1 => if D.flats ds = true then .ok (.lst ds) S1 else .bad
  | _ => .bad
def frel (t : Ex) : Ex := fun G S => match t G S with
  | .ok (.lst ds) S1 => if D.flats ds = true ∧ Store.flat S1 = true then .ok (.lst ds) S1 else .bad
  | _ => .bad
theorem pmf_strict (h : PDf X ct e t) : PMf X ct e (fstr t) := fun A => PE.wk h fun σ H Q ⟨o, lo, G, S, r, q⟩ => by
  refine ⟨o.wi lo, hide G, S, r.hid, ?_⟩
  unfold fstr at q
  cases ev : t (hide G) S with
  | ok d S1 =>
    rw [ev] at q
    cases d with
    | lst ds =>
      dsimp only at q
      split at q
      · rename_i hf
        obtain ⟨ds', ed, _, q⟩ := q
        cases ed
        refine ⟨ds, rfl, fun o' l vs H1 x1 s1 hn hl nb rl => ?_⟩
        obtain ⟨o2, e, r2⟩ := r.afterS x1 s1
        subst e
        exact q o2 l vs H1 ⟨r2, x1.mono r.s, r.keptS x1⟩ hn hl nb rl
      · exact q.elim
    | _ => exact q.elim
  | exc x S1 => rw [ev] at q; exact q.elim
  | bad => rw [ev] at q; exact q.elim
theorem pmf_relax (h : PDf X ct e t) : PMf X ct e (frel t) := fun A => PE.wk h fun σ H Q ⟨o, lo, G, S, r, q⟩ => by
  refine ⟨o, G, S, r.full, ?_⟩
  unfold frel at q
  cases ev : t G S with
  | ok d S1 =>
    rw [ev] at q
    cases d with
    | lst ds =>
      dsimp only at q
      split at q
      · rename_i hf
        obtain ⟨ds', ed, _, q⟩ := q
        cases ed
        refine ⟨ds, rfl, fun o' l vs H1 x1 s1 hn hl nb rl => ?_⟩
        refine q o' l vs H1 ⟨r.afterF x1 s1 hf.2, r.monoF x1, r.keptF x1⟩ hn hl (fun z => z.elim nb fun ⟨i, hi⟩ => ?_) (rl.flats hf.1)
        obtain ⟨ds2, e1⟩ := r.wo i l hi
        obtain ⟨l', vs2, q1, q2, q3, q4⟩ := r.w i ds2 e1
        rw [hi] at q1; cases q1
        rw [hn] at q3; cases q3
      · exact q.elim
    | _ => exact q.elim
  | exc x S1 => rw [ev] at q; exact q.elim
  | bad => rw [ev] at q; exact q.elim
end
end DL

end
section
set_option maxRecDepth 100000
set_option maxHeartbeats 2000000
/-! The data layer: fields stored; more new lists; more operators. -/
namespace DL
open PySem PySem.Spec PyProof.Rows L2

/-! ### new lists by operators and calls -/
theorem fresh_at {K : PySem.W.Frag} {ct : CT} {o o1 : Om} {S1 : Store} {H H1 : Hp} {p : Addr} {vs : List V} {ds : List D} {Q : VK} (x : Ext K o o1 H H1) (s : SRel K ct o1 S1 H1) (hp : H1 p = none) (kf : KF K (upd H1 p (.lst vs))) (r : RepL K o1 H1 vs ds)
    (q : ∀ o' l vs H', Ext K o o' H H' → SRel K ct o' S1 H' → H l = none → H' l = some (.lst vs) → ¬ o'.bad l → RepL K o' H' vs ds → Q (.ref l) H') : Q (.ref p) (upd H1 p (.lst vs)) :=
  q o1 p vs _ (x.trans (.grown hp)) (s.grown hp kf) (x.back hp) upd_same (fun z => by obtain ⟨u, e⟩ := s.ba _ z; rw [hp] at e; cases e) ((Ext.grown hp).repL s r)
section
variable {X : Cx} {ct : CT} {a b : Expr} {es : List Expr} {ta tb : Ex} {tes : Exs} {pos p : Pos} {x : Str}
theorem pdf_bin {op : Operator} {f : D → D → Option D} {r : R2} (hop : OpR X (binaryOp op) r) (ha : PD X ct WF a ta) (hb : PD X ct WF b tb)
    (k : ∀ o S v w x y z H (Q : VK), SRel X.K ct o S H → Rep X.K o H v x → Rep X.K o H w y → f x y = some z → (∀ ds, z = .lst ds → ∀ p vs, H p = none → KF X.K (upd H p (.lst vs)) → RepL X.K o H vs ds → Q (.ref p) (upd H p (.lst vs))) → (∃ ds, z = .lst ds) → r v w H fun v H' => KF X.K H' → Q v H') :
    PDf X ct (.BinOp a op b pos) (ebin f ta tb) :=
  PE.wk (PE.kf (pe_op hop ha hb)) fun σ H Q ⟨o, G, S, er, q⟩ => by
    have q : ResS ((ta G S).bind fun x S1 => (tb G S1).bind fun y S2 => match f x y with
      | some z => .ok z S2
      | none => .bad) _ := q
    refine ⟨o, G, S, er, ?_⟩
    cases ev : ta G S with
    | ok d1 S1 =>
      rw [ev] at q
      intro o1 v1 H1 x1 s1 r1
      refine ⟨o1, G, S1, er.ext x1 s1, ?_⟩
      have q : ResS ((tb G S1).bind fun y S2 => match f d1 y with
        | some z => .ok z S2
        | none => .bad) _ := q
      cases ev2 : tb G S1 with
      | ok d2 S2 =>
        rw [ev2] at q
        intro o2 v2 H2 x2 s2 r2
        have q : ResS (match f d1 d2 with
          | some z => .ok z S2
          | none => .bad) _ := q
        cases e : f d1 d2 with
        | none => rw [e] at q; exact q.elim
        | some z =>
          rw [e] at q
          obtain ⟨ds, ed, q⟩ := q
          exact k o2 S2 v1 v2 d1 d2 z H2 _ s2 (x2.rep s1 r1) r2 e (fun ds' e' p vs hp kf r => by
            rw [ed] at e'; cases e'
            exact fresh_at (x1.trans x2) s2 hp kf r q) ⟨ds, ed⟩
      | exc x S1 => rw [ev2] at q; exact q.elim
      | bad => rw [ev2] at q; exact q.elim
    | exc x S1 => rw [ev] at q; exact q.elim
    | bad => rw [ev] at q; exact q.elim
theorem pdf_mul (ha : PD X ct WF a ta) (hb : PD X ct WF b tb) : PDf X ct (.BinOp a .Mult b pos) (ebin opMul ta tb) :=
  pdf_bin op_rep ha hb fun o S v w x y z H Q sr rx ry e k ⟨es, ez⟩ => by
    subst ez
    cases rx with
    | lst ha na ra =>
      rename_i ds
      cases ry with
      | int j =>
        have e : (if j.natAbs ≤ 16777216 ∧ ds.length * j.toNat ≤ 16777216 then some (D.lst (repL j.toNat ds)) else none) = some (.lst es) := e
        by_cases hz : j.natAbs ≤ 16777216 ∧ ds.length * j.toNat ≤ 16777216
        · rw [if_pos hz] at e
          cases e
          exact ⟨_, j, _, rfl, rfl, ha, by omega, by omega, by rw [ra.length, sizeLine_eq]; exact hz.2, fun p hp kf => k _ rfl p _ hp kf (ra.rep _)⟩
        · rw [if_neg hz] at e; cases e
      | _ => cases e
    | int i =>
      cases ry with
      | int j =>
        have e : (if mulOk i j = true then some (D.int (i * j)) else none) = some (.lst es) := e
        by_cases hz : mulOk i j = true
        · rw [if_pos hz] at e; cases e
        · rw [if_neg hz] at e; cases e
      | _ => cases e
    | str i =>
      cases ry with
      | int j =>
        have e : (if j.natAbs ≤ 16777216 ∧ i.length * j.toNat ≤ 16777216 then some (D.str (repS j.toNat i)) else none) = some (.lst es) := e
        split at e <;> cases e
      | _ => cases e
    | tup ht0 hr0 =>
      rename_i ds
      cases ry with
      | int j =>
        have e : (if ds ≠ [] ∧ -1000000 ≤ j ∧ j ≤ 1000 ∧ ds.length ≤ 1000 then some (D.tup (repL j.toNat ds)) else none) = some (.lst es) := e
        split at e <;> cases e
      | _ => cases e
    | _ => cases e
theorem pdf_add (ha : PD X ct WF a ta) (hb : PD X ct WF b tb) : PDf X ct (.BinOp a .Add b pos) (ebin opAdd ta tb) :=
  pdf_bin op_cat ha hb fun o S v w x y z H Q sr rx ry e k ⟨es, ez⟩ => by
    subst ez
    cases rx with
    | lst ha na ra =>
      rename_i ds
      cases ry with
      | lst hb nb rb =>
        rename_i ds2
        have e : (if ds.length + ds2.length ≤ 16777216 then some (D.lst (ds ++ ds2)) else none) = some (.lst es) := e
        by_cases hz : ds.length + ds2.length ≤ 16777216
        · rw [if_pos hz] at e
          cases e
          exact ⟨_, _, _, _, rfl, rfl, ha, hb, by rw [ra.length, rb.length, sizeLine_eq]; exact hz, fun p hp kf => k _ rfl p _ hp kf (ra.append rb)⟩
        · rw [if_neg hz] at e; cases e
      | _ => cases e
    | int i => cases ry <;> cases e
    | str i =>
      cases ry with
      | str j =>
        have e : (if i.length + j.length ≤ 16777216 then some (D.str (i ++ j)) else none) = some (.lst es) := e
        split at e <;> cases e
      | _ => cases e
    | tup ht0 hr0 =>
      rename_i ds
      cases ry with
      | tup ht1 hr1 =>
        rename_i ds2
        have e : (if ds.length + ds2.length ≤ 16777216 then some (D.tup (ds ++ ds2)) else none) = some (.lst es) := e
        split at e <;> cases e
      | _ => cases e
    | _ => cases e
theorem pdf_list (hg : Gl X "list") (hm : X.mg "list" = none) (ha : PDs X ct WF (a :: es) tes) (he : starEach (a :: es) X.env = (false, eval a X.env) :: starEach es X.env := by rfl) (hpl : (backTo pos (starEach es X.env)).any (·.1) = false := by rfl) :
    PDf X ct (.Call (.Name "list" p) (a :: es) [] pos) (ecal fList tes) :=
  PE.wk (PE.kf (pe_callTy call_list_of hg hm (by decide +kernel) ha (by decide) (by decide) he hpl)) fun σ H Q ⟨o, G, S, er, q⟩ => by
    have q : ResS ((tes G S).bind fun xs S1 => match fList xs with
      | some z => .ok z S1
      | none => .bad) _ := q
    refine ⟨o, G, S, er, ?_⟩
    cases ev : tes G S with
    | ok d1 S1 =>
      rw [ev] at q
      intro o1 v1 H1 x1 s1 r1
      have q : ResS (match fList d1 with
        | some z => .ok z S1
        | none => .bad) _ := q
      cases e : fList d1 with
      | none => rw [e] at q; exact q.elim
      | some z =>
        rw [e] at q
        obtain ⟨ds, ed, q2⟩ := q
        subst ed
        unfold fList at e
        split at e
        · cases e
          obtain ⟨v, rfl, r⟩ := r1.one
          cases r with
          | lst h _ r => exact ⟨_, _, rfl, .inl (.of h), fun p hp kf => fresh_at x1 s1 hp kf r q2⟩
        · cases e
          obtain ⟨v, rfl, r⟩ := r1.one
          cases r with
          | tup h r => exact ⟨_, _, rfl, .inr h, fun p hp kf => fresh_at x1 s1 hp kf r q2⟩
        · cases e
    | exc x S1 => rw [ev] at q; exact q.elim
    | bad => rw [ev] at q; exact q.elim
end

/-! ### operators in place -/
def onInts (f : D → D → Option D) : D → D → Option D := fun x y => match x, y with
  | .int i, .int j => f (.int i) (.int j)
  | _, _ => none
section
variable {X : Cx} {ct : CT}
theorem opS_ints {op : Operator} {c : Int → Int → Prop} {g : Int → Int → V} {f : D → D → Option D} (h : OpR X (inplaceOp op) (rI c g)) (k : ∀ i j z, f (.int i) (.int j) = some z → c i j ∧ ∀ (o : Om) (H : Hp), Rep X.K o H (g i j) z) : OpS X ct (inplaceOp op) (onInts f) := by
  intro pins s σ H v w u1 u2 Q I rv rw ⟨o, S, x, y, z, sr, rx, ry, e, q⟩
  cases rx with
  | int i =>
    cases ry with
    | int j =>
      obtain ⟨h1, h2⟩ := k i j z e
      exact h pins s σ H _ _ u1 u2 Q I rv rw ⟨i, j, rfl, rfl, h1, q o _ H .refl sr (h2 o H)⟩
    | _ => cases e
  | _ => cases e
theorem opS_ints0 {op : Operator} {g : Int → Int → V} {f : D → D → Option D} (h : OpR X (inplaceOp op) (rI0 g)) (k : ∀ i j z, f (.int i) (.int j) = some z → ∀ (o : Om) (H : Hp), Rep X.K o H (g i j) z) : OpS X ct (inplaceOp op) (onInts f) := by
  intro pins s σ H v w u1 u2 Q I rv rw ⟨o, S, x, y, z, sr, rx, ry, e, q⟩
  cases rx with
  | int i =>
    cases ry with
    | int j => exact h pins s σ H _ _ u1 u2 Q I rv rw ⟨i, j, rfl, rfl, q o _ H .refl sr (k i j z e o H)⟩
    | _ => cases e
  | _ => cases e
theorem ios_add : OpS X ct (inplaceOp .Add) (onInts opAdd) := opS_ints0 iop_add fun i j z e o H => by cases e; exact .int _
theorem ios_sub : OpS X ct (inplaceOp .Sub) (onInts opSub) := opS_ints0 iop_sub fun i j z e o H => by cases e; exact .int _
theorem iop_mulM : OpR X (inplaceOp .Mult) (rI (fun i j => mulOk i j = true) fun i j => .int (i * j)) := opI fun _ _ _ _ _ _ _ hc q => imul_int q (mul_guard hc)
theorem ios_mul : OpS X ct (inplaceOp .Mult) (onInts opMul) := opS_ints iop_mulM fun i j z e => by
  have e : (if mulOk i j = true then some (D.int (i * j)) else none) = some z := e
  by_cases hz : mulOk i j = true
  · rw [if_pos hz] at e; cases e; exact ⟨hz, fun o H => .int _⟩
  · rw [if_neg hz] at e; cases e
theorem ios_shr : OpS X ct (inplaceOp .RShift) (onInts opShr) := opS_ints iop_shr fun i j z e => by
  have e : (if 0 ≤ j then some (D.int (i / 2 ^ j.toNat)) else none) = some z := e
  by_cases hz : 0 ≤ j
  · rw [if_pos hz] at e; cases e; exact ⟨hz, fun o H => .int _⟩
  · rw [if_neg hz] at e; cases e
theorem ios_shl : OpS X ct (inplaceOp .LShift) (onInts opShl) := opS_ints iop_shlW fun i j z e => by
  have e : (if 0 ≤ j ∧ j ≤ 1000000 ∧ i.natAbs.log2 < 10000000 then some (D.int (i * 2 ^ j.toNat)) else none) = some z := e
  by_cases hz : 0 ≤ j ∧ j ≤ 1000000 ∧ i.natAbs.log2 < 10000000
  · rw [if_pos hz] at e; cases e; exact ⟨shl_guard hz, fun o H => .int _⟩
  · rw [if_neg hz] at e; cases e
theorem ios_mod : OpS X ct (inplaceOp .Mod) (onInts opMod) := opS_ints iop_mod fun i j z e => by
  have e : (if 0 < j then some (D.int (i % j)) else none) = some z := e
  by_cases hz : 0 < j
  · rw [if_pos hz] at e; cases e; exact ⟨hz, fun o H => .int _⟩
  · rw [if_neg hz] at e; cases e
theorem ios_or : OpS X ct (inplaceOp .BitOr) (onInts opOr) := opS_ints0 iop_or fun i j z e o H => by cases e; exact .int _
theorem ios_and : OpS X ct (inplaceOp .BitAnd) (onInts opAnd) := opS_ints0 iop_and fun i j z e o H => by cases e; exact .int _
theorem ios_xor : OpS X ct (inplaceOp .BitXor) (onInts opXor) := opS_ints0 iop_xor fun i j z e o H => by cases e; exact .int _
end

/-! ### fields stored -/
theorem nodup_len {α : Type} [DecidableEq α] : ∀ {xs ys : List α}, xs.Nodup → (∀ x ∈ xs, x ∈ ys) → xs.length ≤ ys.length
  | [], _, _, _ => Nat.zero_le _
  | x :: xs, ys, n, h => by
    rw [List.nodup_cons] at n
    have hx := h x List.mem_cons_self
    have ih := nodup_len (xs := xs) (ys := ys.erase x) n.2 fun y hy => (List.mem_erase_of_ne (show y ≠ x from fun e => n.1 (e ▸ hy))).mpr (h y (List.mem_cons_of_mem _ hy))
    rw [List.length_erase_of_mem hx] at ih
    have := List.length_pos_of_mem hx
    rw [List.length_cons]
    omega
theorem putF_keys {f : Str} {v : V} : ∀ {fs : List (Str × V)}, ∀ g ∈ (putF f v fs).map (·.1), g = f ∨ g ∈ fs.map (·.1)
  | [], g, h => by simp [putF] at h; exact .inl h
  | (k, x) :: r, g, h => by
    unfold putF at h
    by_cases e : k = f
    · rw [if_pos e] at h
      rcases List.mem_cons.mp h with h | h
      · exact .inr (by rw [h]; exact List.mem_cons_self)
      · exact .inr (List.mem_cons_of_mem _ h)
    · rw [if_neg e] at h
      rcases List.mem_cons.mp h with h | h
      · exact .inr (by rw [h]; exact List.mem_cons_self)
      · rcases putF_keys (fs := r) g h with h | h
        · exact .inl h
        · exact .inr (List.mem_cons_of_mem _ h)
theorem putF_nodup {f : Str} {v : V} : ∀ {fs : List (Str × V)}, (fs.map (·.1)).Nodup → ((putF f v fs).map (·.1)).Nodup
  | [], _ => by simp [putF]
  | (k, x) :: r, h => by
    have h : (k :: r.map (·.1)).Nodup := h
    rw [List.nodup_cons] at h
    unfold putF
    by_cases e : k = f
    · rw [if_pos e]
      show (k :: r.map (·.1)).Nodup
      exact List.nodup_cons.mpr h
    · rw [if_neg e]
      show (k :: (putF f v r).map (·.1)).Nodup
      refine List.nodup_cons.mpr ⟨fun z => ?_, putF_nodup h.2⟩
      rcases putF_keys k z with z | z
      · exact e z
      · exact h.1 z
def cput (S : Store) (k j : Nat) (s : Slot) : Store := match S[k]? with
  | some c => S.set k { c with fs := c.fs.set j s }
  | none => S
def freeSlot (S : Store) (c k j : Nat) : Bool := match S[k]? with
  | some cell => cell.cls == c && match cell.fs[j]? with
    | some .no => true
    | some (.val _) => true
    | _ => false
  | none => false
theorem freeSlot_ok {S : Store} {c k j : Nat} (h : freeSlot S c k j = true) : ∃ cell s, S[k]? = some cell ∧ cell.cls = c ∧ cell.fs[j]? = some s ∧ (∀ ds, s ≠ .own ds) := by
  unfold freeSlot at h
  cases e : S[k]? with
  | none => rw [e] at h; cases h
  | some cell =>
    rw [e] at h
    dsimp only at h
    rw [Bool.and_eq_true] at h
    cases e2 : cell.fs[j]? with
    | none => rw [e2] at h; cases h.2
    | some s =>
      refine ⟨cell, s, rfl, beq_iff_eq.mp h.1, e2, fun ds z => ?_⟩
      rw [e2, z] at h
      cases h.2
theorem Mono.insU {K : PySem.W.Frag} {o : Om} {H : Hp} {a C dx C' dx' : Addr} {fs fs' : List (Str × V)} (ha : H a = some (.ins C dx fs)) : Mono K o o H (upd H a (.ins C' dx' fs')) := by
  refine ⟨fun b xs h => ?_, fun b xs _ h => ?_, fun b xs _ h => by rw [upd_ne (show b ≠ a from fun e => by rw [e, ha] at h; cases h)]; exact h, fun _ _ _ n => n, Nat.le_refl _, fun _ _ => rfl, fun _ _ _ h => h⟩
  · rcases h with (h | ⟨ob, h⟩) | h
    · exact .inl (.inl (by rw [upd_ne (show b ≠ a from fun e => by rw [e, ha] at h; cases h)]; exact h))
    · exact .inl (.inr ⟨ob, by rw [upd_ne (show b ≠ a from fun e => by rw [e, ha] at h; cases h)]; exact h⟩)
    · exact .inr h
  · rcases h with (h | ⟨ob, h⟩) | h
    · exact .inl (.inl (by rw [upd_ne (show b ≠ a from fun e => by rw [e, ha] at h; cases h)]; exact h))
    · exact .inl (.inr ⟨ob, by rw [upd_ne (show b ≠ a from fun e => by rw [e, ha] at h; cases h)]; exact h⟩)
    · exact .inr h
section
variable {K : PySem.W.Frag} {ct : CT} {A : Om × Hp} {o : Om} {lo : Lo} {G : Env} {S : Store} {σ : L2.St} {H : Hp}
theorem StRel.fset (r : StRel K ct A o lo G S σ H) {k j c : Nat} {cd : CD} {f : Str} {y : V} {d : D} (hc : ct c = some cd) (hf : cd.fl[j]? = some f) (fr : freeSlot S c k j = true) (ry : Rep K (o.wi lo) H y d) :
    ∃ dx fs, H (o.ρ k) = some (.ins cd.C dx fs) ∧ fs.length < 1000 ∧ Cls K cd.C ∧ NoAttr K cd.C f ∧ StRel K ct A o lo G (cput S k j (.val d)) σ (upd H (o.ρ k) (.ins cd.C dx (putF f y fs))) ∧ Mono K (o.wi lo) (o.wi lo) H (upd H (o.ρ k) (.ins cd.C dx (putF f y fs))) := by
  obtain ⟨cell, s0, e1, e2, e3, e4⟩ := freeSlot_ok fr
  obtain ⟨cd', dx, vfs, h1, h2, h3, h4, h5, h6⟩ := (r.s.cell k cell e1).ex
  rw [e2, hc] at h1
  cases h1
  have h2 : H (o.ρ k) = some (.ins cd.C dx vfs) := h2
  have ok := r.s.cok c cd hc
  have hk : k < o.n := by
    have := r.s.n
    have h : (o.wi lo).n = o.n := rfl
    rw [← h, this]
    exact (List.getElem?_eq_some_iff.mp e1).1
  have ck : k < S.length := (List.getElem?_eq_some_iff.mp e1).1
  have cj : j < cell.fs.length := (List.getElem?_eq_some_iff.mp e3).1
  have hot : o.hot (o.ρ k) := .inl ⟨k, hk, rfl⟩
  have foN : o.fo k j = none := by
    cases e : o.fo k j with
    | none => rfl
    | some l =>
      obtain ⟨c', ds, q1, q2⟩ := r.s.foS k j l e
      rw [e1] at q1; cases q1
      rw [e3] at q2; cases q2
      exact absurd rfl (e4 ds)
  have hl : vfs.length ≤ 900 := by
    have := nodup_len h4 h5
    rw [List.length_map] at this
    exact Nat.le_trans this ok.sz
  have m : Mono K (o.wi lo) (o.wi lo) H (upd H (o.ρ k) (.ins cd.C dx (putF f y vfs))) := Mono.insU h2
  have eS : cput S k j (.val d) = S.set k { cell with fs := cell.fs.set j (.val d) } := by
    unfold cput
    rw [e1]
  have notA : ∀ {l vs}, H l = some (.lst vs) → l ≠ o.ρ k := fun h z => by rw [z, h2] at h; cases h
  refine ⟨dx, vfs, h2, by omega, ok.cl, ok.noF hf, ?_, m⟩
  rw [eS]
  refine ⟨⟨by rw [List.length_set]; exact r.s.n, kfU r.s.kf h2, fun k' c' e => ?_, r.s.inj, r.s.foI, fun k' j' l' h => ?_, r.s.hb, fun a z => let ⟨u, q⟩ := r.s.ba a z; thereU h2 q, r.s.cok⟩, r.len, fun i d h => let ⟨x, q1, q2⟩ := r.v i d h; ⟨x, q1, q2.mono m⟩, fun i es h => ?_, r.wo, r.inj, r.nb, r.nh, r.fr, ?_⟩
  · by_cases e0 : k = k'
    · subst e0
      rw [List.getElem?_set_self ck] at e
      cases e
      refine ⟨cd, dx, putF f y vfs, by rw [← hc, ← e2], upd_same, by simpa using h3, putF_nodup h4, fun g hg => ?_, fun jj g s f1 f2 => ?_⟩
      · rcases putF_keys g hg with z | z
        · rw [z]; exact List.mem_of_getElem? hf
        · exact h5 g z
      · rw [lookup_putF]
        by_cases ej : j = jj
        · subst ej
          have f2 : (cell.fs.set j (.val d))[j]? = some s := f2
          rw [List.getElem?_set_self cj] at f2
          cases f2
          rw [hf] at f1; cases f1
          rw [if_pos rfl]
          exact ⟨foN, y, rfl, ry.mono m⟩
        · have f2 : (cell.fs.set j (.val d))[jj]? = some s := f2
          rw [List.getElem?_set_ne ej] at f2
          have ne : g ≠ f := fun z => ej ((List.getElem?_inj (List.getElem?_eq_some_iff.mp hf).1 ok.nd).mp (by rw [hf, f1, z]))
          rw [if_neg ne]
          have q := h6 jj g s f1 f2
          cases s with
          | no => exact q
          | val d =>
            obtain ⟨q1, x', q2, q3⟩ := q
            exact ⟨q1, x', q2, q3.mono m⟩
          | own es =>
            obtain ⟨l', vs2, q1, q2, q3, q4⟩ := q
            exact ⟨l', vs2, q1, q2, (upd_ne (notA q3)).trans q3, q4.mono m⟩
    · rw [List.getElem?_set_ne e0] at e
      obtain ⟨cd2, dx2, vfs2, g1, g2, g3, g4, g5, g6⟩ := (r.s.cell k' c' e).ex
      have hk' : k' < o.n := by
        have := r.s.n
        have h : (o.wi lo).n = o.n := rfl
        rw [← h, this]
        exact (List.getElem?_eq_some_iff.mp e).1
      refine ⟨cd2, dx2, vfs2, g1, (upd_ne (show o.ρ k' ≠ o.ρ k from fun z => e0 (r.s.inj k' k hk' hk z).symm)).trans g2, g3, g4, g5, fun jj g s f1 f2 => ?_⟩
      have q := g6 jj g s f1 f2
      cases s with
      | no => exact q
      | val d =>
        obtain ⟨q1, x', q2, q3⟩ := q
        exact ⟨q1, x', q2, q3.mono m⟩
      | own es =>
        obtain ⟨l', vs2, q1, q2, q3, q4⟩ := q
        exact ⟨l', vs2, q1, q2, (upd_ne (notA q3)).trans q3, q4.mono m⟩
  · obtain ⟨c0, es, q1, q2⟩ := r.s.foS k' j' l' h
    by_cases e0 : k = k'
    · subst e0
      rw [e1] at q1; cases q1
      refine ⟨_, es, List.getElem?_set_self ck, ?_⟩
      show (cell.fs.set j (.val d))[j']? = _
      by_cases ej : j = j'
      · subst ej
        have h : o.fo k j = some l' := h
        rw [foN] at h; cases h
      · rw [List.getElem?_set_ne ej]
        exact q2
    · exact ⟨c0, es, by rw [List.getElem?_set_ne e0]; exact q1, q2⟩
  · obtain ⟨l', vs2, q1, q2, q3, q4⟩ := r.w i es h
    exact ⟨l', vs2, q1, q2, (upd_ne (notA q3)).trans q3, q4.mono m⟩
  · refine ⟨fun a u h n => ?_, fun a u h => ?_, r.x.n, r.x.r, r.x.badS, r.x.badN, r.x.hotN, r.x.f⟩
    · refine (upd_ne fun z => ?_).trans (r.x.keep a u h n)
      subst z
      rcases r.x.hotN _ hot with z | z
      · exact n z
      · rw [h] at z; cases z
    · obtain ⟨u', q⟩ := r.x.there a u h
      exact thereU h2 q
end
/-- o.f = value -/
def sfset (to : Ex) (c j : Nat) (t : Ex) : St := fun G S => match t G S with
  | .ok d S1 => match to G S1 with
    | .ok (.obj k) S2 => if freeSlot S2 c k j = true then .nx G (cput S2 k j (.val d)) else .bad
    | _ => .bad
  | _ => .bad
section
variable {X : Cx} {ct : CT} {e oe : Expr} {t to : Ex} {pos pos' : Pos} {f : Str}
theorem psd_fset {c j : Nat} {cd : CD} (h : PM X ct e t) (ho : PM X ct oe to) (hc : ct c = some cd) (hf : cd.fl[j]? = some f) (hs : swapsWith e (some (.Attribute oe f pos')) pos.line X.env = pure false) : PSD X ct (.Assign [.Attribute oe f pos'] e pos) (sfset to c j t) := fun A =>
  PS.wk (ps_fld (ho A) (h A) hs) fun D σ H ⟨o, lo, G, S, r, q⟩ => by
    unfold sfset at q
    refine ⟨o, lo, G, S, r, ?_⟩
    cases ev : t G S with
    | ok d S1 =>
      rw [ev] at q
      dsimp only at q
      intro o1 v H1 T rv
      refine ⟨o1, lo, G, S1, T.r, ?_⟩
      cases ev0 : to G S1 with
      | ok d0 S0 =>
        rw [ev0] at q
        intro o0 v0 H0 T0 rv0
        cases rv0 with
        | @obj k hk =>
          dsimp only at q
          split at q
          · rename_i hz
            obtain ⟨dx, fs, q1, q2, q3, q4, q5, q6⟩ := T0.r.fset hc hf hz (rv.mono T0.m)
            exact ⟨_, _, dx, fs, rfl, q1, q3, q4, q2, q o0 lo σ _ q5 ((T.m.trans T0.m).trans q6)⟩
          · exact q.elim
        | _ => exact q.elim
      | exc x S1 => rw [ev0] at q; exact q.elim
      | bad => rw [ev0] at q; exact q.elim
    | exc x S1 => rw [ev] at q; exact q.elim
    | bad => rw [ev] at q; exact q.elim
end
end DL

end
section
set_option maxRecDepth 100000
set_option maxHeartbeats 2000000
/-! The data layer: a new list stored in a field. -/
namespace DL
open PySem PySem.Spec PyProof.Rows L2
section
variable {K : PySem.W.Frag} {ct : CT} {A : Om × Hp} {o : Om} {lo : Lo} {G : Env} {S : Store} {σ : L2.St} {H H' : Hp}
theorem StRel.fown {o0 : Om} {S0 : Store} (r0 : StRel K ct A o0 lo G S0 σ H') (r : StRel K ct A o lo G S σ H) (m0 : Mono K (o0.wi lo) (o.wi lo) H' H) (kp : ∀ i l u, lo i = some l → H' l = some u → H l = some u) {k j c : Nat} {cd : CD} {f : Str} {l : Addr} {vs : List V} {ds : List D}
    (hc : ct c = some cd) (hf : cd.fl[j]? = some f) (fr : freeSlot S c k j = true) (hl : H l = some (.lst vs)) (fl : H' l = none) (nbl : ¬ (o.wi lo).bad l) (q : RepL K (o.wi lo) H vs ds) (fd : D.flats ds = true) (fS : Store.flat S = true) :
    ∃ dx fs, H (o.ρ k) = some (.ins cd.C dx fs) ∧ fs.length < 1000 ∧ Cls K cd.C ∧ NoAttr K cd.C f ∧ ∃ o' : Om, StRel K ct A o' lo G (cput S k j (.own ds)) σ (upd H (o.ρ k) (.ins cd.C dx (putF f (.ref l) fs))) ∧ Mono K (o0.wi lo) (o'.wi lo) H' (upd H (o.ρ k) (.ins cd.C dx (putF f (.ref l) fs))) := by
  obtain ⟨cell, s0, e1, e2, e3, e4⟩ := freeSlot_ok fr
  obtain ⟨cd', dx, vfs, h1, h2, h3, h4, h5, h6⟩ := (r.s.cell k cell e1).ex
  rw [e2, hc] at h1
  cases h1
  have h2 : H (o.ρ k) = some (.ins cd.C dx vfs) := h2
  have ok := r.s.cok c cd hc
  have on : o.n = S.length := r.s.n
  have hk : k < o.n := by rw [on]; exact (List.getElem?_eq_some_iff.mp e1).1
  have ck : k < S.length := (List.getElem?_eq_some_iff.mp e1).1
  have cj : j < cell.fs.length := (List.getElem?_eq_some_iff.mp e3).1
  have hot : o.hot (o.ρ k) := .inl ⟨k, hk, rfl⟩
  have foN : o.fo k j = none := by
    cases e : o.fo k j with
    | none => rfl
    | some l =>
      obtain ⟨c', ds, q1, q2⟩ := r.s.foS k j l e
      rw [e1] at q1; cases q1
      rw [e3] at q2; cases q2
      exact absurd rfl (e4 ds)
  have hlen : vfs.length ≤ 900 := by
    have := nodup_len h4 h5
    rw [List.length_map] at this
    exact Nat.le_trans this ok.sz
  have nhl : ¬ o.hot l := fun z => nbl (r.s.hb l z)
  have nlo : ∀ i, lo i ≠ some l := fun i z => nbl (.inr ⟨i, z⟩)
  have kfl : K.lookup l = none := r.s.kf l _ hl
  generalize hH2 : upd H (o.ρ k) (.ins cd.C dx (putF f (.ref l) vfs)) = H2
  have notA : ∀ {b ws}, H b = some (.lst ws) → H2 b = some (.lst ws) := fun {b ws} h => by
    rw [← hH2]
    exact (upd_ne (show b ≠ o.ρ k from fun z => by rw [z, h2] at h; cases h)).trans h
  have m1 : Mono K (o.wi lo) (o.wi lo) H H2 := by rw [← hH2]; exact Mono.insU h2
  generalize ho : ({ n := o.n, ρ := o.ρ, fo := fun k' j' => if k' = k ∧ j' = j then some l else o.fo k' j', bad := fun a => o.bad a ∨ a = l } : Om) = o'
  have on' : o'.n = o.n := by rw [← ho]
  have or' : o'.ρ = o.ρ := by rw [← ho]
  have ofo : ∀ k' j', o'.fo k' j' = if k' = k ∧ j' = j then some l else o.fo k' j' := fun k' j' => by rw [← ho]
  have obad : ∀ a, o'.bad a ↔ o.bad a ∨ a = l := fun a => by rw [← ho]
  have of_ : ∀ k' j' b, o.fo k' j' = some b → o'.fo k' j' = some b := fun k' j' b h => by
    rw [ofo]
    by_cases z : k' = k ∧ j' = j
    · rw [z.1, z.2, foN] at h; cases h
    · rw [if_neg z]; exact h
  have ohot : ∀ a, o'.hot a → o.hot a ∨ a = l := fun a z => by
    rcases z with ⟨k', z1, z2⟩ | ⟨k', j', z⟩
    · rw [on'] at z1; rw [or'] at z2; exact .inl (.inl ⟨k', z1, z2⟩)
    · rw [ofo] at z
      by_cases y : k' = k ∧ j' = j
      · rw [if_pos y] at z; cases z; exact .inr rfl
      · rw [if_neg y] at z; exact .inl (.inr ⟨k', j', z⟩)
  have m2 : Mono K (o0.wi lo) (o'.wi lo) H' H2 := by
    have m := m0.trans m1
    refine ⟨m.t, m.l, m.h, fun a xs h nb z => ?_, by show _ ≤ o'.n; rw [on']; exact m.n, fun i hi => by show o'.ρ i = _; rw [or']; exact m.r i hi, fun k' j' b h => of_ k' j' b (m.f k' j' b h)⟩
    rcases z with z | z
    · rcases (obad a).mp z with z | z
      · exact m.b a xs h nb (.inl z)
      · subst z
        rcases h with (h | ⟨ob, h⟩) | ⟨ob, its, n, h, _⟩
        · rw [fl] at h; cases h
        · rw [fl] at h; cases h
        · rw [kfl] at h; cases h
    · exact m.b a xs h nb (.inr z)
  -- data without lists, in the new state
  have mf : Mono K ({ o.wi lo with bad := (o'.wi lo).bad } : Om) (o'.wi lo) H2 H2 :=
    ⟨fun _ _ h => h, fun _ _ _ h => h, fun _ _ _ h => h, fun _ _ _ n => n, by show o.n ≤ o'.n; rw [on']; exact Nat.le_refl _, fun i _ => by show o'.ρ i = o.ρ i; rw [or'], fun k' j' b h => of_ k' j' b h⟩
  have flatD : ∀ {v d}, Rep K (o.wi lo) H v d → d.flat = true → Rep K (o'.wi lo) H2 v d := fun h e => ((h.mono m1).flat e).mono mf
  have flatL : ∀ {v d}, RepL K (o.wi lo) H v d → D.flats d = true → RepL K (o'.wi lo) H2 v d := fun h e => ((h.mono m1).flats e).mono mf
  have flS : ∀ {k : Nat} {c : Cell} {jj : Nat} {s : Slot}, S[k]? = some c → c.fs[jj]? = some s → Slot.flat s = true := fun h1 h2 => by
    have := List.all_eq_true.mp fS _ (List.mem_of_getElem? h1)
    exact List.all_eq_true.mp this _ (List.mem_of_getElem? h2)
  have slotOk : ∀ {k' jj : Nat} {c0 : Cell} {v : Option V} {s : Slot}, S[k']? = some c0 → c0.fs[jj]? = some s → ¬ (k' = k ∧ jj = j) → SlotRep K (o.wi lo) H (o.fo k' jj) v s → SlotRep K (o'.wi lo) H2 (o'.fo k' jj) v s := fun {k' jj c0 v s} a1 a2 ne q => by
    have e : o'.fo k' jj = o.fo k' jj := by rw [ofo, if_neg ne]
    rw [e]
    have fs := flS a1 a2
    cases s with
    | no => exact q
    | val d =>
      obtain ⟨q1, x', q2, q3⟩ := q
      exact ⟨q1, x', q2, flatD q3 fs⟩
    | own es =>
      obtain ⟨l', vs2, q1, q2, q3, q4⟩ := q
      exact ⟨l', vs2, q1, q2, notA q3, flatL q4 fs⟩
  have eS : cput S k j (.own ds) = S.set k { cell with fs := cell.fs.set j (.own ds) } := by
    unfold cput
    rw [e1]
  have kf2 : KF K H2 := by rw [← hH2]; exact kfU r.s.kf h2
  have th : ∀ {a u}, H a = some u → ∃ u', H2 a = some u' := fun h => by rw [← hH2]; exact thereU h2 h
  refine ⟨dx, vfs, h2, by omega, ok.cl, ok.noF hf, o', ?_⟩
  rw [hH2]
  refine ⟨?_, m2⟩
  rw [eS]
  refine ⟨⟨by rw [List.length_set]; show o'.n = _; rw [on']; exact on, kf2, fun k' c' e => ?_, fun a b ha hb e => ?_, fun k1 j1 k2 j2 b h1 h2 => ?_, fun k' j' l' h => ?_, fun a z => ?_, fun a z => ?_, r.s.cok⟩, r.len, fun i d h => let ⟨x, q1, q2⟩ := r0.v i d h; ⟨x, q1, q2.mono m2⟩, fun i es h => ?_, r.wo, r.inj, fun i b h z => ?_, fun i b h z => ?_, r.fr, ?_⟩
  · by_cases e0 : k = k'
    · subst e0
      rw [List.getElem?_set_self ck] at e
      cases e
      refine ⟨cd, dx, putF f (.ref l) vfs, by rw [← hc, ← e2], by show H2 (o'.ρ k) = _; rw [or', ← hH2, upd_same], by simpa using h3, putF_nodup h4, fun g hg => ?_, fun jj g s f1 f2 => ?_⟩
      · rcases putF_keys g hg with z | z
        · rw [z]; exact List.mem_of_getElem? hf
        · exact h5 g z
      · rw [lookup_putF]
        by_cases ej : j = jj
        · subst ej
          have f2 : (cell.fs.set j (.own ds))[j]? = some s := f2
          rw [List.getElem?_set_self cj] at f2
          cases f2
          rw [hf] at f1; cases f1
          rw [if_pos rfl]
          exact ⟨l, vs, by show o'.fo k j = _; rw [ofo, if_pos ⟨rfl, rfl⟩], rfl, notA hl, flatL q fd⟩
        · have f2 : (cell.fs.set j (.own ds))[jj]? = some s := f2
          rw [List.getElem?_set_ne ej] at f2
          have ne : g ≠ f := fun z => ej ((List.getElem?_inj (List.getElem?_eq_some_iff.mp hf).1 ok.nd).mp (by rw [hf, f1, z]))
          rw [if_neg ne]
          exact slotOk e1 f2 (fun z => ej z.2.symm) (h6 jj g s f1 f2)
    · rw [List.getElem?_set_ne e0] at e
      obtain ⟨cd2, dx2, vfs2, g1, g2, g3, g4, g5, g6⟩ := (r.s.cell k' c' e).ex
      have hk' : k' < o.n := by rw [on]; exact (List.getElem?_eq_some_iff.mp e).1
      refine ⟨cd2, dx2, vfs2, g1, ?_, g3, g4, g5, fun jj g s f1 f2 => slotOk e f2 (fun z => e0 z.1.symm) (g6 jj g s f1 f2)⟩
      show H2 (o'.ρ k') = _
      rw [or', ← hH2]
      exact (upd_ne (show o.ρ k' ≠ o.ρ k from fun z => e0 (r.s.inj k' k hk' hk z).symm)).trans g2
  · have ha : a < o'.n := ha
    have hb : b < o'.n := hb
    have e : o'.ρ a = o'.ρ b := e
    rw [on'] at ha hb
    rw [or'] at e
    exact r.s.inj a b ha hb e
  · have h1 : o'.fo k1 j1 = some b := h1
    have h2 : o'.fo k2 j2 = some b := h2
    rw [ofo] at h1 h2
    by_cases z1 : k1 = k ∧ j1 = j <;> by_cases z2 : k2 = k ∧ j2 = j
    · exact ⟨z1.1.trans z2.1.symm, z1.2.trans z2.2.symm⟩
    · rw [if_pos z1] at h1; rw [if_neg z2] at h2; cases h1
      exact absurd (.inr ⟨k2, j2, h2⟩) nhl
    · rw [if_neg z1] at h1; rw [if_pos z2] at h2; cases h2
      exact absurd (.inr ⟨k1, j1, h1⟩) nhl
    · rw [if_neg z1] at h1; rw [if_neg z2] at h2
      exact r.s.foI k1 j1 k2 j2 b h1 h2
  · have h : o'.fo k' j' = some l' := h
    rw [ofo] at h
    by_cases z : k' = k ∧ j' = j
    · obtain ⟨rfl, rfl⟩ := z
      exact ⟨_, ds, List.getElem?_set_self ck, List.getElem?_set_self cj⟩
    · rw [if_neg z] at h
      obtain ⟨c0, es, q1, q2⟩ := r.s.foS k' j' l' h
      by_cases e0 : k = k'
      · subst e0
        rw [e1] at q1; cases q1
        refine ⟨_, es, List.getElem?_set_self ck, ?_⟩
        show (cell.fs.set j (.own ds))[j']? = _
        rw [List.getElem?_set_ne fun y => z ⟨rfl, y.symm⟩]
        exact q2
      · exact ⟨c0, es, by rw [List.getElem?_set_ne e0]; exact q1, q2⟩
  · refine .inl ((obad a).mpr ?_)
    rcases ohot a z with z | z
    · exact .inl ((r.s.hb a z).resolve_right (r.noB z))
    · exact .inr z
  · rcases z with z | z
    · rcases (obad a).mp z with z | z
      · obtain ⟨u, e⟩ := r.s.ba a (.inl z)
        exact th e
      · subst z; exact ⟨_, notA hl⟩
    · obtain ⟨u, e⟩ := r.s.ba a (.inr z)
      exact th e
  · obtain ⟨l', vs2, q1, q2, q3, q4⟩ := r.w i es h
    obtain ⟨l0, vs0, p1, p2, p3, p4⟩ := r0.w i es h
    rw [q1] at p1; cases p1
    have kk := kp i l' _ q1 p3
    rw [q3] at kk; cases kk
    exact ⟨l', vs2, q1, q2, notA q3, p4.mono m2⟩
  · rcases (obad b).mp z with z | z
    · exact r.nb i b h z
    · exact nlo i (z ▸ h)
  · rcases ohot b z with z | z
    · exact r.nh i b h z
    · exact nlo i (z ▸ h)
  · have al : A.2 l = none := r0.x.back fl
    refine ⟨fun a u h n => ?_, fun a u h => ?_, by rw [on']; exact r.x.n, fun i hi => by rw [or']; exact r.x.r i hi, fun a z => (obad a).mpr (.inl (r.x.badS a z)), fun a z => ?_, fun a z => ?_, fun k' j' b h => of_ k' j' b (r.x.f k' j' b h)⟩
    · rw [← hH2]
      refine (upd_ne fun z => ?_).trans (r.x.keep a u h n)
      subst z
      rcases r.x.hotN _ hot with z | z
      · exact n z
      · rw [h] at z; cases z
    · obtain ⟨u', q⟩ := r.x.there a u h
      exact th q
    · rcases (obad a).mp z with z | z
      · exact r.x.badN a z
      · rw [z]; exact .inr ⟨al, kfl⟩
    · rcases ohot a z with z | z
      · exact r.x.hotN a z
      · rw [z]; exact .inr al
end
/-- o.f = a new list -/
def sfown (to : Ex) (c j : Nat) (t : Ex) : St := fun G S => match t G S with
  | .ok (.lst ds) S1 => match to G S1 with
    | .ok (.obj k) S2 => if freeSlot S2 c k j = true ∧ Store.flat S2 = true ∧ D.flats ds = true then .nx G (cput S2 k j (.own ds)) else .bad
    | _ => .bad
  | _ => .bad
section
variable {X : Cx} {ct : CT} {e oe : Expr} {t to : Ex} {pos pos' : Pos} {f : Str}
theorem psd_fown {c j : Nat} {cd : CD} (h : PMf X ct e t) (ho : PM X ct oe to) (hc : ct c = some cd) (hf : cd.fl[j]? = some f) (hs : swapsWith e (some (.Attribute oe f pos')) pos.line X.env = pure false) : PSD X ct (.Assign [.Attribute oe f pos'] e pos) (sfown to c j t) := fun A =>
  PS.wk (ps_fld (ho A) (h A) hs) fun D σ H ⟨o, lo, G, S, r, q⟩ => by
    unfold sfown at q
    refine ⟨o, lo, G, S, r, ?_⟩
    cases ev : t G S with
    | ok d S1 =>
      rw [ev] at q
      cases d with
      | lst ds =>
        dsimp only at q
        cases ev0 : to G S1 with
        | ok d0 S0 =>
          rw [ev0] at q
          cases d0 with
          | obj k =>
            dsimp only at q
            split at q
            · rename_i hz
              have fd : DL.D.flats ds = true := hz.2.2
              refine ⟨ds, rfl, fd, fun o1 l vs H1 T hn hl nb rl => ⟨o1, lo, G, S1, T.r, ?_⟩⟩
              rw [ev0]
              intro o0 v0 H0 T0 rv0
              cases rv0 with
              | @obj _ hk =>
                obtain ⟨dx, fs, q1, q2, q3, q4, o', q5, q6⟩ := StRel.fown r T0.r (T.m.trans T0.m) (fun i l u a b => T0.k i l u a (T.k i l u a b)) hc hf hz.1 (T0.m.h l _ nb hl) hn (T0.m.b l _ (.of hl) nb) (rl.mono T0.m) fd hz.2.1
                exact ⟨_, _, dx, fs, rfl, q1, q3, q4, q2, q o' lo σ _ q5 q6⟩
            · exact q.elim
          | _ => exact q.elim
        | exc x S1 => rw [ev0] at q; exact q.elim
        | bad => rw [ev0] at q; exact q.elim
      | _ => exact q.elim
    | exc x S1 => rw [ev] at q; exact q.elim
    | bad => rw [ev] at q; exact q.elim
end
end DL

end
section
set_option maxRecDepth 100000
set_option maxHeartbeats 2000000
/-! The data layer: defs as functions; the law's end. -/
namespace DL
open PySem PySem.Spec PyProof.Rows L2

/-- np parameters, n names -/
def mkFn (np n : Nat) (t : St) : Fn := fun ds S => if ds.length = np then match t (ds.map Slot.val ++ List.replicate (n - np) .no) S with
  | .rt d S' => .ok d S'
  | .nx _ S' => .ok .non S'
  | .exc x _ S' => .exc x S'
  | _ => .bad
  else .bad
theorem mkFn_len {np n : Nat} {t : St} {ds : List D} {S S' : Store} {z : D} (h : mkFn np n t ds S = .ok z S') : ds.length = np := by
  unfold mkFn at h
  split at h
  · assumption
  · cases h
section
variable {P : Program} {w : World} {K : PySem.W.Frag} {mg : Str → Option Value} {base : Heap} {ct : CT}
theorem StRel.begin {o : Om} {S : Store} {H : Hp} {vs : List V} {ds : List D} {N : List Str} {np : Nat} (s : SRel K ct o S H) (r : RepL K o H vs ds) (hn : ds.length = np) (hN : np ≤ N.length) :
    StRel K ct (o, H) o (fun _ => none) (ds.map Slot.val ++ List.replicate (N.length - np) .no) S (start N vs) H := by
  have nob : ∀ a, ¬ Lo.B (fun _ => none) a := fun a ⟨i, h⟩ => by cases h
  have m : Mono K o (o.wi fun _ => none) H H := ⟨fun _ _ h => h, fun _ _ _ h => h, fun _ _ _ h => h, fun _ _ _ n z => z.elim n (nob _), Nat.le_refl _, fun _ _ => rfl, fun _ _ _ h => h⟩
  have e : o.wi (fun _ => none) = o := Om.ext rfl rfl rfl fun a => ⟨fun z => z.elim id fun q => (nob a q).elim, .inl⟩
  refine ⟨e.symm ▸ s, ?_, fun i d h => ?_, fun i es h => ?_, (fun i l h => nomatch h), (fun i j l h => nomatch h), (fun i l h => nomatch h), (fun i l h => nomatch h), (fun i l h => nomatch h), .refl⟩
  · unfold L2.start
    rw [List.length_append, List.length_append, List.length_map, List.length_map, List.length_replicate, List.length_replicate, r.length, hn]
  · by_cases hi : i < ds.length
    · rw [List.getElem?_append_left (by rw [List.length_map]; exact hi), List.getElem?_map] at h
      cases e1 : ds[i]? with
      | none => rw [e1] at h; cases h
      | some d' =>
        rw [e1] at h
        cases h
        obtain ⟨v, q1, q2⟩ := r.get e1
        refine ⟨v, ?_, q2.mono m⟩
        unfold L2.start
        rw [List.getElem?_append_left (by rw [List.length_map, r.length]; exact hi), List.getElem?_map, q1]
        rfl
    · rw [List.getElem?_append_right (by rw [List.length_map]; omega), List.getElem?_replicate] at h
      split at h <;> cases h
  · by_cases hi : i < ds.length
    · rw [List.getElem?_append_left (by rw [List.length_map]; exact hi), List.getElem?_map] at h
      cases e1 : ds[i]? with
      | none => rw [e1] at h; cases h
      | some d' => rw [e1] at h; cases h
    · rw [List.getElem?_append_right (by rw [List.length_map]; omega), List.getElem?_replicate] at h
      split at h <;> cases h
/-- the context of a def's body -/
abbrev XB (P : Program) (w : World) (K : PySem.W.Frag) (mg : Str → Option Value) (base : Heap) (N : List Str) (qual : Str) (scope : Scope) (f : Addr) (cdv : Value) (A : Around) (outer : List PySem.Env) (s : Shared) (H : Hp) (E : XK) : Cx := (cxOf CX0 P w K mg base N qual scope f cdv A outer s H E).nox
theorem FA.mk' {x qual : Str} {params : Arguments} {body : List Stmt} {scope : Scope} {f : Addr} {fd : FuncData} {N ps : List Str} {k np n : Nat} {t : St} (F : FunD K x qual params body scope [] [] f fd) (S : FnScope N ps scope) (hb : Binds K fd ps []) (hp : ps.length = np) (hn : N.length = n)
    (h : ∀ (cdv : Value) (A : Around) (outer : List PySem.Env) (s : Shared) (H : Hp) (E : XK), Room k (XB P w K mg base N qual scope f cdv A outer s H E).A → PSDs (XB P w K mg base N qual scope f cdv A outer s H E) ct body t) : FA P w K mg base ct (k + 1) f (mkFn np n t) := by
  have hpn : np ≤ N.length := by
    have := congrArg List.length S.pre
    rw [List.length_take] at this
    omega
  refine ⟨fd, ps, hb, F.ok S (fun vs H Q E ⟨o, St, ds, sr, rx, q⟩ => ?_) fun cdv A outer s H vs Q E hr ⟨o, St, ds, sr, rx, q⟩ => ⟨_, PSs.nox (h cdv A outer s H E hr (o, H)), ?_⟩, fun ds S z S' e => by rw [mkFn_len e, hp]⟩
  · rw [rx.length, hp]
    cases e : mkFn np n t ds St with
    | ok z S' => exact mkFn_len e
    | exc _ _ => rw [e] at q; exact q.elim
    | bad => rw [e] at q; exact q.elim
  · unfold mkFn at q
    by_cases hl : ds.length = np
    · rw [if_pos hl] at q
      subst hn
      refine ⟨o, _, _, St, StRel.begin sr rx hl hpn, ?_⟩
      have e : o.wi (fun _ => none) = o := Om.ext rfl rfl rfl fun a => ⟨fun z => z.elim id (fun ⟨i, q⟩ => nomatch q), .inl⟩
      rw [e]
      cases et : t (ds.map Slot.val ++ List.replicate (N.length - np) .no) St with
      | rt d S' => rw [et] at q; exact q
      | nx G S' =>
        rw [et] at q
        intro o' lo' σ' H' r m
        exact q o' .non H' r.x r.s0 .non
      | bk _ _ => rw [et] at q; exact q.elim
      | ct _ _ => rw [et] at q; exact q.elim
      | exc _ _ _ => rw [et] at q; exact q.elim
      | bad => rw [et] at q; exact q.elim
    · rw [if_neg hl] at q; exact q.elim
theorem FA.mono {k j : Nat} {f : Addr} {d : Fn} (F : FA P w K mg base ct j f d) (h : j ≤ k) : FA P w K mg base ct k f d := by
  obtain ⟨fd, ps, h1, h2, h3⟩ := F.ex
  exact ⟨fd, ps, h1, h2.mono h, h3⟩
/-- a def that is given up -/
theorem FA.never {x qual : Str} {params : Arguments} {body : List Stmt} {scope : Scope} {f : Addr} {fd : FuncData} {N ps : List Str} {k : Nat} (F : FunD K x qual params body scope [] [] f fd) (S : FnScope N ps scope) (hb : Binds K fd ps []) : FA P w K mg base ct (k + 1) f (fun _ _ => .bad) := by
  refine ⟨fd, ps, hb, F.ok S (fun vs H Q E ⟨o, St, ds, sr, rx, q⟩ => q.elim) (fun cdv A outer s H vs Q E hr ⟨o, St, ds, sr, rx, q⟩ => q.elim), fun ds S z S' e => by cases e⟩
/-- the law's promise -/
theorem law_fn {k : Nat} {f : Addr} {d : Fn} (F : FA P w K mg base ct k f d) (cok : ∀ i cd, ct i = some cd → CDok K cd) (ok : ∀ ns : List Int, ns.length ≤ 63 → ∃ S', d [.scr ns] [] = .ok (.bl true) S') {fd : FuncData} {ps : List Str} (G : FnOk P w K mg base CX0 k f fd ps (spD K ct d)) :
    FnOk P w K mg base CX0 k f fd ps (fun vs H Q E => vs.length = ps.length ∧ (KF K H → spD K ct d vs H Q E)) := FnOk.kf G
theorem law_sp {d : Fn} {ps : List Str} {H : Hp} {a : Addr} {ns : List Int} (cok : ∀ i cd, ct i = some cd → CDok K cd) {S' : Store} (ok : d [.scr ns] [] = .ok (.bl true) S') (hp : ps.length = 1) (h : SqL K H a (ns.map V.int)) :
    ([V.ref a] : List V).length = ps.length ∧ (KF K H → spD K ct d [.ref a] H (fun v _ => v = .bl true) fun _ _ _ => False) := by
  refine ⟨hp.symm, fun kf => ⟨⟨0, fun _ => 0, fun _ _ => none, fun _ => False⟩, [], [.scr ns], ⟨rfl, kf, (fun k c e => by simp at e), (fun k k' h => absurd h (Nat.not_lt_zero _)), (fun k j k' j' l h => nomatch h), (fun k j l h => nomatch h), fun b z => ?_, fun b z => z.elim, cok⟩, .cons (.scr h fun z => z) .nil, ?_⟩⟩
  · rcases z with ⟨k, h, _⟩ | ⟨k, j, h⟩
    · exact absurd h (Nat.not_lt_zero _)
    · cases h
  · rw [ok]
    intro o' v H' x s r
    cases r
    rfl
end
/-! ### more rules -/
structure BX (mg : Str → Option Value) : Prop where
  len_ : mg "len" = none
  range_ : mg "range" = none
  sum_ : mg "sum" = none
  tuple_ : mg "tuple" = none
  int_ : mg "int" = none
  abs_ : mg "abs" = none
  min_ : mg "min" = none
  max_ : mg "max" = none
  isinstance_ : mg "isinstance" = none
  all_ : mg "all" = none
  any_ : mg "any" = none
  str_ : mg "str" = none
  list_ : mg "list" = none
  enumerate_ : mg "enumerate" = none
  zip_ : mg "zip" = none
  sorted_ : mg "sorted" = none
  bool_ : mg "bool" = none
section
variable {X : Cx} {ct : CT} {W : Wish} {pos p : Pos} {x : Str} {a b e : Expr} {es : List Expr} {ta tb te : Ex} {tes : Exs}
theorem pd_gint {i : Int} (hg : Gl X x) (h : ∃ t, X.mg x = some (.int i t)) (hd : (x == ("__debug__" : Str)) = false := by decide) : PD X ct W (.Name x pos) (ec (.int i)) := by
  obtain ⟨t, hm⟩ := h
  exact pd_glob (v := .int i) hg hm ⟨t, rfl⟩ (fun o H => .int i) hd
/-- a constant of the module: K says it -/
structure KD (K : PySem.W.Frag) (mg : Str → Option Value) (x : Str) (d : D) : Prop where
  ex : ∃ (v : V) (u : Value), mg x = some u ∧ RelV v u ∧ ∀ o H, Rep K o H v d
theorem pd_gtup {d : D} (hg : Gl X x) (h : KD X.K X.mg x d) (hd : (x == ("__debug__" : Str)) = false := by decide) : PD X ct W (.Name x pos) (ec d) := by
  obtain ⟨v, u, hm, r, rep⟩ := h.ex
  exact pd_glob hg hm r rep hd
def spar3 (i j l : Nat) (t : Exs) : St := fun G S => match t G S with
  | .ok [d, e, f] S1 => .nx (((G.set i (.val d)).set j (.val e)).set l (.val f)) S1
  | _ => .bad
theorem psd_par3 {i j l : Nat} {y z : Str} {ea eb eg : Expr} {t : Exs} {px py pz pt : Pos} {kt k2 : Nat} {pt2 : Pos} (h : PMs X ct [ea, eb, eg] t) (hc : X.calm = true) (hN : X.N.Nodup) (hi : X.N[i]? = some x) (hj : X.N[j]? = some y) (hl : X.N[l]? = some z) (hij : i ≠ j) (hil : i ≠ l) (hjl : j ≠ l)
    (hx : X.env.scope.names.lookup x = some .local) (hy : X.env.scope.names.lookup y = some .local) (hz : X.env.scope.names.lookup z = some .local)
    (hw : swappedStores [.Tuple [.Name x px, .Name y py, .Name z pz] kt pt] (.Tuple [ea, eb, eg] k2 pt2) X.env = pure (some [x, y, z]))
    (hs : swapsWithSole [.Tuple [.Name x px, .Name y py, .Name z pz] kt pt] (.Tuple [ea, eb, eg] k2 pt2) pos.line X.env = pure false) : PSD X ct (.Assign [.Tuple [.Name x px, .Name y py, .Name z pz] kt pt] (.Tuple [ea, eb, eg] k2 pt2) pos) (spar3 i j l t) := fun A =>
  PS.wk (ps_par3 hc hN hi hj hl hij hil hjl hx hy hz (h A) hw hs) fun D σ H ⟨o, lo, G, S, r, q⟩ => by
    refine ⟨o, lo, G, S, r, ?_⟩
    unfold spar3 at q
    cases ev : t G S with
    | ok d S1 =>
      rw [ev] at q
      intro o1 v H1 T rv
      split at q
      · rename_i d1 d2 d3 S2 he
        cases he
        obtain ⟨v1, v2, v3, rfl, r1, r2, r3⟩ := rv.three
        have m1 : Mono X.K (o1.wi lo) (o1.wi (lo.rm i)) H1 H1 := StRel.rmMono i
        have m2 : Mono X.K (o1.wi (lo.rm i)) (o1.wi ((lo.rm i).rm j)) H1 H1 := StRel.rmMono j
        have m3 : Mono X.K (o1.wi ((lo.rm i).rm j)) (o1.wi (((lo.rm i).rm j).rm l)) H1 H1 := StRel.rmMono l
        have ra := T.r.set (i := i) (r1.mono m1)
        have rb := ra.set (i := j) (r2.mono (m1.trans m2))
        exact ⟨v1, v2, v3, rfl, q o1 _ _ H1 (rb.set (i := l) (r3.mono ((m1.trans m2).trans m3))) (((T.m.trans m1).trans m2).trans m3)⟩
      · exact q.elim
    | exc x S1 => rw [ev] at q; exact q.elim
    | bad => rw [ev] at q; exact q.elim
end
end DL

end
section
set_option maxRecDepth 100000
set_option maxHeartbeats 4000000
/-! The data layer: more walks and built-ins. -/
namespace DL
open PySem PySem.Spec PyProof.Rows L2

/-! ### enumerate of a tuple -/
section
open PySem.AutoSeq1 (wpAny_loadPart')
theorem meets_enumB {v : Value} {ob : Obj} {H : Heap → Prop} (B : Begins v ob H) : Meets (Builtin.«enumerate.__new__» ⟨[.type "enumerate", v], []⟩) (fun _ R s => H s.heap ∧
      R (.ok (.ret (.ref (s.heap.push ob).objs.size))) { s with heap := (s.heap.push ob).push { cls := .type "enumerate", data := .fields #[.none, .bool false, .ref s.heap.objs.size, rawInt 0, .none, .none] } }) :=
  .of_wp fun prog w A R s h => by
    obtain ⟨hp, g, d, tk, os⟩ := s
    obtain ⟨hH, h⟩ := h
    have hsub := sub_enumerate
    have start : ∀ {A' : Around} {E : Value → Shared → Prop} {Q : Value → Shared → Prop}, Q (.ref hp.objs.size) ⟨hp.push ob, g, d, tk, os⟩ → wpAny (model prog w) A' (pyIter v) Q E ⟨hp, g, d, tk, os⟩ := fun q => B.iter prog w _ _ ⟨hp, g, d, tk, os⟩ _ hH q
    wp_walk using start
    refine wpAny_stack_any fun st => wpAny_pure ?_
    split
    · rename_i c _ _ _ _ _
      cases (c == Value.type "enumerate") <;> (wp_walk using start; exact ⟨_, rfl, h⟩)
    · wp_walk using start
      exact ⟨_, rfl, h⟩
theorem call_enumT {prog : Program} {w : World} {A : Around} {E : Value → Shared → Prop} {s : Shared} {l : Addr} {items : Array Value} {Q : Value → Shared → Prop} (hL : s.heap.IsTuple l items)
    (h : ∀ h', IsEnum h' (s.heap.objs.size + 1) s.heap.objs.size 0 .none → h'.IsTupleIter s.heap.objs.size l 0 → (∀ b o, s.heap.get? b = some o → h'.get? b = some o) → Q (.ref (s.heap.objs.size + 1)) { s with heap := h' }) :
    wpAny (model prog w) A (call (.type "enumerate") [.ref l]) Q E s := by
  refine callType_new F.called_enumerate (by decide) (F.typeCall_enumerate_1 _) (F.newCall_enumerate_1 _) (fun obj => F.args_object_init_2 obj _) F.entry_enumerate_new (meets_enumB (begins_tuple l items)) ⟨hL, ?_⟩
  have sz : (s.heap.push { cls := .type "tuple_iterator", data := .fields #[.ref l, .int 0 0] }).objs.size = s.heap.objs.size + 1 := Heap.size_push ..
  show _ ∧ _
  rw [sz]
  have en : IsEnum ((s.heap.push { cls := .type "tuple_iterator", data := .fields #[.ref l, .int 0 0] }).push { cls := .type "enumerate", data := .fields #[.none, .bool false, .ref s.heap.objs.size, rawInt 0, .none, .none] }) (s.heap.objs.size + 1) s.heap.objs.size 0 .none := by
    have q := Heap.get?_push_size (s.heap.push { cls := .type "tuple_iterator", data := .fields #[.ref l, .int 0 0] }) (o := { cls := .type "enumerate", data := .fields #[.none, .bool false, .ref s.heap.objs.size, rawInt 0, .none, .none] }) rfl
    rw [sz] at q
    exact q
  exact ⟨⟨_, en, rfl⟩, h _ en ⟨_, Heap.get?_push_of_some _ (Heap.get?_push_size _ rfl), rfl, rfl⟩ fun b o x => Heap.get?_push_of_some _ (Heap.get?_push_of_some _ x)⟩
end
def IteT (K : PySem.W.Frag) (a : Addr) : It where
  go := fun i H => ∃ (xs : List V) (x : V), SqT K H a xs ∧ xs[i]? = some x
  yld := fun i H v H' => ∃ T x, v = .ref T ∧ H T = none ∧ H' = upd H T (.tup [.int (i : Nat), x]) ∧ ∀ xs, SqT K H a xs → xs[i]? = some x
  stop := fun i H => ∃ xs : List V, SqT K H a xs ∧ xs.length ≤ i
theorem turn_enumT {P : Program} {w : World} {K : PySem.W.Frag} {elts : List Expr} {kk : Nat} {tpos : Pos} (a e it : Addr) (ai : a ≠ it) (ae : a ≠ e) :
    Turn P w K (.Tuple elts kk tpos) (IteT K a) [e, it] e (fun i h => (∃ old, IsEnum h e it ((i : Nat) : Int) old) ∧ h.IsTupleIter it a i ∧ e ≠ it) where
  mem := by simp
  obj := fun i h st b hb => by
    obtain ⟨⟨old, he⟩, ⟨o, ho, hc, hd⟩, _⟩ := st
    rcases (by simpa using hb : b = e ∨ b = it) with rfl | rfl
    · exact ⟨_, he, fun v q => nomatch q⟩
    · exact ⟨o, ho, fun v q => by rw [hd] at q; cases q⟩
  keep := fun i h h' st k => ⟨let ⟨old, he⟩ := st.1; ⟨old, k e (by simp) _ he⟩, st.2.1.at fun o q => k it (by simp) o q, st.2.2⟩
  item := by
    intro X hP hw hK hc i pins s σ H E I hf st hg
    subst hP hw hK
    obtain ⟨⟨old, he⟩, hit, hne⟩ := st
    obtain ⟨xs, x, hq, hx⟩ := hg
    obtain ⟨its, rv, p, hz⟩ := I.tuple hq
    obtain ⟨u, hu, ru⟩ := rv.get hx
    have hel : e < s.heap.objs.size := Heap.lt_size he
    have hil : it < s.heap.objs.size := by obtain ⟨_, q, _⟩ := hit; exact Heap.lt_size q
    have lt : i < its.toArray.size := by
      rw [List.size_toArray]
      exact (List.getElem?_eq_some_iff.mp hu).1
    have nef : e ∉ [it, a] := by
      intro z
      rcases (by simpa using z : e = it ∨ e = a) with z | z
      · exact hne z
      · exact ae z.symm
    refine wpAny_pyNext_enum_itemD (Draws.tuple (A := X.A.in1) (I.ok.hd hc) it a ai its.toArray) he ⟨hit, p⟩ lt hne nef fun y h' tk hy ho hst hT hsz hk => ?_
    have ey : y = u := by
      rw [show its.toArray[i]? = its[i]? by simp] at hy
      rw [hu] at hy
      exact (Option.some.inj hy).symm
    subst ey
    refine ⟨_, rfl, wpAny_letOwnedTupleGo_enum (s := { s with heap := h', toks := tk + 1 }) ho fun h'' he' sb => ?_⟩
    have hT2 : h''.get? s.heap.objs.size = some { cls := .type "tuple", data := .seq #[.int i tk, y] } := (sb.2 _ (Nat.ne_of_gt hel)).trans hT
    have new : ObjOk X.prog X.w (upd H s.heap.objs.size (.tup [.int (i : Nat), x])) h'' s.heap.objs.size (.tup [.int (i : Nat), x]) :=
      ⟨show 2 ≤ sizeLine by decide, [.int i tk, y], .cons ⟨_, rfl⟩ (.cons ru .nil), ⟨_, hT2, rfl, _, rfl⟩⟩
    have I1 : Inv X pins σ (upd H s.heap.objs.size (.tup [.int (i : Nat), x])) { s with heap := h'', toks := tk + 1 } :=
      I.turnedNew (ch := [e, it]) (fun b ob hb q => (sb.2 b (fun z => hb (by simp [z]))).trans (hk b ob (fun z => hb (by simp [z])) (fun z => hb (by simp [z])) q)) hf (Nat.le_refl _) new
    refine ⟨.ref s.heap.objs.size, _, I1, rfl, ⟨_, x, rfl, I.hok.fresh (Nat.le_refl _), rfl, fun ys hy => by rw [I.tuple_inj hy hq]; exact hx⟩, ⟨⟨y, ?_⟩, hst.1.at fun o q => (sb.2 it (Ne.symm hne)).trans q, hne⟩, fun b hb => ?_⟩
    · rw [show ((i + 1 : Nat) : Int) = (i : Int) + 1 by omega]
      exact he'
    · have lb : b < s.heap.objs.size := by
        rcases (by simpa using hb : b = e ∨ b = it) with rfl | rfl
        · exact hel
        · exact hil
      rw [upd_ne (Nat.ne_of_lt lb)]
      exact (hf b hb).1
  done := by
    intro X hP hw hK hc i pins s σ H E I hf st hg
    subst hP hw hK
    obtain ⟨⟨old, he⟩, hit, hne⟩ := st
    obtain ⟨xs, hq, hx⟩ := hg
    obtain ⟨its, rv, p, hz⟩ := I.tuple hq
    obtain ⟨f0, f1, f2, f3, f4, f5⟩ := hf it (by simp)
    have hl := rv.length
    unfold pyNext
    refine wpAny_bind (wpAny_attempt (wpAny_callSpecial?_slot (name := Str.ofString "__next__") (show s.TypeIs (.ref e) "enumerate" from ⟨_, he, rfl⟩) F.slot_enumerate_next
      (wpAny_call_entry F.slot_enumerate_next (show s.TypeIs (.ref e) "enumerate" from ⟨_, he, rfl⟩) F.entry_enumerate_next ?_ (F.args_enumerate_next_1 _))))
    show wpAny _ _ (field (.ref e) 2 >>= _) _ _ _
    refine wpAny_bind (wpAny_field he rfl (x := .ref it) rfl ?_)
    refine wpAny_bind (wpAny_nextOf_tuple_end (I.ok.hd hc) hit (show s.heap.IsTuple a its.toArray from p) (by simp; omega) fun h' x he' hx' => ?_)
    obtain ⟨o, ho, hc'⟩ := hx'
    exact wpAny_bind (wpAny_isInstance (T := "StopIteration") (b := true) ⟨o, ho, hc'⟩ isSubtype_stop (wpAny_pure ⟨rfl, I.turned (t' := s.toks) (fun b o hb q => he' b o hb q) f0 f1 f3 f4 f5⟩))
  self := fun A i s Q E st h => let ⟨⟨_, he⟩, _⟩ := st; wpAny_pyIter_enum he h
def iEnumT (K : PySem.W.Frag) (ta : TA) : TI := fun σ H R => ta σ H fun vs H1 => ∃ a xs, vs = [.ref a] ∧ SqT K H1 a xs ∧ R (IteT K a) H1
theorem pi_enumT {X : Cx} {e : Expr} {ta : TA} {p pos tpos : Pos} {elts : List Expr} {kk : Nat} (hg : Gl X "enumerate") (hm : X.mg "enumerate" = none) (ha : PA X [e] ta) (hs : starEach [e] X.env = [(false, eval e X.env)] := by rfl) :
    PI X (.Tuple elts kk tpos) (.Call (.Name "enumerate" p) [e] [] pos) (iEnumT X.K ta) := by
  refine ⟨fun pins s σ H R I h => ?_⟩
  refine Call_ (ld_blt I hg hm boot_enumerate (PyProof.Rows.callWith_type1 (thn (ha.run pos pins s σ H _ I h) fun us s1 ⟨vs, H1, I1, r1, a, xs, ex, hq, q⟩ => ?_) hs rfl))
  subst ex
  obtain ⟨u, rfl, ru⟩ := r1.one
  cases ru
  obtain ⟨its, rv, p', hz⟩ := I1.tuple hq
  have la : a < s1.heap.objs.size := by obtain ⟨_, z, _⟩ := id p'; exact Heap.lt_size z
  refine call_enumT (show s1.heap.IsTuple a its.toArray from p') fun h' he hit hk => wpAny_pyIter_enum he ?_
  refine ⟨s1.heap.objs.size + 1, [s1.heap.objs.size + 1, s1.heap.objs.size], _, _, H1, rfl, I1.kept (t' := s1.toks) hk, turn_enumT a (s1.heap.objs.size + 1) s1.heap.objs.size (Nat.ne_of_lt la) (Nat.ne_of_lt (Nat.lt_succ_of_lt la)), ⟨⟨.none, he⟩, hit, Nat.succ_ne_self _⟩, fun b hb => ?_, q⟩
  have le : s1.heap.objs.size ≤ b := by
    rcases (by simpa using hb : b = s1.heap.objs.size + 1 ∨ b = s1.heap.objs.size) with rfl | rfl
    · exact Nat.le_succ _
    · exact Nat.le_refl _
  exact I1.fpOk le (I1.hok.fresh le)
end DL

end
section
set_option maxRecDepth 100000
set_option maxHeartbeats 4000000
/-! The data layer: enumerate; a comprehension stored at once; more. -/
namespace DL
open PySem PySem.Spec PyProof.Rows L2
def enumD : Nat → List D → List D
  | _, [] => []
  | n, d :: r => .tup [.int n, d] :: enumD (n + 1) r
theorem enumD_len : ∀ (n : Nat) (ds : List D), (enumD n ds).length = ds.length
  | _, [] => rfl
  | n, d :: r => congrArg Nat.succ (enumD_len (n + 1) r)
theorem enumD_get : ∀ (n : Nat) (ds : List D) (i : Nat), (enumD n ds)[i]? = (ds[i]?).map fun d => .tup [.int ((n + i : Nat) : Int), d]
  | _, [], _ => by simp [enumD]
  | n, d :: r, 0 => by simp [enumD]
  | n, d :: r, i + 1 => by
    show (enumD (n + 1) r)[i]? = _
    rw [enumD_get (n + 1) r i, show n + 1 + i = n + (i + 1) by omega]
    rfl
def ienum (t : Exs) : Ix := fun G S => (t G S).bind fun xs S1 => match xs with
  | [.lst ds] => .ok (enumD 0 ds) S1
  | [.tup ds] => .ok (enumD 0 ds) S1
  | _ => .bad
section
variable {K : PySem.W.Frag} {o : Om} {H : Hp} {a : Addr} {vs : List V} {ds : List D}
theorem wd_enumL (h : H a = some (.lst vs)) (nb : ¬ o.bad a) (r : RepL K o H vs ds) : WD K o H (Ite K a) (enumD 0 ds) := by
  have e := r.length
  refine ⟨fun i o' H' hi m => ?_, fun o' H' m => ⟨vs, .of (m.h _ _ nb h), by rw [enumD_len]; omega⟩, fun i o' H' x H'' hi m y => ?_⟩
  · rw [enumD_len] at hi
    obtain ⟨v, hv⟩ := getElem?_lt (xs := vs) (i := i) (by omega)
    exact ⟨vs, v, .of (m.h _ _ nb h), hv⟩
  · obtain ⟨T, v, h1, h2, h3, h4⟩ := y
    obtain ⟨d, q1, q2⟩ := (r.mono m).getV (h4 vs (.of (m.h _ _ nb h)))
    exact .inr ⟨T, _, [.int i, d], h1, h2, h3, by rw [enumD_get, q1, Nat.zero_add]; rfl, .cons (.int _) (.cons q2 .nil)⟩
theorem wd_enumT (h : SqT K H a vs) (r : RepL K o H vs ds) : WD K o H (IteT K a) (enumD 0 ds) := by
  have e := r.length
  refine ⟨fun i o' H' hi m => ?_, fun o' H' m => ⟨vs, m.t _ _ h, by rw [enumD_len]; omega⟩, fun i o' H' x H'' hi m y => ?_⟩
  · rw [enumD_len] at hi
    obtain ⟨v, hv⟩ := getElem?_lt (xs := vs) (i := i) (by omega)
    exact ⟨vs, v, m.t _ _ h, hv⟩
  · obtain ⟨T, v, h1, h2, h3, h4⟩ := y
    obtain ⟨d, q1, q2⟩ := (r.mono m).getV (h4 vs (m.t _ _ h))
    exact .inr ⟨T, _, [.int i, d], h1, h2, h3, by rw [enumD_get, q1, Nat.zero_add]; rfl, .cons (.int _) (.cons q2 .nil)⟩
end
section
variable {X : Cx} {ct : CT} {W W' : Wish} {pos p tpos : Pos} {e : Expr} {tes : Exs} {elts : List Expr} {kk : Nat}
theorem pdi_enum (hg : Gl X "enumerate") (hm : X.mg "enumerate" = none) (ha : PDs X ct W [e] tes) (hs : starEach [e] X.env = [(false, eval e X.env)] := by rfl) : PDi X ct W (.Tuple elts kk tpos) (.Call (.Name "enumerate" p) [e] [] pos) (ienum tes) := by
  refine PI.wk2 (pi_enum hg hm ha hs) (pi_enumT hg hm ha hs) fun σ H Q ⟨o, G, S, er, q⟩ => ?_
  have q : Res X.K ct W o H ((tes G S).bind fun xs S1 => match xs with
    | [.lst ds] => .ok (enumD 0 ds) S1
    | [.tup ds] => .ok (enumD 0 ds) S1
    | _ => .bad) (fun ds S' => ∀ o' H' J, Ext X.K o o' H H' → SRel X.K ct o' S' H' → WD X.K o' H' J ds → Q J H') := q
  cases ev : tes G S with
  | ok d S1 =>
    rw [ev] at q
    have q : Res X.K ct W o H (match d with
      | [.lst ds] => .ok (enumD 0 ds) S1
      | [.tup ds] => .ok (enumD 0 ds) S1
      | _ => .bad) (fun ds S' => ∀ o' H' J, Ext X.K o o' H H' → SRel X.K ct o' S' H' → WD X.K o' H' J ds → Q J H') := q
    split at q
    · refine .inl ⟨o, G, S, er, ?_⟩
      rw [ev]
      intro o1 v H1 x1 s1 r1
      obtain ⟨w, rfl, r⟩ := r1.one
      cases r with
      | lst hl nb r => exact ⟨_, _, rfl, .of hl, q o1 H1 _ x1 s1 (wd_enumL hl nb r)⟩
    · refine .inr ⟨o, G, S, er, ?_⟩
      rw [ev]
      intro o1 v H1 x1 s1 r1
      obtain ⟨w, rfl, r⟩ := r1.one
      cases r with
      | tup ht r => exact ⟨_, _, rfl, ht, q o1 H1 _ x1 s1 (wd_enumT ht r)⟩
    · exact q.elim
  | exc y S1 =>
    rw [ev] at q
    exact .inl ⟨o, G, S, er, by rw [ev]; exact q⟩
  | bad =>
    rw [ev] at q
    exact q.elim
end

/-! ### name = [..] on one line -/
theorem PS.kf {X : Cx} {st : Stmt} {t : TS} (h : PS X st t) : PS X st (fun D σ H => t { D with nx := fun σ H => KF X.K H → D.nx σ H } σ H) := ⟨fun pins s σ H D I w =>
  wpAny_mono (h.run pins s σ H _ I w) (fun f s' q => by
    cases f with
    | next => obtain ⟨σ', H', I', q⟩ := q; exact ⟨σ', H', I', q (kf_of I')⟩
    | brk => exact q
    | cont => exact q
    | ret u => exact q) fun _ _ z => z⟩
section
variable {X : Cx} {ct : CT} {W W' : Wish} {elt tg iter : Expr} {ifs : List Expr} {scope : Scope} {own : List (Str × Nat)} {pos spos py : Pos} {it : Ix} {g : Tg} {tt : Tx} {te : Ex} {y : Str} {vs : List Nat}
theorem lc_tD {K : PySem.W.Frag} {σ : L2.St} {H : Hp} {Q : VK} (sub : ∀ i ∈ g.names, i ∈ vs) (h : tD K ct WF (elc it g tt te vs) σ H Q) :
    tLc (tI K ct WF it) (fun v σ H Q => KF K H → gE K ct g v σ H Q) (tDb K ct W' tt) (tD K ct W' te) vs σ H (fun v H' => KF K H' → Q v H') := by
  obtain ⟨o, G, S, er, q⟩ := h
  refine ⟨o, G, S, er, Res.then q fun ds S1 h' o1 H1 J x1 s1 w => ?_⟩
  cases ev : runLc g tt te (wipeG G vs) ds S1 with
  | ok ys S2 =>
    rw [ev] at h'
    dsimp only at h'
    split at h'
    · rename_i hz
      exact lc_run (er.ext x1 s1) w ev hz sub fun o' L H' xs x s _ hl nb rl => h' o' _ H' (x1.trans x) s (.lst hl nb rl)
    · exact h'.elim
  | exc x S1 => rw [ev] at h'; exact h'.elim
  | bad => rw [ev] at h'; exact h'.elim
theorem lc_tDf {K : PySem.W.Frag} {σ : L2.St} {H : Hp} {Q : VK} (sub : ∀ i ∈ g.names, i ∈ vs) (h : tDf K ct WF (elc it g tt te vs) σ H Q) :
    tLc (tI K ct WF it) (fun v σ H Q => KF K H → gE K ct g v σ H Q) (tDb K ct W' tt) (tD K ct W' te) vs σ H (fun v H' => KF K H' → Q v H') := by
  obtain ⟨o, G, S, er, q⟩ := h
  refine ⟨o, G, S, er, ?_⟩
  have q : ResS ((it G S).bind fun ds S1 => match runLc g tt te (wipeG G vs) ds S1 with
    | .ok ys S2 => if ds.length ≤ 16777216 then .ok (D.lst ys) S2 else .bad
    | _ => .bad) _ := q
  cases ev0 : it G S with
  | ok ds S1 =>
    rw [ev0] at q
    intro o1 H1 J x1 s1 w
    have q : ResS (match runLc g tt te (wipeG G vs) ds S1 with
      | .ok ys S2 => if ds.length ≤ 16777216 then .ok (D.lst ys) S2 else .bad
      | _ => .bad) _ := q
    cases ev : runLc g tt te (wipeG G vs) ds S1 with
    | ok ys S2 =>
      rw [ev] at q
      dsimp only at q
      split at q
      · rename_i hz
        obtain ⟨ds', ed, q⟩ := q
        cases ed
        exact lc_run (er.ext x1 s1) w ev hz sub fun o' L H' xs x s hL hl nb rl => q o' L xs H' (x1.trans x) s (x1.back hL) hl nb rl
      · exact q.elim
    | exc x S1 => rw [ev] at q; exact q.elim
    | bad => rw [ev] at q; exact q.elim
  | exc x S1 => rw [ev0] at q; exact q.elim
  | bad => rw [ev0] at q; exact q.elim
theorem tM_strict {K : PySem.W.Frag} {A : Om × Hp} {t : Ex} {σ : L2.St} {H : Hp} {Q : VK} (h : tM K ct A (strict t) σ H Q) : tD K ct WF t σ H Q := by
  obtain ⟨o, lo, G, S, r, q⟩ := h
  refine ⟨o.wi lo, hide G, S, r.hid, resS q fun d S1 k o' v H1 x1 s1 r1 => ?_⟩
  obtain ⟨o2, e, r2⟩ := r.afterS x1 s1
  subst e
  exact k o2 v H1 ⟨r2, x1.mono r.s, r.keptS x1⟩ r1
theorem tM_relax {K : PySem.W.Frag} {A : Om × Hp} {t : Ex} {σ : L2.St} {H : Hp} {Q : VK} (h : tM K ct A (relax t) σ H Q) : tD K ct WF t σ H Q := by
  obtain ⟨o, lo, G, S, r, q⟩ := h
  refine ⟨o, G, S, r.full, ?_⟩
  unfold relax at q
  cases ev : t G S with
  | ok d S1 =>
    rw [ev] at q
    dsimp only at q
    split at q
    · rename_i hz
      intro o' v H1 x1 s1 r1
      exact q o' v H1 ⟨r.afterF x1 s1 hz.2, r.monoF x1, r.keptF x1⟩ (r1.flat hz.1)
    · exact q.elim
  | exc x S1 => rw [ev] at q; exact q.elim
  | bad => rw [ev] at q; exact q.elim
theorem tMf_strict {K : PySem.W.Frag} {A : Om × Hp} {t : Ex} {σ : L2.St} {H : Hp} {Q : VK} (h : tMf K ct A (fstr t) σ H Q) : tDf K ct WF t σ H Q := by
  obtain ⟨o, lo, G, S, r, q⟩ := h
  refine ⟨o.wi lo, hide G, S, r.hid, ?_⟩
  unfold fstr at q
  cases ev : t (hide G) S with
  | ok d S1 =>
    rw [ev] at q
    cases d with
    | lst ds =>
      dsimp only at q
      split at q
      · obtain ⟨ds', ed, _, q⟩ := q
        cases ed
        refine ⟨ds, rfl, fun o' l vs H1 x1 s1 hn hl nb rl => ?_⟩
        obtain ⟨o2, e, r2⟩ := r.afterS x1 s1
        subst e
        exact q o2 l vs H1 ⟨r2, x1.mono r.s, r.keptS x1⟩ hn hl nb rl
      · exact q.elim
    | _ => exact q.elim
  | exc x S1 => rw [ev] at q; exact q.elim
  | bad => rw [ev] at q; exact q.elim
theorem tMf_relax {K : PySem.W.Frag} {A : Om × Hp} {t : Ex} {σ : L2.St} {H : Hp} {Q : VK} (h : tMf K ct A (frel t) σ H Q) : tDf K ct WF t σ H Q := by
  obtain ⟨o, lo, G, S, r, q⟩ := h
  refine ⟨o, G, S, r.full, ?_⟩
  unfold frel at q
  cases ev : t G S with
  | ok d S1 =>
    rw [ev] at q
    cases d with
    | lst ds =>
      dsimp only at q
      split at q
      · rename_i hf
        obtain ⟨ds', ed, _, q⟩ := q
        cases ed
        refine ⟨ds, rfl, fun o' l vs H1 x1 s1 hn hl nb rl => ?_⟩
        refine q o' l vs H1 ⟨r.afterF x1 s1 hf.2, r.monoF x1, r.keptF x1⟩ hn hl (fun z => z.elim nb fun ⟨i, hi⟩ => ?_) (rl.flats hf.1)
        obtain ⟨ds2, e1⟩ := r.wo i l hi
        obtain ⟨l', vs2, q1, q2, q3, q4⟩ := r.w i ds2 e1
        rw [hi] at q1; cases q1
        rw [hn] at q3; cases q3
      · exact q.elim
    | _ => exact q.elim
  | exc x S1 => rw [ev] at q; exact q.elim
  | bad => rw [ev] at q; exact q.elim
theorem psd_setLc {i : Nat} {t : Ex} (mode : ∀ {A : Om × Hp} {σ : L2.St} {H : Hp} {Q : VK}, tM X.K ct A t σ H Q → tD X.K ct WF (elc it g tt te vs) σ H Q) (hi : PDi X ct WF tg iter it) (hc : X.calm = true) (hN : X.N.Nodup) (ok : BlkOk X.N X.env.scope scope own)
    (hg : ∀ (s : Shared) (H : Hp) (C : Addr) (cl : List (Str × Addr)) (fp : List Addr), PGE (X.blk s H scope (compEnvC scope cl C X.env) fp) ct tg g) (ht : ∀ (s : Shared) (H : Hp) (C : Addr) (cl : List (Str × Addr)) (fp : List Addr), PTs (X.blk s H scope (compEnvC scope cl C X.env) fp) ifs (tDb X.K ct W' tt))
    (he : ∀ (s : Shared) (H : Hp) (C : Addr) (cl : List (Str × Addr)) (fp : List Addr), PD (X.blk s H scope (compEnvC scope cl C X.env) fp) ct W' elt te) (hv : vs = own.map (·.2)) (sub : ∀ i ∈ g.names, i ∈ vs) (hy : X.N[i]? = some y) (hyl : X.env.scope.names.lookup y = some .local)
    (hsw : swapsWith (.ListComp elt [⟨tg, iter, ifs, 0⟩] scope pos) (some (.Name y py)) spos.line X.env = pure true) (hs : ∀ x, foldedSetIterable iter X.env x = pure x := by intro _; rfl) : PSD X ct (.Assign [.Name y py] (.ListComp elt [⟨tg, iter, ifs, 0⟩] scope pos) spos) (sset i t) := fun A => by
  subst hv
  refine PS.wk (PS.kf (ps_setLc (g := fun v σ H Q => KF X.K H → gE X.K ct g v σ H Q) (tt := tDb X.K ct W' tt) (te := tD X.K ct W' te) hc hN hy hyl hsw hi ok (fun s H C cl fp => PG.kf (hg s H C cl fp)) ht he hs)) fun D σ H ⟨o, lo, G, S, r, q⟩ => ?_
  refine lc_tD sub (mode (A := A) ⟨o, lo, G, S, r, ?_⟩)
  unfold sset at q
  cases ev : t G S with
  | ok d S1 =>
    rw [ev] at q
    intro o1 v H1 T r1
    exact q o1 (lo.rm i) _ H1 (T.r.set (r1.mono (StRel.rmMono i))) (T.m.trans (StRel.rmMono i))
  | exc x S1 => rw [ev] at q; exact q.elim
  | bad => rw [ev] at q; exact q.elim
theorem psd_ownLc {i : Nat} {t : Ex} (mode : ∀ {A : Om × Hp} {σ : L2.St} {H : Hp} {Q : VK}, tMf X.K ct A t σ H Q → tDf X.K ct WF (elc it g tt te vs) σ H Q) (hi : PDi X ct WF tg iter it) (hc : X.calm = true) (hN : X.N.Nodup) (ok : BlkOk X.N X.env.scope scope own)
    (hg : ∀ (s : Shared) (H : Hp) (C : Addr) (cl : List (Str × Addr)) (fp : List Addr), PGE (X.blk s H scope (compEnvC scope cl C X.env) fp) ct tg g) (ht : ∀ (s : Shared) (H : Hp) (C : Addr) (cl : List (Str × Addr)) (fp : List Addr), PTs (X.blk s H scope (compEnvC scope cl C X.env) fp) ifs (tDb X.K ct W' tt))
    (he : ∀ (s : Shared) (H : Hp) (C : Addr) (cl : List (Str × Addr)) (fp : List Addr), PD (X.blk s H scope (compEnvC scope cl C X.env) fp) ct W' elt te) (hv : vs = own.map (·.2)) (sub : ∀ i ∈ g.names, i ∈ vs) (hy : X.N[i]? = some y) (hyl : X.env.scope.names.lookup y = some .local)
    (hsw : swapsWith (.ListComp elt [⟨tg, iter, ifs, 0⟩] scope pos) (some (.Name y py)) spos.line X.env = pure true) (hs : ∀ x, foldedSetIterable iter X.env x = pure x := by intro _; rfl) : PSD X ct (.Assign [.Name y py] (.ListComp elt [⟨tg, iter, ifs, 0⟩] scope pos) spos) (sown i t) := fun A => by
  subst hv
  refine PS.wk (PS.kf (ps_setLc (g := fun v σ H Q => KF X.K H → gE X.K ct g v σ H Q) (tt := tDb X.K ct W' tt) (te := tD X.K ct W' te) hc hN hy hyl hsw hi ok (fun s H C cl fp => PG.kf (hg s H C cl fp)) ht he hs)) fun D σ H ⟨o, lo, G, S, r, q⟩ => ?_
  refine lc_tDf sub (mode (A := A) ⟨o, lo, G, S, r, ?_⟩)
  unfold sown at q
  cases ev : t G S with
  | ok d S1 =>
    rw [ev] at q
    cases d with
    | lst ds =>
      dsimp only at q
      split at q
      · rename_i hz
        refine ⟨ds, rfl, hz.2.1, fun o1 l vs H1 T hn hl hb rl => ?_⟩
        obtain ⟨r2, m2⟩ := StRel.own r T.r T.m T.k hz.1 hl hn hb rl hz.2.1 hz.2.2
        exact q o1 (lo.ad i l) _ H1 r2 m2
      · exact q.elim
    | _ => exact q.elim
  | exc x S1 => rw [ev] at q; exact q.elim
  | bad => rw [ev] at q; exact q.elim
end
end DL

end
section
set_option maxRecDepth 100000
set_option maxHeartbeats 4000000
/-! The data layer: a tuple backwards. -/
namespace DL
open PySem PySem.Spec PyProof.Rows L2
theorem pick_back (xs : Array Value) : ((List.range xs.size).filterMap fun (m : Nat) => xs[(((xs.size : Int) - 1) + (m : Int) * (-1)).toNat]?).toArray = xs.toList.reverse.toArray := by
  have e : ∀ m ∈ List.range xs.size, xs[(((xs.size : Int) - 1) + (m : Int) * (-1)).toNat]? = some (xs.toList.reverse.getD m .none) := fun m hm => by
    have lt : m < xs.size := List.mem_range.mp hm
    have e1 : (((xs.size : Int) - 1) + (m : Int) * (-1)).toNat = xs.size - 1 - m := by omega
    rw [e1, List.getD_eq_getElem?_getD, List.getElem?_reverse (by simpa using lt), Array.length_toList, Array.getElem?_toList, Array.getElem?_eq_getElem (by omega)]
    rfl
  have gen : ∀ (l : List Nat) (f : Nat → Option Value) (g : Nat → Value), (∀ m ∈ l, f m = some (g m)) → l.filterMap f = l.map g := by
    intro l f g
    induction l with
    | nil => intro _; rfl
    | cons a r ih =>
      intro h
      rw [List.filterMap_cons_some (h a List.mem_cons_self), ih fun m hm => h m (List.mem_cons_of_mem _ hm)]
      rfl
  rw [gen _ _ _ e]
  congr 1
  refine List.ext_getElem (by simp) fun i h1 h2 => ?_
  simp only [List.getElem_map, List.getElem_range]
  rw [List.getD_eq_getElem?_getD, List.getElem?_eq_getElem h2]
  rfl
section
variable {prog : Program} {w : World} {A : Around} {E : Value → Shared → Prop} {s : Shared}
theorem sliceBack {sl : Addr} {vl vu vs : Value} {n : Nat} {Q : Int × Int × Nat → Shared → Prop} (hs : s.heap.IsSliceOf sl vl vu vs) (pl : IsPart vl none) (pu : IsPart vu none) (ps : IsPart vs (some (-1)))
    (h : Q ((n : Int) - 1, -1, n) s) : wpAny (model prog w) A (Builtin.Slice.sliceApplied (.ref sl) (pure (n : Int))) Q E s := by
  obtain ⟨os, hos, hcs, hds⟩ := id hs
  unfold Builtin.Slice.sliceApplied Builtin.Slice.sliceFields
  refine wpAny_bind (wpAny_bind (wpAny_field hos hds (x := vl) rfl (wpAny_bind (wpAny_field hos hds (x := vu) rfl (wpAny_bind (wpAny_field hos hds (x := vs) rfl (wpAny_pure ?_)))))))
  refine wpAny_bind (HT.slicePart_ ps ?_)
  show wpAny _ _ (if ((-1 : Int) == 0) = true then _ else _) _ _ s
  rw [if_neg (by decide)]
  refine wpAny_bind (HT.slicePart_ pl (wpAny_bind (HT.slicePart_ pu (wpAny_bind (wpAny_pure ?_)))))
  have e1 : Builtin.Slice.sliceAdjust none none (-1) (n : Int) = ((n : Int) - 1, -1) := rfl
  have e2 : Builtin.Slice.slicePlaces ((n : Int) - 1) (-1) (-1) = n := by
    unfold Builtin.Slice.slicePlaces
    simp only [show ¬ ((-1 : Int) > 0) by decide, if_false]
    have e3 : ((n : Int) - 1 - -1 - 1) / (- -1) = (n : Int) - 1 := by
      rw [show ((- -1 : Int)) = 1 by decide, Int.ediv_one]
      omega
    rw [e3]
    split <;> omega
  show wpAny _ _ (match Builtin.Slice.sliceAdjust none none (-1) (n : Int) with | (lo, hi) => pure (lo, (-1 : Int), Builtin.Slice.slicePlaces lo hi (-1))) _ _ s
  rw [e1]
  show wpAny _ _ (pure ((n : Int) - 1, (-1 : Int), Builtin.Slice.slicePlaces ((n : Int) - 1) (-1) (-1))) _ _ s
  rw [e2]
  exact wpAny_pure h
theorem getItem_back {t sl : Addr} {items : Array Value} {vl vu vs : Value} {Q : Value → Shared → Prop} (ht : IsTup s.heap t items) (hs : s.heap.IsSliceOf sl vl vu vs) (pl : IsPart vl none) (pu : IsPart vu none) (ps : IsPart vs (some (-1)))
    (h : Q (.ref s.heap.objs.size) { s with heap := s.heap.push { cls := .type "tuple", data := .seq items.toList.reverse.toArray } }) (hsz : items.size ≤ sizeLine) : wpAny (model prog w) A (getItem (.ref t) (.ref sl)) Q E s := by
  have fits : sizeOk (.seq items.toList.reverse.toArray) := by
    show items.toList.reverse.toArray.size ≤ sizeLine
    simpa using hsz
  obtain ⟨os, hos, hcs, hds⟩ := id hs
  have hTs : s.TypeIs (.ref sl) "slice" := ⟨os, hos, hcs⟩
  unfold getItem
  try with_reducible refine wpAny_holding ?_
  first | refine wpAny_bind (wpAny_pure ?_) | skip
  refine wpAny_bind (wpAny_sequenceKey ht.typeIs (by decide) ?_)
  refine wpAny_bind (wpAny_callSpecial?_slot (name := Str.ofString "__getitem__") ht.typeIs PyProof.Rows.slot_tuple_getitem (wpAny_call_entry PyProof.Rows.slot_tuple_getitem ht.typeIs entry_tuple_getitem ?_ (args_tuple_getitem _ _)))
  show wpAny _ _ (Builtin.Tuple.tupleItemsOf (.ref t) >>= _) _ _ s
  refine wpAny_bind (tupleItemsOf_ ht ?_)
  refine wpAny_bind (wpAny_typeOf hTs ?_)
  rw [if_pos (by decide)]
  refine wpAny_bind (sliceBack hs pl pu ps ?_)
  have hno : ¬ ((((items.size : Int) - 1) == 0 && (-1 : Int) == 1 && items.size == items.size) = true) := by simp
  show wpAny _ _ (if (((items.size : Int) - 1) == 0 && (-1 : Int) == 1 && items.size == items.size) = true then _ else _) _ _ s
  rw [if_neg hno, pick_back]
  first
    | exact wpAny_bind (m := Builtin.Tuple.tupleExact _) (wpAny_newObj_type (wpAny_pure ⟨_, rfl, wpAny_pure h⟩) fits)
    | exact wpAny_bind (m := Builtin.Tuple.tupleExact _) (wpAny_newObj_type (wpAny_bind (wpAny_pure (wpAny_pure ⟨_, rfl, wpAny_pure h⟩))) fits)
    | exact wpAny_bind (wpAny_bind (m := Builtin.Tuple.tupleExact _) (wpAny_newObj_type (wpAny_pure (wpAny_pure ⟨_, rfl, wpAny_pure h⟩)) fits))
    | exact wpAny_bind (wpAny_bind (m := Builtin.Tuple.tupleExact _) (wpAny_newObj_type (wpAny_pure ⟨_, rfl, wpAny_pure h⟩) fits))
end
/-- a[::-1] -/
def erev (a : Ex) : Ex := fun G S => (a G S).bind fun x S1 => match x with
  | .tup xs => .ok (.tup xs.reverse) S1
  | .lst xs => .ok (.lst xs.reverse) S1
  | _ => .bad
def tRevT (K : PySem.W.Frag) (te : TE) : TE := fun σ H Q => te σ H fun x H1 => ∃ a xs, x = .ref a ∧ SqT K H1 a xs ∧ ∀ p, H1 p = none → Q (.ref p) (upd H1 p (.tup xs.reverse))
theorem pe_revT {X : Cx} {e : Expr} {te : TE} {k : Nat} {p1 p2 p3 pos : Pos} (he : PE X e te) : PE X (.Subscript e (.Slice none none (some (.UnaryOp .USub (.Constant (.int 1) k p1) p2)) p3) pos) (tRevT X.K te) := by
  refine ⟨fun pins s σ H Q I h => Subscript_ (thn (he.run pins s σ H _ I h) fun v s1 ⟨x, H1, I1, r1, a, xs, ex, hx, q⟩ => ?_)⟩
  subst ex
  cases r1
  have part : PO X (some (.UnaryOp .USub (.Constant (.int 1) k p1) p2)) (tPart (tUn (rU fun i => .int (-i)) (tC (.int 1)))) := po_some (pe_un un_neg pe_int)
  refine wpAny_Slice (thn (po_none.run pins s1 σ H1 (fun o H2 => o = none ∧ H2 = H1) I1 ⟨rfl, rfl⟩) fun vl s2 ⟨l, H2, I2, pl, el, e2⟩ => ?_)
  subst el e2
  refine thn (po_none.run pins s2 σ H2 (fun o H3 => o = none ∧ H3 = H2) I2 ⟨rfl, rfl⟩) fun vu s3 ⟨u, H3, I3, pu, eu, e3⟩ => ?_
  subst eu e3
  refine thn (part.run pins s3 σ H3 (fun o H4 => o = some (-1) ∧ H4 = H3) I3 ⟨1, rfl, -1, rfl, rfl, rfl⟩) fun vs s4 ⟨o, H4, I4, ps, eo, e4⟩ => ?_
  subst eo e4
  have I5 : Inv X pins σ H4 { s4 with heap := s4.heap.push { cls := .type "slice", data := .fields #[vl, vu, vs] } } := I4.kept (t' := s4.toks) fun b ob q => Heap.get?_push_of_some _ q
  obtain ⟨its, r, ht, hz⟩ := I5.tuple hx
  have hlen := r.length
  show wpAny (model X.prog X.w) X.A (subscriptTail e (.Slice none none (some (.UnaryOp .USub (.Constant (.int 1) k p1) p2)) p3) (.ref a) (.ref s4.heap.objs.size)) (EP X pins σ Q) X.xe { s4 with heap := s4.heap.push { cls := .type "slice", data := .fields #[vl, vu, vs] } }
  refine tail_any (ops := [.ref a, .ref s4.heap.objs.size]) ht.typeIs (PyProof.Rows.slot_tuple_getitem.lookup) ?_ (by with_unfolding_all rfl)
  refine getItem_back ht (Heap.IsSliceOf.new _ vl vu vs) pl pu ps ?_ (by rw [List.size_toArray]; omega)
  refine ⟨.ref _, _, I5.laid (t' := s4.toks) (o := .tup xs.reverse) (fun b ob q => Heap.get?_push_of_some _ q) (Nat.le_refl _) ?_, rfl, q _ (I5.hok.fresh (Nat.le_refl _))⟩
  refine ⟨by rw [List.length_reverse]; exact hz, its.reverse, r.reverse, ?_⟩
  exact ⟨_, Heap.get?_push_size _ rfl, rfl, _, rfl⟩
theorem pd_rev {X : Cx} {ct : CT} {W : Wish} {e : Expr} {te : Ex} {k : Nat} {p1 p2 p3 pos : Pos} (he : PD X ct W e te) : PD X ct W (.Subscript e (.Slice none none (some (.UnaryOp .USub (.Constant (.int 1) k p1) p2)) p3) pos) (erev te) := by
  have h1 := PE.kf (pe_revT (k := k) (p1 := p1) (p2 := p2) (p3 := p3) (pos := pos) he)
  have h2 := PE.kf (pe_revL (k := k) (p1 := p1) (p2 := p2) (p3 := p3) (pos := pos) he)
  refine ⟨fun pins s σ H Q I ⟨o, G, S, er, q⟩ => ?_⟩
  have q : Res X.K ct W o H ((te G S).bind fun x S1 => match x with
    | .tup xs => .ok (.tup xs.reverse) S1
    | .lst xs => .ok (.lst xs.reverse) S1
    | _ => .bad) (After X.K ct o H Q) := q
  cases ev : te G S with
  | ok d S1 =>
    rw [ev] at q
    cases d with
    | tup xs =>
      refine h1.run pins s σ H Q I ⟨o, G, S, er, ?_⟩
      rw [ev]
      intro o1 v H1 x1 s1 r1
      cases r1 with
      | tup ht r => exact ⟨_, _, rfl, ht, fun p hp kf => new_tup s1 hp kf r.reverse (After.later x1 q)⟩
    | lst xs =>
      refine h2.run pins s σ H Q I ⟨o, G, S, er, ?_⟩
      rw [ev]
      intro o1 v H1 x1 s1 r1
      cases r1 with
      | lst hl nb r => exact ⟨_, _, rfl, .of hl, fun p hp kf => new_lst s1 hp kf r.reverse (After.later x1 q)⟩
    | _ => exact q.elim
  | exc y S1 =>
    rw [ev] at q
    exact h1.run pins s σ H Q I ⟨o, G, S, er, by rw [ev]; exact q⟩
  | bad => rw [ev] at q; exact q.elim
end DL

end
section
set_option maxRecDepth 100000
set_option maxHeartbeats 1000000
/-! The data layer: how the functions of data are reckoned with. -/
namespace DL
section
variable {G : Env} {S : Store} {i j k : Nat} {a b c te to ti t : Ex} {xa xb xc : Tx} {ts : Exs} {u v : St} {f g : D → D → Option D} {d : D}
@[simp] theorem ev_evar : evar i G S = match look G i with | some d => .ok d S | none => .bad := (rfl)
@[simp] theorem ev_ec : ec d G S = .ok d S := (rfl)
@[simp] theorem ev_ebin : ebin f a b G S = (a G S).bind fun x S1 => (b G S1).bind fun y S2 => match f x y with | some z => .ok z S2 | none => .bad := (rfl)
@[simp] theorem ev_eun {f : D → Option D} : eun f a G S = (a G S).bind fun x S1 => match f x with | some z => .ok z S1 | none => .bad := (rfl)
@[simp] theorem ev_tst : tst a G S = (a G S).bind fun x S1 => match x with | .bl b => .ok b S1 | _ => .bad := (rfl)
@[simp] theorem ev_tru : tru a G S = (a G S).bind fun x S1 => match x.truth with | some b => .ok b S1 | none => .bad := (rfl)
@[simp] theorem ev_band : band xa xb G S = (xa G S).bind fun x S1 => if x = true then xb G S1 else .ok false S1 := (rfl)
@[simp] theorem ev_bor : bor xa xb G S = (xa G S).bind fun x S1 => if x = true then .ok true S1 else xb G S1 := (rfl)
@[simp] theorem ev_bnot : bnot xa G S = (xa G S).bind fun x S1 => .ok (!x) S1 := (rfl)
@[simp] theorem ev_eite : eite xc a b G S = (xc G S).bind fun x S1 => if x = true then a G S1 else b G S1 := (rfl)
@[simp] theorem ev_eand : eand a b G S = (a G S).bind fun x S1 => match x with | .bl true => b G S1 | .bl false => .ok (.bl false) S1 | _ => .bad := (rfl)
@[simp] theorem ev_eor : eor a b G S = (a G S).bind fun x S1 => match x with | .bl true => .ok (.bl true) S1 | .bl false => b G S1 | _ => .bad := (rfl)
@[simp] theorem ev_enot : enot a G S = (a G S).bind fun x S1 => match x.truth with | some b => .ok (.bl (!b)) S1 | none => .bad := (rfl)
@[simp] theorem ev_enil : enil G S = .ok [] S := (rfl)
@[simp] theorem ev_econs : econs a ts G S = (a G S).bind fun x S1 => (ts G S1).bind fun xs S2 => .ok (x :: xs) S2 := (rfl)
@[simp] theorem ev_etup : etup ts G S = (ts G S).bind fun xs S1 => if xs.length ≤ 16777216 then .ok (.tup xs) S1 else .bad := (rfl)
@[simp] theorem ev_elst : elst ts G S = (ts G S).bind fun xs S1 => if xs.length ≤ 16777216 then .ok (.lst xs) S1 else .bad := (rfl)
@[simp] theorem ev_eix : eix a b G S = (a G S).bind fun x S1 => (b G S1).bind fun y S2 => match opIx (deref S2 x) y with | some z => .ok z S2 | none => .bad := (rfl)
@[simp] theorem ev_elen : elen a G S = (a G S).bind fun x S1 => match fLen [deref S1 x] with | some z => .ok z S1 | none => .bad := (rfl)
@[simp] theorem ev_ecal {f : List D → Option D} : ecal f ts G S = (ts G S).bind fun xs S1 => match f xs with | some z => .ok z S1 | none => .bad := (rfl)
@[simp] theorem ev_ecall {h : Fn} : ecall h ts G S = (ts G S).bind fun xs S1 => match h xs S1 with | .ok z S2 => .ok z S2 | _ => .bad := (rfl)
@[simp] theorem ev_ebits : ebits a G S = (a G S).bind fun x S1 => match x with | .int i => .ok (.int (PySem.Builtin.Int.intBits i : Nat)) S1 | _ => .bad := (rfl)
@[simp] theorem ev_onone : onone G S = .ok none S := (rfl)
@[simp] theorem ev_osome : osome a G S = (a G S).bind fun x S1 => match x with | .int i => .ok (some i) S1 | _ => .bad := (rfl)
@[simp] theorem ev_ecut {l h : Ox} : ecut a l h G S = (a G S).bind fun x S1 => (l G S1).bind fun l S2 => (h G S2).bind fun h S3 => match x.cut l h with | some z => .ok z S3 | none => .bad := (rfl)
@[simp] theorem ev_eisi {T : BT} : eisi a T G S = (a G S).bind fun x S1 => match x.isT T with | some b => .ok (.bl b) S1 | none => .bad := (rfl)
@[simp] theorem ev_efld : efld a k j G S = (a G S).bind fun x S1 => match fldOf S1 k j x with | some d => .ok d S1 | none => .bad := (rfl)
@[simp] theorem ev_emeth {h : Fn} : emeth a k h ts G S = (a G S).bind fun x S1 => if clsOf S1 x = some k then (ts G S1).bind fun xs S2 => match h (x :: xs) S2 with | .ok z S3 => .ok z S3 | _ => .bad else .bad := (rfl)
@[simp] theorem ev_enew {h : Fn} : enew k j h ts G S = (ts G S).bind fun xs S1 => match h (.obj S1.length :: xs) (S1 ++ [⟨k, List.replicate j .no⟩]) with | .ok .non S2 => .ok (.obj S1.length) S2 | _ => .bad := (rfl)
@[simp] theorem ev_erev : erev a G S = (a G S).bind fun x S1 => match x with | .tup xs => .ok (.tup xs.reverse) S1 | .lst xs => .ok (.lst xs.reverse) S1 | _ => .bad := (rfl)
@[simp] theorem ev_iseq : iseq a G S = (a G S).bind fun x S1 => match x with | .lst ds => .ok ds S1 | .tup ds => .ok ds S1 | .str s => .ok (s.map fun c => .str [c]) S1 | _ => .bad := (rfl)
@[simp] theorem ev_lookh0 {d : D} : look (hide (.val d :: G)) 0 = some d := (rfl)
@[simp] theorem ev_lookhS {s : Slot} : look (hide (s :: G)) (i + 1) = look (hide G) i := (rfl)
@[simp] theorem ev_elc {it : Ix} {g : Tg} {tt : Tx} {vs : List Nat} : elc it g tt te vs G S = (it G S).bind fun ds S1 => match runLc g tt te (wipeG G vs) ds S1 with | .ok ys S2 => if ds.length ≤ 16777216 then .ok (.lst ys) S2 else .bad | _ => .bad := (rfl)
@[simp] theorem ev_strict {α : Type} {w : Env → Store → R α} : strict w G S = w (hide G) S := (rfl)
@[simp] theorem ev_relax : relax a G S = match a G S with | .ok d S1 => if d.flat = true ∧ Store.flat S1 = true then .ok d S1 else .bad | _ => .bad := (rfl)
@[simp] theorem ev_fstr : fstr a G S = match a (hide G) S with | .ok (.lst ds) S1 => if D.flats ds = true then .ok (.lst ds) S1 else .bad | _ => .bad := (rfl)
@[simp] theorem ev_frel : frel a G S = match a G S with | .ok (.lst ds) S1 => if D.flats ds = true ∧ Store.flat S1 = true then .ok (.lst ds) S1 else .bad | _ => .bad := (rfl)
@[simp] theorem ev_snx : snx G S = .nx G S := (rfl)
@[simp] theorem ev_sseq : sseq u v G S = match u G S with | .nx G' S' => v G' S' | z => z := (rfl)
@[simp] theorem ev_sset : sset i a G S = match a G S with | .ok d S1 => .nx (G.set i (.val d)) S1 | _ => .bad := (rfl)
@[simp] theorem ev_sown : sown i a G S = match a G S with | .ok (.lst ds) S1 => if i < G.length ∧ D.flats ds = true ∧ Store.flat S1 = true then .nx (G.set i (.own ds)) S1 else .bad | _ => .bad := (rfl)
@[simp] theorem ev_sfrz : sfrz i u G S = match G[i]? with | some (.own ds) => u (G.set i (.val (.lst ds))) S | _ => u G S := (rfl)
@[simp] theorem ev_sret : sret a G S = match a G S with | .ok d S1 => .rt d S1 | _ => .bad := (rfl)
@[simp] theorem ev_sdrop : sdrop a G S = match a G S with | .ok _ S1 => .nx G S1 | _ => .bad := (rfl)
@[simp] theorem ev_sif : sif xc u v G S = match xc G S with | .ok true S1 => u G S1 | .ok false S1 => v G S1 | _ => .bad := (rfl)
@[simp] theorem ev_sasg {g : Tg} : sasg g a G S = match a G S with | .ok d S1 => (match g.put d G with | some G' => .nx G' S1 | none => .bad) | _ => .bad := (rfl)
@[simp] theorem ev_spar : spar i j ts G S = match ts G S with | .ok [d, e] S1 => .nx ((G.set i (.val d)).set j (.val e)) S1 | _ => .bad := (rfl)
@[simp] theorem ev_spar3 : spar3 i j k ts G S = match ts G S with | .ok [d, e, f] S1 => .nx (((G.set i (.val d)).set j (.val e)).set k (.val f)) S1 | _ => .bad := (rfl)
@[simp] theorem ev_saug : saug i f a G S = match G[i]? with | some (.val d) => (match a G S with | .ok y S1 => (match f d y with | some z => .nx (G.set i (.val z)) S1 | none => .bad) | _ => .bad) | _ => .bad := (rfl)
@[simp] theorem ev_sfor {it : Ix} {g : Tg} : sfor it g u G S = match it G S with | .ok ds S1 => runFor g u ds G S1 | _ => .bad := (rfl)
@[simp] theorem ev_swhile {n : Nat} : swhile n xc u G S = runWhile xc u n G S := (rfl)
@[simp] theorem ev_sadd {f : D → Option (List D)} : sadd i f a G S = match a G S with | .ok d S1 => (match G[i]?, f d with | some (.own ds), some es => (if ds.length + es.length ≤ 16777216 then .nx (G.set i (.own (ds ++ es))) S1 else .bad) | _, _ => .bad) | _ => .bad := (rfl)
@[simp] theorem ev_sput : sput i ti a G S = match a G S with | .ok d S1 => (match ti G S1 with | .ok (.int k) S2 => (match G[i]? with | some (.own ds) => (match L2.ixN ds.length k with | some j => .nx (G.set i (.own (ds.set j d))) S2 | none => .bad) | _ => .bad) | _ => .bad) | _ => .bad := (rfl)
@[simp] theorem ev_sputa : sputa i f ti a G S = match ti G S with | .ok (.int k) S1 => (match a G S1 with | .ok d S2 => (match G[i]? with | some (.own ds) => (match L2.ixN ds.length k with | some j => (match ds[j]? with | some d0 => (match f d0 d with | some z => .nx (G.set i (.own (ds.set j z))) S2 | none => .bad) | none => .bad) | none => .bad) | _ => .bad) | _ => .bad) | _ => .bad := (rfl)
@[simp] theorem ev_mkFn {np n : Nat} {ds : List D} : mkFn np n u ds S = if ds.length = np then match u (ds.map Slot.val ++ List.replicate (n - np) .no) S with | .rt d S' => .ok d S' | .nx _ S' => .ok .non S' | .exc x _ S' => .exc x S' | _ => .bad else .bad := (rfl)
@[simp] theorem ev_look0 {s : Slot} : look (s :: G) 0 = s.look := (rfl)
@[simp] theorem ev_lookS {s : Slot} : look (s :: G) (i + 1) = look G i := (rfl)
@[simp] theorem ev_slook {d : D} : (Slot.val d).look = some d := (rfl)
@[simp] theorem ev_slookO {ds : List D} : (Slot.own ds).look = some (.lst ds) := (rfl)
@[simp] theorem ev_hide0 : hide [] = [] := (rfl)
@[simp] theorem ev_hideV : hide (.val d :: G) = .val d :: hide G := (rfl)
@[simp] theorem ev_hideO {ds : List D} : hide (.own ds :: G) = .no :: hide G := (rfl)
@[simp] theorem ev_hideN : hide (.no :: G) = .no :: hide G := (rfl)
@[simp] theorem ev_put {g : Nat} : Tg.put (.nm g) d G = some (G.set g (.val d)) := (rfl)
@[simp] theorem ev_putT {gs : List Tg} {ds : List D} : Tg.put (.tp gs) (.tup ds) G = Tg.puts gs ds G := (rfl)
@[simp] theorem ev_putL {gs : List Tg} {ds : List D} : Tg.put (.tp gs) (.lst ds) G = Tg.puts gs ds G := (rfl)
@[simp] theorem ev_puts0 : Tg.puts [] [] G = some G := (rfl)
@[simp] theorem ev_putsC {g : Tg} {gs : List Tg} {ds : List D} : Tg.puts (g :: gs) (d :: ds) G = (Tg.put g d G).bind (Tg.puts gs ds) := (rfl)
@[simp] theorem ev_runFor0 {g : Tg} : runFor g u [] G S = .nx G S := (rfl)
theorem ev_runForC {g : Tg} {ds : List D} : runFor g u (d :: ds) G S = match g.put d G with | some G1 => (match u G1 S with | .nx G2 S2 => runFor g u ds G2 S2 | .ct G2 S2 => runFor g u ds G2 S2 | .bk G2 S2 => .nx G2 S2 | z => z) | none => .bad := (rfl)
theorem ev_runWhileS {n : Nat} : runWhile xc u (n + 1) G S = match xc G S with | .ok true S1 => (match u G S1 with | .nx G2 S2 => runWhile xc u n G2 S2 | .ct G2 S2 => runWhile xc u n G2 S2 | .bk G2 S2 => .nx G2 S2 | z => z) | .ok false S1 => .nx G S1 | _ => .bad := (rfl)
@[simp] theorem ev_deref_int {i : Int} : deref S (.int i) = .int i := (rfl)
@[simp] theorem ev_deref_tup {ds : List D} : deref S (.tup ds) = .tup ds := (rfl)
@[simp] theorem ev_deref_lst {ds : List D} : deref S (.lst ds) = .lst ds := (rfl)
@[simp] theorem ev_deref_scr {ds : List Int} : deref S (.scr ds) = .scr ds := (rfl)
@[simp] theorem ev_add {i j : Int} : opAdd (.int i) (.int j) = some (.int (i + j)) := (rfl)
@[simp] theorem ev_sub {i j : Int} : opSub (.int i) (.int j) = some (.int (i - j)) := (rfl)
@[simp] theorem ev_mul {i j : Int} : opMul (.int i) (.int j) = if mulOk i j = true then some (.int (i * j)) else none := (rfl)
@[simp] theorem ev_div {i j : Int} : opDiv (.int i) (.int j) = if 0 < j ∧ j.natAbs.log2 < 9000 then some (.int (i / j)) else none := (rfl)
@[simp] theorem ev_mod {i j : Int} : opMod (.int i) (.int j) = if 0 < j then some (.int (i % j)) else none := (rfl)
@[simp] theorem ev_shl {i j : Int} : opShl (.int i) (.int j) = if 0 ≤ j ∧ j ≤ 1000000 ∧ i.natAbs.log2 < 10000000 then some (.int (i * 2 ^ j.toNat)) else none := (rfl)
@[simp] theorem ev_shr {i j : Int} : opShr (.int i) (.int j) = if 0 ≤ j then some (.int (i / 2 ^ j.toNat)) else none := (rfl)
@[simp] theorem ev_neg {i : Int} : opNeg (.int i) = some (.int (-i)) := (rfl)
@[simp] theorem ev_lt {i j : Int} : opLt (.int i) (.int j) = some (.bl (decide (i < j))) := (rfl)
@[simp] theorem ev_le {i j : Int} : opLe (.int i) (.int j) = some (.bl (decide (i ≤ j))) := (rfl)
@[simp] theorem ev_gt {i j : Int} : opGt (.int i) (.int j) = some (.bl (decide (j < i))) := (rfl)
@[simp] theorem ev_ge {i j : Int} : opGe (.int i) (.int j) = some (.bl (decide (j ≤ i))) := (rfl)
@[simp] theorem ev_eq {i j : Int} : opEq (.int i) (.int j) = some (.bl (i == j)) := (rfl)
@[simp] theorem ev_ne {i j : Int} : opNe (.int i) (.int j) = some (.bl (!(i == j))) := (rfl)
@[simp] theorem ev_onInts {i j : Int} : onInts f (.int i) (.int j) = f (.int i) (.int j) := (rfl)
@[simp] theorem ev_max2 {i j : Int} : fMax2 [.int i, .int j] = some (.int (if j > i then j else i)) := (rfl)
@[simp] theorem ev_min2 {i j : Int} : fMin2 [.int i, .int j] = some (.int (if j < i then j else i)) := (rfl)
@[simp] theorem ev_int1 {i : Int} : fInt1 [.int i] = some (.int i) := (rfl)
@[simp] theorem ev_abs {i : Int} : fAbs [.int i] = some (.int (if i < 0 then -i else i)) := (rfl)
@[simp] theorem ev_tupleL {xs : List D} : fTuple [.lst xs] = some (.tup xs) := (rfl)
@[simp] theorem ev_tupleT {xs : List D} : fTuple [.tup xs] = some (.tup xs) := (rfl)
@[simp] theorem ev_lenT {xs : List D} : fLen [.tup xs] = some (.int xs.length) := (rfl)
@[simp] theorem ev_lenL {xs : List D} : fLen [.lst xs] = some (.int xs.length) := (rfl)
@[simp] theorem ev_lenS {xs : List Int} : fLen [.scr xs] = some (.int xs.length) := (rfl)
@[simp] theorem ev_addOne : addOne d = some [d] := (rfl)
@[simp] theorem ev_items2 {xs : List D} : D.items2 (.tup xs) = some xs := (rfl)
@[simp] theorem ev_truthB {b : Bool} : (D.bl b).truth = some b := (rfl)
@[simp] theorem ev_cutT {xs : List D} {l h : Option Int} : D.cut l h (.tup xs) = some (.tup (cutL xs l h)) := (rfl)
@[simp] theorem ev_cutLs {xs : List D} {l h : Option Int} : D.cut l h (.lst xs) = some (.lst (cutL xs l h)) := (rfl)
end
abbrev tI' (xs : List Int) : D := .tup (xs.map D.int)
abbrev lI' (xs : List Int) : D := .lst (xs.map D.int)
@[simp] theorem ints_map : ∀ xs : List Int, D.ints (xs.map D.int) = some xs
  | [] => rfl
  | x :: r => by show (D.ints (r.map D.int)).map (x :: ·) = _; rw [ints_map r]; rfl
@[simp] theorem ev_sumT {xs : List Int} : fSum [.tup (xs.map D.int)] = some (.int xs.sum) := by
  show (D.ints (xs.map D.int)).map _ = _
  rw [ints_map]; rfl
@[simp] theorem ev_sumL {xs : List Int} : fSum [.lst (xs.map D.int)] = some (.int xs.sum) := by
  show (D.ints (xs.map D.int)).map _ = _
  rw [ints_map]; rfl
@[simp] theorem flats_ints : ∀ xs : List Int, D.flats (xs.map D.int) = true
  | [] => rfl
  | x :: r => by show (true && D.flats (r.map D.int)) = true; rw [flats_ints r]; rfl
theorem ixN_nat (n j : Nat) (h : j < n) : L2.ixN n (j : Int) = some j := by
  unfold L2.ixN
  rw [if_pos (Int.natCast_nonneg j), if_pos (by omega)]
  simp
theorem atI_nat' {α : Type} (xs : List α) (j : Nat) : L2.atI xs (j : Int) = xs[j]? := by
  unfold L2.atI
  by_cases h : j < xs.length
  · rw [ixN_nat _ _ h]; rfl
  · rw [List.getElem?_eq_none (by omega)]
    unfold L2.ixN
    rw [if_pos (Int.natCast_nonneg j), if_neg (by omega)]; rfl
/-- an item of a tuple, a list of ints -/
theorem ix_ti (xs : List Int) (j : Nat) (h : j < xs.length) : opIx (.tup (xs.map D.int)) (.int (j : Int)) = some (.int xs[j]) := by
  show L2.atI _ _ = _
  rw [atI_nat']; simp [h]
theorem ix_li (xs : List Int) (j : Nat) (h : j < xs.length) : opIx (.lst (xs.map D.int)) (.int (j : Int)) = some (.int xs[j]) := by
  show L2.atI _ _ = _
  rw [atI_nat']; simp [h]
theorem ix_tup (xs : List D) (j : Nat) : opIx (.tup xs) (.int (j : Int)) = xs[j]? := atI_nat' xs j
theorem ix_lst (xs : List D) (j : Nat) : opIx (.lst xs) (.int (j : Int)) = xs[j]? := atI_nat' xs j
theorem cut_take {α : Type} (xs : List α) (j : Nat) : cutL xs none (some (j : Int)) = xs.take j := by
  unfold cutL
  rw [HT.sIx_none, HT.sIx_nat]
  simp
theorem cut_drop {α : Type} (xs : List α) (j : Nat) : cutL xs (some (j : Int)) none = xs.drop j := by
  unfold cutL
  rw [HT.sIx_none, HT.sIx_nat]
  by_cases h : j ≤ xs.length
  · rw [Nat.min_eq_left h]
    exact List.take_of_length_le (by rw [List.length_drop]; omega)
  · rw [Nat.min_eq_right (by omega), List.drop_length, List.drop_eq_nil_of_le (by omega)]; simp
theorem runLc_map {g : Tg} {te : Ex} {G : Env} {S : Store} (f : D → D) : ∀ ds : List D, (∀ d ∈ ds, ∃ G1, g.put d G = some G1 ∧ te G1 S = .ok (f d) S) → runLc g tyes te G ds S = .ok (ds.map f) S
  | [], _ => rfl
  | d :: r, h => by
    obtain ⟨G1, h1, h2⟩ := h d List.mem_cons_self
    have ih := runLc_map f r fun d hd => h d (List.mem_cons_of_mem _ hd)
    unfold runLc
    rw [h1]
    simp only [tyes, h2, ih, List.map_cons]
/-- a loop that keeps P -/
theorem runFor_all {g : Tg} {u : St} {α : Type} (emb : α → D) (P : List α → Env → Store → Prop) (step : ∀ x done G S, P done G S → ∃ G1 G2 S2, g.put (emb x) G = some G1 ∧ u G1 S = .nx G2 S2 ∧ P (done ++ [x]) G2 S2) :
    ∀ (xs done : List α) (G : Env) (S : Store), P done G S → ∃ G' S', runFor g u (xs.map emb) G S = .nx G' S' ∧ P (done ++ xs) G' S'
  | [], done, G, S, h => ⟨G, S, rfl, by rw [List.append_nil]; exact h⟩
  | x :: r, done, G, S, h => by
    obtain ⟨G1, G2, S2, h1, h2, h3⟩ := step x done G S h
    obtain ⟨G', S', h4, h5⟩ := runFor_all emb P step r (done ++ [x]) G2 S2 h3
    refine ⟨G', S', ?_, by rw [List.append_assoc] at h5; exact h5⟩
    rw [List.map_cons, ev_runForC, h1]
    dsimp only
    rw [h2]
    exact h4
/-- the same where the items lie in a set -/
theorem runFor_mem {g : Tg} {u : St} {α : Type} (emb : α → D) (P : List α → Env → Store → Prop) : ∀ (xs done : List α) (G : Env) (S : Store), (∀ x ∈ xs, ∀ done G S, P done G S → ∃ G1 G2 S2, g.put (emb x) G = some G1 ∧ u G1 S = .nx G2 S2 ∧ P (done ++ [x]) G2 S2) → P done G S →
    ∃ G' S', runFor g u (xs.map emb) G S = .nx G' S' ∧ P (done ++ xs) G' S'
  | [], done, G, S, _, h => ⟨G, S, rfl, by rw [List.append_nil]; exact h⟩
  | x :: r, done, G, S, step, h => by
    obtain ⟨G1, G2, S2, h1, h2, h3⟩ := step x List.mem_cons_self done G S h
    obtain ⟨G', S', h4, h5⟩ := runFor_mem emb P r (done ++ [x]) G2 S2 (fun y hy => step y (List.mem_cons_of_mem _ hy)) h3
    refine ⟨G', S', ?_, by rw [List.append_assoc] at h5; exact h5⟩
    rw [List.map_cons, ev_runForC, h1]
    dsimp only
    rw [h2]
    exact h4
theorem rng_nat (n : Nat) : rngD 0 n = (List.range n).map fun i : Nat => D.int (i : Int) := by
  unfold rngD
  refine List.map_congr_left fun i _ => ?_
  rw [Int.zero_add]
theorem irng1_nat {ts : Exs} {G : Env} {S S1 : Store} {n : Nat} (h : ts G S = .ok [.int (n : Int)] S1) (hn : n ≤ 16777216) : irng1 ts G S = .ok ((List.range n).map fun i : Nat => D.int (i : Int)) S1 := by
  unfold irng1
  rw [h, ← rng_nat]
  exact gate_pos ⟨by omega, by omega⟩
theorem irng2_nat {ts : Exs} {G : Env} {S S1 : Store} {i j : Int} (h : ts G S = .ok [.int i, .int j] S1) (hi : -16777216 ≤ i ∧ i ≤ 16777216) (hj : -16777216 ≤ j ∧ j ≤ 16777216) : irng2 ts G S = .ok (rngD i (j - i).toNat) S1 := by
  unfold irng2
  rw [h]
  exact gate_pos ⟨by omega, by omega, by omega, by omega⟩
end DL

end
section
set_option maxRecDepth 100000
set_option maxHeartbeats 2000000
/-! The data layer: the order of tuples; the least of a row of any such data. -/
namespace DL
open PySem PySem.Spec PyProof.Rows L2
mutual
/-- < of such data -/
def D.ltb : D → D → Bool
  | .int i, .int j => decide (i < j)
  | .str x, .str y => decide (x < y)
  | .tup xs, .tup ys => D.lts xs ys
  | _, _ => false
def D.lts : List D → List D → Bool
  | [], [] => false
  | [], _ :: _ => true
  | _ :: _, [] => false
  | x :: xs, y :: ys => if D.eq x y = true then D.lts xs ys else D.ltb x y
end
mutual
/-- two that < compares -/
def D.ord : Nat → D → D → Bool
  | _, .int _, .int _ => true
  | _, .str _, .str _ => true
  | n + 1, .tup xs, .tup ys => D.ords n xs ys
  | _, _, _ => false
def D.ords : Nat → List D → List D → Bool
  | _, [], _ => true
  | _, _ :: _, [] => true
  | n, x :: xs, y :: ys => (D.eq x y || D.ord n x y) && D.ords n xs ys
end
mutual
theorem D.cmp_succ : ∀ (n : Nat) (d : D), D.cmp n d = true → D.cmp (n + 1) d = true
  | _, .non, _ => rfl
  | _, .bl _, _ => rfl
  | _, .int _, _ => rfl
  | _, .str s, h => h
  | 0, .tup xs, h => by cases h
  | n + 1, .tup xs, h => D.cmps_succ n xs h
  | 0, .lst xs, h => by cases h
  | n + 1, .lst xs, h => D.cmps_succ n xs h
  | _, .obj _, h => by cases h
  | _, .scr _, h => by cases h
  | _, .fl _ _, h => by cases h
theorem D.cmps_succ : ∀ (n : Nat) (ds : List D), D.cmps n ds = true → D.cmps (n + 1) ds = true
  | _, [], _ => rfl
  | n, x :: r, h => by
    have h : (D.cmp n x && D.cmps n r) = true := h
    rw [Bool.and_eq_true] at h
    show (D.cmp (n + 1) x && D.cmps (n + 1) r) = true
    rw [D.cmp_succ n x h.1, D.cmps_succ n r h.2]; rfl
end
theorem ords_at : ∀ (n : Nat) (xs ys : List D) (j : Nat) (h1 : j < xs.length) (h2 : j < ys.length), D.ords n xs ys = true → D.eq xs[j] ys[j] = false → D.ord n xs[j] ys[j] = true
  | _, [], _, _, h1, _, _, _ => absurd h1 (Nat.not_lt_zero _)
  | _, _ :: _, [], _, _, h2, _, _ => absurd h2 (Nat.not_lt_zero _)
  | n, x :: xs, y :: ys, 0, h1, h2, h, e => by
    have h : ((D.eq x y || D.ord n x y) && D.ords n xs ys) = true := h
    have e : D.eq x y = false := e
    rw [e, Bool.false_or, Bool.and_eq_true] at h
    exact h.1
  | n, x :: xs, y :: ys, j + 1, h1, h2, h, e => by
    have h : ((D.eq x y || D.ord n x y) && D.ords n xs ys) = true := h
    rw [Bool.and_eq_true] at h
    exact ords_at n xs ys j (Nat.lt_of_succ_lt_succ h1) (Nat.lt_of_succ_lt_succ h2) h.2 e
theorem cmps_at : ∀ (n : Nat) (xs : List D) (j : Nat) (h : j < xs.length), D.cmps n xs = true → D.cmp n xs[j] = true
  | _, [], _, h, _ => absurd h (Nat.not_lt_zero _)
  | n, x :: xs, 0, _, e => by
    have e : (D.cmp n x && D.cmps n xs) = true := e
    rw [Bool.and_eq_true] at e
    exact e.1
  | n, x :: xs, j + 1, h, e => by
    have e : (D.cmp n x && D.cmps n xs) = true := e
    rw [Bool.and_eq_true] at e
    exact cmps_at n xs j (Nat.lt_of_succ_lt_succ h) e.2
theorem pds_get : ∀ (xs : List D), D.pds xs = xs.map D.pd
  | [] => rfl
  | x :: r => by show D.pd x :: D.pds r = _; rw [pds_get r]; rfl
theorem lex_lts (xs ys : List D) : ∀ (k i : Nat), i + k = min xs.length ys.length →
    Ob.lexAt (fun j => D.eq (xs.getD j .non) (ys.getD j .non)) (fun j => D.ltb (xs.getD j .non) (ys.getD j .non)) (decide (xs.length < ys.length)) i k = D.lts (xs.drop i) (ys.drop i)
  | 0, i, e => by
    rw [Ob.lexAt_zero]
    by_cases h : xs.length < ys.length
    · rw [decide_eq_true h, List.drop_eq_nil_of_le (by omega), List.drop_eq_getElem_cons (show i < ys.length by omega)]
      rfl
    · rw [decide_eq_false h, List.drop_eq_nil_of_le (show ys.length ≤ i by omega)]
      cases xs.drop i <;> rfl
  | k + 1, i, e => by
    have h1 : i < xs.length := by omega
    have h2 : i < ys.length := by omega
    rw [Ob.lexAt_succ, lex_lts xs ys k (i + 1) (by omega), List.drop_eq_getElem_cons h1, List.drop_eq_getElem_cons h2]
    have g1 : xs.getD i .non = xs[i] := by rw [List.getD_eq_getElem?_getD, List.getElem?_eq_getElem h1]; rfl
    have g2 : ys.getD i .non = ys[i] := by rw [List.getD_eq_getElem?_getD, List.getElem?_eq_getElem h2]; rfl
    rw [g1, g2]
    rfl
theorem reads_at {h : Heap} : ∀ {vs : List Value} {ds : List PyData} {as : List Addr}, ReadsAll h vs ds as → vs.length = ds.length ∧ ∀ j (h1 : j < vs.length) (h2 : j < ds.length), ∃ bs, Reads h vs[j] ds[j] bs
  | _, _, _, .nil => ⟨rfl, fun j h1 => absurd h1 (Nat.not_lt_zero _)⟩
  | _, _, _, .cons r q => by
    obtain ⟨e, f⟩ := reads_at q
    refine ⟨by rw [List.length_cons, List.length_cons, e], fun j h1 h2 => ?_⟩
    cases j with
    | zero => exact ⟨_, r⟩
    | succ j => exact f j (Nat.lt_of_succ_lt_succ h1) (Nat.lt_of_succ_lt_succ h2)
theorem lt_list (x y : List Nat) : decide ((⟨x.toArray⟩ : Str).cps.toList < (⟨y.toArray⟩ : Str).cps.toList) = decide (x < y) := rfl
theorem rc_tup (n : Nat) (ih : ∀ (x y : D) {A : Around} {s : Shared} {u v : Value} {as bs : List Addr}, D.ord n x y = true → D.cmp 40 x = true → D.cmp 40 y = true → Reads s.heap u (D.pd x) as → Reads s.heap v (D.pd y) bs → A.units + 42 + n < cLine → Ob.RcOp .Lt A s u v (D.ltb x y))
    (xs ys : List D) {A : Around} {s : Shared} {u v : Value} {as bs : List Addr} (h : D.ord (n + 1) (.tup xs) (.tup ys) = true) (cx : D.cmp 40 (.tup xs) = true) (cy : D.cmp 40 (.tup ys) = true) (ru : Reads s.heap u (D.pd (.tup xs)) as) (rv : Reads s.heap v (D.pd (.tup ys)) bs) (hu : A.units + 42 + (n + 1) < cLine) : Ob.RcOp .Lt A s u v (D.ltb (.tup xs) (.tup ys)) := by
    have ru : Reads s.heap u (.tuple (D.pds xs)) as := ru
    have rv : Reads s.heap v (.tuple (D.pds ys)) bs := rv
    rw [pds_get] at ru rv
    have cx : D.cmps 39 xs = true := cx
    have cy : D.cmps 39 ys = true := cy
    have h : D.ords n xs ys = true := h
    cases ru with
    | @tuple l o us k _ _ e1 e2 e3 r1 =>
    cases rv with
    | @tuple l' o' us' k' _ _ e1' e2' e3' r1' =>
    obtain ⟨n1, f1⟩ := reads_at r1
    obtain ⟨n2, f2⟩ := reads_at r1'
    rw [List.length_map, Array.length_toList] at n1 n2
    have hi : A.in1.units = A.units + 1 := rfl
    have T := Ob.RcOp.tuples_lt (A := A) (s := s) (e := fun j => D.eq (xs.getD j .non) (ys.getD j .non)) (r := fun j => D.ltb (xs.getD j .non) (ys.getD j .non)) (l := l) (b := l') (items := us) (items2 := us') ⟨o, e1, e2, k, e3⟩ ⟨o', e1', e2', k', e3'⟩ (by omega) (fun j h1 h2 => by
      obtain ⟨a1, q1⟩ := f1 j (by simpa using h1) (by simp; omega)
      obtain ⟨a2, q2⟩ := f2 j (by simpa using h2) (by simp; omega)
      have g1 : xs.getD j .non = xs[j]'(by omega) := by rw [List.getD_eq_getElem?_getD, List.getElem?_eq_getElem (by omega)]; rfl
      have g2 : ys.getD j .non = ys[j]'(by omega) := by rw [List.getD_eq_getElem?_getD, List.getElem?_eq_getElem (by omega)]; rfl
      have c1 := cmps_at 39 xs j (by omega) cx
      have c2 := cmps_at 39 ys j (by omega) cy
      obtain ⟨k1, k2⟩ := D.cmp_ok 39 _ c1
      obtain ⟨k3, k4⟩ := D.cmp_ok 39 _ c2
      simp only [Array.getElem_toList, List.getElem_map] at q1 q2
      rw [g1, g2, ← D.eq_pd 39 _ _ c1 c2]
      exact SeqAt.eqAt_reads _ _ _ _ _ _ _ _ q1 q2 k1 k3 (by rw [hi]; omega)) (fun j h1 h2 e => by
      obtain ⟨a1, q1⟩ := f1 j (by simpa using h1) (by simp; omega)
      obtain ⟨a2, q2⟩ := f2 j (by simpa using h2) (by simp; omega)
      have g1 : xs.getD j .non = xs[j]'(by omega) := by rw [List.getD_eq_getElem?_getD, List.getElem?_eq_getElem (by omega)]; rfl
      have g2 : ys.getD j .non = ys[j]'(by omega) := by rw [List.getD_eq_getElem?_getD, List.getElem?_eq_getElem (by omega)]; rfl
      have c1 := cmps_at 39 xs j (by omega) cx
      have c2 := cmps_at 39 ys j (by omega) cy
      simp only [Array.getElem_toList, List.getElem_map] at q1 q2
      rw [g1, g2] at e ⊢
      exact ih _ _ (ords_at n xs ys j (by omega) (by omega) h e) (D.cmp_succ 39 _ c1) (D.cmp_succ 39 _ c2) q1 q2 (by rw [hi]; omega))
    rw [n1, n2, lex_lts xs ys _ 0 (by omega)] at T
    exact T
theorem rc_lt : ∀ (n : Nat) (x y : D) {A : Around} {s : Shared} {u v : Value} {as bs : List Addr}, D.ord n x y = true → D.cmp 40 x = true → D.cmp 40 y = true → Reads s.heap u (D.pd x) as → Reads s.heap v (D.pd y) bs → A.units + 42 + n < cLine → Ob.RcOp .Lt A s u v (D.ltb x y) := by
  intro n
  induction n with
  | zero =>
    intro x y A s u v as bs h cx cy ru rv hu
    cases x with
    | int i => cases y with
      | int j => cases ru; cases rv; exact Ob.RcOp.lt_int _ _ _ _
      | _ => cases h
    | str i => cases y with
      | str j => cases ru; cases rv; exact fun prog w E Q h => PyProof.Rows.lt_str h
      | _ => cases h
    | _ => cases h
  | succ n ih =>
    intro x y A s u v as bs h cx cy ru rv hu
    cases x with
    | int i => cases y with
      | int j => cases ru; cases rv; exact Ob.RcOp.lt_int _ _ _ _
      | _ => cases h
    | str i => cases y with
      | str j => cases ru; cases rv; exact fun prog w E Q h => PyProof.Rows.lt_str h
      | _ => cases h
    | tup xs => cases y with
      | tup ys => exact rc_tup n ih xs ys h cx cy ru rv hu
      | _ => cases h
    | _ => cases h
end DL

end
section
set_option maxRecDepth 100000
set_option maxHeartbeats 2000000
/-! The data layer: min, max of a row of data. -/
namespace DL
open PySem PySem.Spec PyProof.Rows L2
section
variable {prog : Program} {w : World} {A : Around} {R : Result → Shared → Prop} {I : Addr} {fp wr : List Addr} {n : Nat} {P : Nat → Value → Prop} {St : Nat → Heap → Prop}
/-- the old objects stand in g -/
def Old (wr : List Addr) (C : Addr) (h g : Heap) : Prop := ∀ b o, b ∉ wr → b ≠ C → h.get? b = some o → g.get? b = some o
theorem min_turns (W : Walks prog w A.in1 I fp wr n P St) (bt : Nat → Nat → Bool) (C : Addr) (hCf : C ∉ fp) (h0 : Heap)
    (cmp : ∀ i j u v (s : Shared) (Q : Value → Shared → Prop) (E : Value → Shared → Prop), Old wr C h0 s.heap → P i u → P j v → Q (.bool (bt i j)) s → wpAny (model prog w) A.in1 (richCompare .Lt u v) Q E s) :
    ∀ (k j : Nat) (s : Shared) (best : Value) (c : Nat), n - (j + 1) = k → j + 1 ≤ n → St (j + 1) s.heap → P (argBest bt j) best → Old wr C h0 s.heap →
    s.heap.get? C = some { cls := .type "list", dict := none, data := .seq #[best, best] c, slots := #[] } →
    (∀ v g tk, P (argBest bt (n - 1)) v → Old wr C h0 g → R (.ok (.ret v)) { s with heap := g, toks := tk }) →
    codeAny (model prog w) A (.builtin "min.loop" ⟨[.ref I, .none, .ref C], []⟩) R s := by
  have hCw : C ∉ wr := fun h => hCf (W.sub _ h)
  have nm : (toString "min" ++ toString ".loop" : String) = "min.loop" := by decide
  intro k
  induction k with
  | zero =>
    intro j s best c e0 e1 st pb old cell fin
    have en : j + 1 = n := by omega
    refine codeAny_builtin PySem.F.entry_min_loop ?_
    rw [Around.under_plainId PySem.F.plain_min_loop _]
    show wpAny _ A.in1 (seqItems? (.ref C) >>= _) _ _ s
    refine wpAny_bind (wpAny_seqItems cell rfl ?_)
    show wpAny _ A.in1 (tryCatch (pyNext (.ref I)) _ >>= _) _ _ s
    refine wpAny_bind (wpAny_tryCatch (W.done s _ _ (en ▸ st) fun g tk kp => ?_))
    have cell2 := kp C _ hCw cell
    show wpAny _ A.in1 (updateSeq C (fun _ => #[]) >>= _) _ _ _
    refine wpAny_bind ?_
    refine wpAny_updateSeq cell2 rfl (wpAny_bind (wpAny_letGo (wpAny_pure ?_)))
    exact fin best _ tk (by rw [← en]; exact pb) fun b o nw nC e => (Heap.get?_update_other _ _ (Ne.symm nC)).trans (kp b o nw (old b o nw nC e))
  | succ k ih =>
    intro j s best c e0 e1 st pb old cell fin
    have lt : j + 1 < n := by omega
    refine codeAny_builtin PySem.F.entry_min_loop ?_
    rw [Around.under_plainId PySem.F.plain_min_loop _]
    show wpAny _ A.in1 (seqItems? (.ref C) >>= _) _ _ s
    refine wpAny_bind (wpAny_seqItems cell rfl ?_)
    show wpAny _ A.in1 (tryCatch (pyNext (.ref I)) _ >>= _) _ _ s
    refine wpAny_bind (wpAny_tryCatch (W.item (j + 1) s _ _ lt st fun v g tk pv st2 kp => ?_))
    have cell2 := kp C _ hCw cell
    have old2 : Old wr C h0 g := fun b o nw nC e => kp b o nw (old b o nw nC e)
    show wpAny _ A.in1 (tryCatch (holding [v, v] (richCompare .Lt v best >>= _)) _ >>= _) _ _ _
    refine wpAny_bind (wpAny_tryCatch (wpAny_holding (wpAny_bind (cmp (j + 1) (argBest bt j) v best _ _ _ old2 pv pb ?_))))
    refine wpAny_bind (wpAny_holding (wpAny_truthy_bool ?_))
    refine wpAny_bind (wpAny_letGo (wpAny_pure ?_))
    cases hb : bt (j + 1) (argBest bt j) with
    | true =>
      simp only [if_true]
      refine wpAny_bind ?_
      refine wpAny_updateSeq cell2 rfl (wpAny_bind (wpAny_letGo ?_))
      rw [nm]
      refine wpAny_pure ⟨plainId_quiet PySem.F.plain_min_loop _, ih (j + 1) _ v _ (by omega) lt (W.frame _ _ _ st2 fun b bf o e => ?_) (by simp only [argBest, hb, if_true]; exact pv) (fun b o nw nC e => ?_) (Heap.get?_update_self _ cell2 rfl) fin⟩
      · exact (Heap.get?_update_other _ _ (fun z : C = b => hCf (by rw [z]; exact bf))).trans e
      · exact (Heap.get?_update_other _ _ (Ne.symm nC)).trans (old2 b o nw nC e)
    | false =>
      simp only [Bool.false_eq_true, if_false]
      refine wpAny_bind (wpAny_letGo ?_)
      rw [nm]
      exact wpAny_pure ⟨plainId_quiet PySem.F.plain_min_loop _, ih (j + 1) _ best c (by omega) lt st2 (by simp only [argBest, hb, Bool.false_eq_true, if_false]; exact pb) old2 cell2 fin⟩
theorem min_begins (W : Walks prog w A.in1 I fp wr n P St) (bt : Nat → Nat → Bool) (C : Addr) (hCf : C ∉ fp) (h0 : Heap)
    (cmp : ∀ i j u v (s : Shared) (Q : Value → Shared → Prop) (E : Value → Shared → Prop), Old wr C h0 s.heap → P i u → P j v → Q (.bool (bt i j)) s → wpAny (model prog w) A.in1 (richCompare .Lt u v) Q E s)
    (hn : 0 < n) {s : Shared} {c : Nat} (st : St 0 s.heap) (old : Old wr C h0 s.heap) (cell : s.heap.get? C = some { cls := .type "list", dict := none, data := .seq #[] c, slots := #[] })
    (fin : ∀ v g tk, P (argBest bt (n - 1)) v → Old wr C h0 g → R (.ok (.ret v)) { s with heap := g, toks := tk }) :
    codeAny (model prog w) A (.builtin "min.loop" ⟨[.ref I, .none, .ref C], []⟩) R s := by
  have hCw : C ∉ wr := fun h => hCf (W.sub _ h)
  have nm : (toString "min" ++ toString ".loop" : String) = "min.loop" := by decide
  refine codeAny_builtin PySem.F.entry_min_loop ?_
  rw [Around.under_plainId PySem.F.plain_min_loop _]
  show wpAny _ A.in1 (seqItems? (.ref C) >>= _) _ _ s
  refine wpAny_bind (wpAny_seqItems cell rfl ?_)
  show wpAny _ A.in1 (tryCatch (pyNext (.ref I)) _ >>= _) _ _ s
  refine wpAny_bind (wpAny_tryCatch (W.item 0 s _ _ hn st fun v g tk pv st2 kp => ?_))
  have cell2 := kp C _ hCw cell
  have old2 : Old wr C h0 g := fun b o nw nC e => kp b o nw (old b o nw nC e)
  show wpAny _ A.in1 (updateSeq C (fun _ => #[v, v]) >>= _) _ _ _
  refine wpAny_bind ?_
  refine wpAny_updateSeq cell2 rfl ?_
  rw [nm]
  refine wpAny_pure ⟨plainId_quiet PySem.F.plain_min_loop _, min_turns W bt C hCf h0 cmp _ 0 _ v _ rfl hn (W.frame _ _ _ st2 fun b bf o e => ?_) pv (fun b o nw nC e => ?_) (Heap.get?_update_self _ cell2 rfl) fin⟩
  · exact (Heap.get?_update_other _ _ (fun z : C = b => hCf (by rw [z]; exact bf))).trans e
  · exact (Heap.get?_update_other _ _ (Ne.symm nC)).trans (old2 b o nw nC e)
end
/-- min(x), x walked with a heap as it stood -/
theorem min_walked {prog : Program} {w : World} {A : Around} {E : Value → Shared → Prop} {s : Shared} {x : Value} {bt : Nat → Nat → Bool} {n : Nat} {items : Array Value} {Q : Value → Shared → Prop}
    (h : wpAny (model prog w) A.in1 (pyIter x) (fun it s2 => ∃ I fp wr St, it = .ref I ∧ Walks prog w A.in1 I fp wr n (fun i v => items[i]? = some v) St ∧ St 0 s2.heap ∧ (∀ b ∈ fp, b < s2.heap.objs.size) ∧ s2.os = s.os ∧ s2.gens = s.gens ∧ s2.drawn = s.drawn ∧
      (∀ b o, s.heap.get? b = some o → b ∉ wr ∧ s2.heap.get? b = some o)) E s) (hn : 0 < n)
    (cmp : ∀ i j u v (s' : Shared) (Q : Value → Shared → Prop) (E : Value → Shared → Prop), (∀ b o, s.heap.get? b = some o → s'.heap.get? b = some o) → items[i]? = some u → items[j]? = some v → Q (.bool (bt i j)) s' → wpAny (model prog w) A.in1 (richCompare .Lt u v) Q E s')
    (fin : ∀ v g tk, items[argBest bt (n - 1)]? = some v → (∀ b o, s.heap.get? b = some o → g.get? b = some o) → Q v { s with heap := g, toks := tk }) :
    wpAny (model prog w) A (call (.builtin "min") [x]) Q E s := by
  have nm : (toString "min" ++ toString ".loop" : String) = "min.loop" := by decide
  refine call_function_tree PySem.F.kind_min PySem.F.plain_min PySem.F.entry_min (PySem.F.args_min1 _) ?_
  show wpAny _ A.in1 (Builtin.Builtins.bindParams "min" ["key", "default"] 0 ⟨[], []⟩ >>= _) _ _ s
  refine wpAny_bind (wpAny_of_eq (show Builtin.Builtins.bindParams "min" ["key", "default"] 0 ⟨[], []⟩ = pure [none, none] from rfl) ?_)
  refine wpAny_bind (wpAny_pure ?_)
  refine wpAny_bind (wpAny_mono h (fun it s2 z => ?_) fun _ _ e => e)
  obtain ⟨I, fp, wr, St, rfl, W, st, hfp, eo, eg, ed, kp⟩ := z
  refine wpAny_bind (wpAny_newObj_type ?_)
  have hCf : s2.heap.objs.size ∉ fp := fun hm => Nat.lt_irrefl _ (hfp _ hm)
  rw [nm]
  have was : ∀ {g : Heap}, Old wr s2.heap.objs.size s2.heap g → ∀ b o, s.heap.get? b = some o → g.get? b = some o := fun {g} old b o e => old b o (kp b o e).1 (Nat.ne_of_lt (Heap.lt_size (kp b o e).2)) (kp b o e).2
  refine wpAny_pure ⟨plainId_quiet PySem.F.plain_min_loop _, min_begins W bt s2.heap.objs.size hCf s2.heap (fun i j u v s' Q E old pu pv q => cmp i j u v s' Q E (was old) pu pv q) hn (W.frame _ _ _ st fun b _ o e => Heap.get?_push_of_some _ e)
    (fun b o _ _ e => Heap.get?_push_of_some _ e) (Heap.get?_push_size _ rfl) fun v g tk pv old => ?_⟩
  obtain ⟨h2, g2, d2, t2, o2⟩ := s2
  cases eo; cases eg; cases ed
  exact fin v g tk pv (was old)
/-! ### as functions of data -/
def minOf (ds : List D) : Option D := if 0 < ds.length ∧ (ds.all fun x => D.cmp 40 x && ds.all fun y => D.ord 20 x y) = true then ds[argBest (fun i j => D.ltb (ds.getD i .non) (ds.getD j .non)) (ds.length - 1)]? else none
def fMin1 : List D → Option D
  | [.lst ds] => minOf ds
  | [.tup ds] => minOf ds
  | _ => none
def maxOf (ds : List D) : Option D := match D.ints ds with
  | some (x :: xs) => some (.int ((x :: xs).getD (argBest (fun i j => decide ((x :: xs).getD i 0 > (x :: xs).getD j 0)) xs.length) 0))
  | _ => none
def fMax1 : List D → Option D
  | [.lst ds] => maxOf ds
  | [.tup ds] => maxOf ds
  | _ => none
theorem ints_inv : ∀ (ds : List D) (ns : List Int), D.ints ds = some ns → ds = ns.map D.int
  | [], ns, e => by cases e; rfl
  | .int i :: r, ns, e => by
    have e : (D.ints r).map (i :: ·) = some ns := e
    cases h : D.ints r with
    | none => rw [h] at e; cases e
    | some q =>
      rw [h] at e
      cases e
      rw [ints_inv r q h]
      rfl
section
variable {X : Cx} {ct : CT}
theorem iter_list {prog : Program} {w : World} {A : Around} {E : Value → Shared → Prop} {s : Shared} {l : Addr} {items : Array Value} (hh : A.handled = none) (hl : s.heap.IsList l items) :
    wpAny (model prog w) A.in1 (pyIter (.ref l)) (fun it s2 => ∃ I fp wr St, it = .ref I ∧ Walks prog w A.in1 I fp wr items.size (fun i v => items[i]? = some v) St ∧ St 0 s2.heap ∧ (∀ b ∈ fp, b < s2.heap.objs.size) ∧ s2.os = s.os ∧ s2.gens = s.gens ∧ s2.drawn = s.drawn ∧
      (∀ b o, s.heap.get? b = some o → b ∉ wr ∧ s2.heap.get? b = some o)) E s := by
  have hlt : l < s.heap.objs.size := by obtain ⟨_, e, _⟩ := hl; exact Heap.lt_size e
  refine wpAny_pyIter_list hl ⟨_, _, _, _, rfl, Walks.list (A := A.in1) hh _ l (Nat.ne_of_lt hlt) items, ⟨⟨_, Heap.get?_push_size _ rfl, rfl, rfl⟩, hl.push _⟩, fun b hb => ?_, rfl, rfl, rfl, fun b o e => ⟨fun hm => ?_, Heap.get?_push_of_some _ e⟩⟩
  · show b < (s.heap.push _).objs.size
    rw [Heap.size_push]
    simp only [List.mem_cons, List.not_mem_nil, or_false] at hb
    rcases hb with rfl | rfl
    · exact Nat.lt_succ_self _
    · exact Nat.lt_succ_of_lt hlt
  · simp only [List.mem_cons, List.not_mem_nil, or_false] at hm
    subst hm
    exact Nat.lt_irrefl _ (Heap.lt_size e)
theorem iter_tup {prog : Program} {w : World} {A : Around} {E : Value → Shared → Prop} {s : Shared} {l : Addr} {items : Array Value} (hh : A.handled = none) (hl : s.heap.IsTuple l items) :
    wpAny (model prog w) A.in1 (pyIter (.ref l)) (fun it s2 => ∃ I fp wr St, it = .ref I ∧ Walks prog w A.in1 I fp wr items.size (fun i v => items[i]? = some v) St ∧ St 0 s2.heap ∧ (∀ b ∈ fp, b < s2.heap.objs.size) ∧ s2.os = s.os ∧ s2.gens = s.gens ∧ s2.drawn = s.drawn ∧
      (∀ b o, s.heap.get? b = some o → b ∉ wr ∧ s2.heap.get? b = some o)) E s := by
  have hlt : l < s.heap.objs.size := by obtain ⟨_, e, _⟩ := hl; exact Heap.lt_size e
  refine wpAny_pyIter_tuple hl ⟨_, _, _, _, rfl, Walks.tuple (A := A.in1) hh _ l (Nat.ne_of_lt hlt) items, ⟨⟨_, Heap.get?_push_size _ rfl, rfl, rfl⟩, hl.push _⟩, fun b hb => ?_, rfl, rfl, rfl, fun b o e => ⟨fun hm => ?_, Heap.get?_push_of_some _ e⟩⟩
  · show b < (s.heap.push _).objs.size
    rw [Heap.size_push]
    simp only [List.mem_cons, List.not_mem_nil, or_false] at hb
    rcases hb with rfl | rfl
    · exact Nat.lt_succ_self _
    · exact Nat.lt_succ_of_lt hlt
  · simp only [List.mem_cons, List.not_mem_nil, or_false] at hm
    subst hm
    exact Nat.lt_irrefl _ (Heap.lt_size e)
theorem vals_at : ∀ {vs : List V} {us : List Value} {j : Nat} {u : Value}, Vals vs us → us[j]? = some u → ∃ v, vs[j]? = some v ∧ RelV v u
  | _, _, j, u, .nil, e => by simp at e
  | _, _, 0, u, .cons r _, e => by simp at e; subst e; exact ⟨_, rfl, r⟩
  | _, _, j + 1, u, .cons _ r, e => by
    obtain ⟨v, h1, h2⟩ := vals_at (j := j) r (by simpa using e)
    exact ⟨v, by simpa using h1, h2⟩
theorem min_data {pins : List (Addr × Obj)} {s : Shared} {σ : L2.St} {H : Hp} {o : Om} {S : Store} {xs : List V} {us : List Value} {ds : List D} {z : D} {a : Addr} {Q : VK} (hc : X.calm = true) (hu : X.A.units + 64 < cLine) (I : Inv X pins σ H s) (sr : SRel X.K ct o S H)
    (hv : Vals xs us) (hr : RepL X.K o H xs ds) (e : minOf ds = some z) (q : After X.K ct o H Q z S) (it : s.heap.IsList a us.toArray ∨ s.heap.IsTuple a us.toArray) :
    wpAny (model X.prog X.w) X.A (call (.builtin "min") [.ref a]) (fun v s' => ∃ v' H', Inv X pins σ H' s' ∧ RelV v' v ∧ Q v' H') X.xe s := by
  unfold minOf at e
  split at e
  · rename_i hz
    obtain ⟨hz, hall⟩ := hz
    have nl : us.length = ds.length := by rw [← hr.length]; exact hv.length.symm
    have at_ : ∀ (i : Nat) (u : Value), us.toArray[i]? = some u → ∃ (d : D) (x : V), ds[i]? = some d ∧ xs[i]? = some x ∧ RelV x u ∧ Rep X.K o H x d := fun i u hi => by
      have hi' : us[i]? = some u := by simpa using hi
      obtain ⟨x, h1, h2⟩ := vals_at hv hi'
      obtain ⟨d, h3, h4⟩ := hr.getV h1
      exact ⟨d, x, h3, h1, h2, h4⟩
    have key : wpAny (model X.prog X.w) X.A.in1 (pyIter (.ref a)) (fun it s2 => ∃ I fp wr St, it = .ref I ∧ Walks X.prog X.w X.A.in1 I fp wr us.toArray.size (fun i v => us.toArray[i]? = some v) St ∧ St 0 s2.heap ∧ (∀ b ∈ fp, b < s2.heap.objs.size) ∧ s2.os = s.os ∧ s2.gens = s.gens ∧ s2.drawn = s.drawn ∧
      (∀ b o, s.heap.get? b = some o → b ∉ wr ∧ s2.heap.get? b = some o)) X.xe s := by
      rcases it with it | it
      · exact iter_list (I.ok.hd hc) it
      · exact iter_tup (I.ok.hd hc) it
    refine min_walked (bt := fun i j => D.ltb (ds.getD i .non) (ds.getD j .non)) key (by simp; omega) (fun i j u v s' Q' E kp hi hj hq => ?_) (fun v g tk hvv kp => ?_)
    · obtain ⟨d1, x1, i1, a1, a2, a3⟩ := at_ i u hi
      obtain ⟨d2, x2, j1, b1, b2, b3⟩ := at_ j v hj
      have al := List.all_eq_true.mp hall _ (List.mem_of_getElem? i1)
      have bl := List.all_eq_true.mp hall _ (List.mem_of_getElem? j1)
      rw [Bool.and_eq_true] at al bl
      have od := List.all_eq_true.mp al.2 _ (List.mem_of_getElem? j1)
      obtain ⟨as, r1⟩ := Dp.reads I _ _ _ (a3.dp 40 al.1) a2
      obtain ⟨bs, r2⟩ := Dp.reads I _ _ _ (b3.dp 40 bl.1) b2
      have g1 : ds.getD i .non = d1 := by rw [List.getD_eq_getElem?_getD, i1]; rfl
      have g2 : ds.getD j .non = d2 := by rw [List.getD_eq_getElem?_getD, j1]; rfl
      rw [g1, g2] at hq
      exact rc_lt 20 _ _ (A := X.A.in1) (s := s') od al.1 bl.1 (Reads.keeps kp r1) (Reads.keeps kp r2) (by show X.A.units + 1 + 42 + 20 < cLine; omega) _ _ _ _ hq
    · rw [List.size_toArray, nl] at hvv
      obtain ⟨d1, x1, i1, a1, a2, a3⟩ := at_ _ v hvv
      rw [i1] at e
      cases e
      exact ⟨x1, H, I.kept kp, a2, q o _ H .refl sr a3⟩
  · cases e
theorem cs_min1 (hc : X.calm = true) (hu : X.A.units + 64 < cLine) : CallS X ct (.builtin "min") fMin1 := by
  intro pins s σ H vs us Q I rv ⟨o, S, ds, z, sr, rx, e, q⟩
  unfold fMin1 at e
  split at e
  · rename_i xs
    cases rx with
    | cons r1 r2 =>
      cases r2
      cases r1 with
      | lst hl nb hr =>
        obtain ⟨its, v1, p1, _⟩ := I.list (SqL.of hl)
        rw [Vals.ref1 rv]
        exact min_data hc hu I sr v1 hr e q (.inl p1.isList)
  · rename_i xs
    cases rx with
    | cons r1 r2 =>
      cases r2
      cases r1 with
      | tup ht hr =>
        obtain ⟨its, v1, p1, _⟩ := I.tuple ht
        rw [Vals.ref1 rv]
        exact min_data hc hu I sr v1 hr e q (.inr p1)
  · cases e
theorem max_data {pins : List (Addr × Obj)} {s : Shared} {σ : L2.St} {H : Hp} {o : Om} {S : Store} {xs : List V} {us : List Value} {ds : List D} {z : D} {a : Addr} {Q : VK} (hc : X.calm = true) (I : Inv X pins σ H s) (sr : SRel X.K ct o S H)
    (hv : Vals xs us) (hr : RepL X.K o H xs ds) (e : maxOf ds = some z) (q : After X.K ct o H Q z S) (it : s.heap.IsList a us.toArray ∨ s.heap.IsTuple a us.toArray) :
    wpAny (model X.prog X.w) X.A (call (.builtin "max") [.ref a]) (fun v s' => ∃ v' H', Inv X pins σ H' s' ∧ RelV v' v ∧ Q v' H') X.xe s := by
  unfold maxOf at e
  split at e
  · rename_i x0 r0 ei
    have ni : ds = (x0 :: r0).map D.int := ints_inv _ _ ei
    subst ni
    rw [hr.ints] at hv
    have nl : us.length = r0.length + 1 := by
      have := hv.length
      simpa using this.symm
    have at_ : ∀ (i : Nat) (u : Value), us.toArray[i]? = some u → ∃ t, u = .int ((x0 :: r0).getD i 0) t := fun i u hi => by
      have hi' : us[i]? = some u := by simpa using hi
      obtain ⟨x, h1, h2⟩ := vals_at hv hi'
      rw [List.getElem?_map] at h1
      cases h3 : (x0 :: r0)[i]? with
      | none => rw [h3] at h1; cases h1
      | some k =>
        rw [h3] at h1
        cases h1
        obtain ⟨t, rfl⟩ := h2
        exact ⟨t, by rw [List.getD_eq_getElem?_getD, h3]; rfl⟩
    have key : wpAny (model X.prog X.w) X.A.in1 (pyIter (.ref a)) (fun it s2 => ∃ I fp wr St, it = .ref I ∧ Walks X.prog X.w X.A.in1 I fp wr us.toArray.size (fun i v => us.toArray[i]? = some v) St ∧ St 0 s2.heap ∧ (∀ b ∈ fp, b < s2.heap.objs.size) ∧ s2.os = s.os ∧ s2.gens = s.gens ∧ s2.drawn = s.drawn ∧
      (∀ b o, s.heap.get? b = some o → b ∉ wr ∧ s2.heap.get? b = some o)) X.xe s := by
      rcases it with it | it
      · exact iter_list (I.ok.hd hc) it
      · exact iter_tup (I.ok.hd hc) it
    refine call_max_walk (wpAny_mono key (fun it s2 z => ?_) fun _ _ z => z)
    obtain ⟨I0, fp, wr, St, rfl, W, st, hfp, eo, eg, ed, kp⟩ := z
    refine ⟨I0, fp, wr, _, _, St, _, rfl, W, st, hfp, by simp; omega, CmpOf.ints_gt (fun i => (x0 :: r0).getD i 0) at_, fun v g tk pv kg => ?_⟩
    obtain ⟨t, rfl⟩ := at_ _ v pv
    cases e
    obtain ⟨h2, g2, d2, t2, o2⟩ := s2
    cases eo; cases eg; cases ed
    have es : us.toArray.size - 1 = r0.length := by simp; omega
    rw [es]
    exact ⟨.int _, H, I.kept fun b o e => kg b o (kp b o e).1 (kp b o e).2, ⟨t, rfl⟩, q o _ H .refl sr (.int _)⟩
  · cases e
theorem cs_max1 (hc : X.calm = true) (hu : X.A.units + 64 < cLine) : CallS X ct (.builtin "max") fMax1 := by
  intro pins s σ H vs us Q I rv ⟨o, S, ds, z, sr, rx, e, q⟩
  unfold fMax1 at e
  split at e
  · rename_i xs
    cases rx with
    | cons r1 r2 =>
      cases r2
      cases r1 with
      | lst hl nb hr =>
        obtain ⟨its, v1, p1, _⟩ := I.list (SqL.of hl)
        rw [Vals.ref1 rv]
        exact max_data hc I sr v1 hr e q (.inl p1.isList)
  · rename_i xs
    cases rx with
    | cons r1 r2 =>
      cases r2
      cases r1 with
      | tup ht hr =>
        obtain ⟨its, v1, p1, _⟩ := I.tuple ht
        rw [Vals.ref1 rv]
        exact max_data hc I sr v1 hr e q (.inr p1)
  · cases e
end
/-! ### what they give -/
theorem argBest_le (bt : Nat → Nat → Bool) : ∀ k, argBest bt k ≤ k
  | 0 => Nat.le_refl _
  | k + 1 => by
    have := argBest_le bt k
    unfold argBest
    split
    · exact Nat.le_refl _
    · exact Nat.le_succ_of_le this
/-- the first least place -/
def argMin (xs : List Int) : Nat := argBest (fun i j => decide (xs.getD i 0 < xs.getD j 0)) (xs.length - 1)
theorem argMin_lt (xs : List Int) (h : xs ≠ []) : argMin xs < xs.length := by
  have := argBest_le (fun i j => decide (xs.getD i 0 < xs.getD j 0)) (xs.length - 1)
  have : 0 < xs.length := List.length_pos_iff.mpr h
  unfold argMin
  omega
theorem argBest_min (f : Nat → Int) : ∀ k, (∀ i, i ≤ k → f (argBest (fun i j => decide (f i < f j)) k) ≤ f i) ∧ (∀ i, i < argBest (fun i j => decide (f i < f j)) k → f (argBest (fun i j => decide (f i < f j)) k) < f i)
  | 0 => ⟨fun i h => by rw [Nat.le_zero.mp h]; exact Int.le_refl _, fun i h => absurd h (Nat.not_lt_zero _)⟩
  | k + 1 => by
    obtain ⟨h1, h2⟩ := argBest_min f k
    have hle := argBest_le (fun i j => decide (f i < f j)) k
    have un : argBest (fun i j => decide (f i < f j)) (k + 1) = if decide (f (k + 1) < f (argBest (fun i j => decide (f i < f j)) k)) = true then k + 1 else argBest (fun i j => decide (f i < f j)) k := rfl
    rw [un]
    by_cases c : f (k + 1) < f (argBest (fun i j => decide (f i < f j)) k)
    · simp only [decide_eq_true c, if_true]
      refine ⟨fun i h => ?_, fun i h => ?_⟩
      · rcases Nat.lt_or_eq_of_le h with q | q
        · have := h1 i (by omega); omega
        · rw [q]; exact Int.le_refl _
      · have := h1 i (by omega); omega
    · simp only [decide_eq_false c, Bool.false_eq_true, if_false]
      refine ⟨fun i h => ?_, h2⟩
      rcases Nat.lt_or_eq_of_le h with q | q
      · exact h1 i (by omega)
      · rw [q]; omega
theorem argMin_le (xs : List Int) (i : Nat) (h : i < xs.length) : xs.getD (argMin xs) 0 ≤ xs.getD i 0 := (argBest_min (fun i => xs.getD i 0) _).1 i (by omega)
theorem argMin_first (xs : List Int) (i : Nat) (h : i < argMin xs) : xs.getD (argMin xs) 0 < xs.getD i 0 := (argBest_min (fun i => xs.getD i 0) _).2 i h
theorem argBest_congr {f g : Nat → Nat → Bool} : ∀ k, (∀ i j, i ≤ k → j ≤ k → f i j = g i j) → argBest f k = argBest g k
  | 0, _ => rfl
  | k + 1, h => by
    have e := argBest_congr k fun i j hi hj => h i j (by omega) (by omega)
    have l := argBest_le g k
    show (if f (k + 1) (argBest f k) = true then _ else _) = (if g (k + 1) (argBest g k) = true then _ else _)
    rw [e, h (k + 1) (argBest g k) (Nat.le_refl _) (by omega)]
theorem minOf_ints (xs : List Int) (h : xs ≠ []) : minOf (xs.map D.int) = some (.int (xs.getD (argMin xs) 0)) := by
  have hl := List.length_pos_iff.mpr h
  unfold minOf
  rw [if_pos ⟨by simpa using hl, by simp [D.cmp, D.ord]⟩, List.length_map]
  have e : argBest (fun i j => D.ltb ((xs.map D.int).getD i .non) ((xs.map D.int).getD j .non)) (xs.length - 1) = argMin xs := by
    refine argBest_congr _ fun i j hi hj => ?_
    have g : ∀ i, i ≤ xs.length - 1 → (xs.map D.int).getD i .non = .int (xs.getD i 0) := fun i hi => by
      rw [List.getD_eq_getElem?_getD, List.getD_eq_getElem?_getD, List.getElem?_map, List.getElem?_eq_getElem (by omega)]; rfl
    rw [g i hi, g j hj]
    rfl
  rw [e, List.getElem?_map, List.getD_eq_getElem?_getD, List.getElem?_eq_getElem (argMin_lt xs h)]
  rfl
end DL

end
section
set_option maxRecDepth 100000
set_option maxHeartbeats 4000000
/-! The data layer: int(t, 2) of bits, however many. -/
namespace DL
open PySem PySem.Spec PyProof.Rows L2
open PySem.NumText PySem.Calls
def IsBit (c : Nat) : Prop := c = 48 ∨ c = 49
def bitsNum (l : List Nat) : Nat := l.foldl (fun a c => a * 2 + (c - 48)) 0
namespace B2
theorem rng {c : Nat} (h : IsBit c) : 48 ≤ c ∧ c ≤ 49 := by unfold IsBit at h; omega
theorem digit {c : Nat} (h : IsBit c) : digit? c = some (c - 48) := digit_of (by have := rng h; omega)
theorem step {ds : Array Nat} {b : Bool} {c : Nat} (h : IsBit c) : PySem.NumText.step 2 (ds, b) c = some (ds.push (c - 48), true) := by
  have hr := rng h
  unfold PySem.NumText.step
  rw [if_neg (by rw [beq_iff_eq]; omega), digit h]
  exact if_pos (by omega)
theorem folded : ∀ (cs : List Nat) (ds : Array Nat), (∀ c ∈ cs, IsBit c) → cs.foldlM (PySem.NumText.step 2) (ds, true) = some (cs.foldl (fun a c => a.push (c - 48)) ds, true)
  | [], _, _ => rfl
  | c :: cs, ds, h => by
    rw [List.foldlM_cons, step (h c List.mem_cons_self)]
    exact folded cs (ds.push (c - 48)) fun d hd => h d (List.mem_cons_of_mem _ hd)
theorem digits {cs : List Nat} (h : ∀ c ∈ cs, IsBit c) (ne : cs ≠ []) : digits? 2 cs = some (cs.foldl (fun a c => a.push (c - 48)) #[]) := by
  cases cs with
  | nil => exact absurd rfl ne
  | cons c cs =>
    unfold digits?
    rw [List.foldlM_cons, step (h c List.mem_cons_self)]
    show (cs.foldlM (PySem.NumText.step 2) ((#[] : Array Nat).push (c - 48), true)).bind _ = _
    rw [folded cs _ fun d hd => h d (List.mem_cons_of_mem _ hd)]
    rfl
theorem summed : ∀ (cs : List Nat) (ds : Array Nat), (cs.foldl (fun a c => a.push (c - 48)) ds).foldl (fun a d => a * 2 + d) 0 = cs.foldl (fun a c => a * 2 + (c - 48)) (ds.foldl (fun a d => a * 2 + d) 0)
  | [], _ => rfl
  | c :: cs, ds => by
    rw [List.foldl_cons, summed cs (ds.push (c - 48)), List.foldl_cons]
    congr 1
    simp
theorem unblank {cs : List Nat} (h : ∀ c ∈ cs, IsBit c) : cs.dropWhile blank = cs := by
  cases cs with
  | nil => rfl
  | cons c cs => exact dropWhile_of (by have := rng (h c List.mem_cons_self); omega)
theorem unsigned {cs : List Nat} (h : ∀ c ∈ cs, IsBit c) : sign cs = (false, cs) := by
  cases cs with
  | nil => rfl
  | cons c cs =>
    have := rng (h c List.mem_cons_self)
    exact sign_of (by omega) (by omega)
theorem unbased {cs : List Nat} (h : ∀ c ∈ cs, IsBit c) : (int_private% "prefixBase?") cs = none := by
  match cs, h with
  | [], _ => rfl
  | [a], h =>
    have ha := rng (h a List.mem_cons_self)
    rcases (by omega : a = 48 ∨ a = 49) with e | e <;> subst e <;> rfl
  | a :: c :: r, h =>
    have ha := rng (h a List.mem_cons_self)
    have hc := rng (h c (List.mem_cons_of_mem _ List.mem_cons_self))
    rcases (by omega : a = 48 ∨ a = 49) with e | e <;> rcases (by omega : c = 48 ∨ c = 49) with f | f <;> subst e <;> subst f <;> rfl
theorem read {cs : List Nat} (L : Nat) (h : ∀ c ∈ cs, IsBit c) (ne : cs ≠ []) : (int_private% "readNumeral") L 2 cs = (int_private% "Numeral.value") ((bitsNum cs : Nat) : Int) := by
  have hr : ∀ c ∈ cs.reverse, IsBit c := fun c hc => h c (List.mem_reverse.mp hc)
  have hb : based 2 cs = (2, false, cs) := by
    unfold based
    have e := unbased h
    rw [prefix_eq] at e
    rw [e]
    rfl
  refine (readNumeral_eq L 2 cs).trans ?_
  rw [unblank h, unsigned h]
  show judge L false (based 2 cs).1 (based 2 cs).2.1 (digits? (based 2 cs).1 (((based 2 cs).2.2.reverse.dropWhile blank).reverse)) = _
  rw [hb]
  show judge L false 2 false (digits? 2 ((cs.reverse.dropWhile blank).reverse)) = _
  rw [unblank hr, List.reverse_reverse, digits h ne]
  show (int_private% "Numeral.value") (((cs.foldl (fun a c => a.push (c - 48)) (#[] : Array Nat)).foldl (fun a d => a * 2 + d) 0 : Nat) : Int) = _
  have z : (#[] : Array Nat).foldl (fun a d => a * 2 + d) 0 = 0 := by first | rfl | simp
  rw [summed, z] <;> rfl
theorem seen {x : Str} (h : ∀ c ∈ x.cps.toList, IsBit c) : numTextOf x = x.cps.toList ∧ numSeenOf x = x.cps.toList := by
  have e1 : numTextOf x = x.cps.toList := by
    refine if_pos ?_
    rw [← Array.all_toList, List.all_eq_true]
    intro c hc
    have := rng (h c hc)
    exact decide_eq_true (by omega)
  refine ⟨e1, ?_⟩
  show (numTextOf x).takeWhile _ = _
  rw [e1]
  refine takeWhile_all fun c hc => ?_
  have := rng (h c hc)
  exact bne_iff_ne.mpr (by omega)
/-- the limit of signs is not set -/
def NoDg (h : Heap) : Prop := ∃ K : PySem.W.Frag, K.In h ∧ PySem.W.nsIn K cStatics "sys.int_max_str_digits" = some none
theorem limit {M : Model} {A : Around} {E : Value → Shared → Prop} {s : Shared} {Q : Nat → Shared → Prop} (hn : NoDg s.heap) (h : ∀ n, Q n s) : wpAny M A Builtin.intMaxStrDigits Q E s := by
  obtain ⟨K, hk, e⟩ := hn
  unfold Builtin.intMaxStrDigits
  refine wpAny_bind ((PySem.W.looks_nsIn hk e).here ?_)
  exact wpAny_pure (h _)
theorem text {M : Model} {A : Around} {E : Value → Shared → Prop} {s : Shared} {Q : Value → Shared → Prop} {v : Value} {text : List Nat} {n : Int} (hn : (text.takeWhile (· != 0)).length ≤ 640 ∨ NoDg s.heap)
    (hr : ∀ L, (int_private% "readNumeral") L 2 (text.takeWhile (· != 0)) = (int_private% "Numeral.value") n)
    (ha : ((text.takeWhile (· != 0)).length == text.length) = true) (h : Q (.int n s.toks) { s with toks := s.toks + 1 }) :
    wpAny M A ((int_private% "intFromText") v text 2) Q E s := by
  by_cases hs : (text.takeWhile (· != 0)).length ≤ 640
  · obtain ⟨hp, g, d, tk, os⟩ := s
    repeat (any_goals (first
      | assumption
      | (with_reducible refine wpAny_ite_true (decide_eq_true hs) ?_)
      | (with_reducible refine wpAny_ite_true (decide_eq_true ha) ?_)
      | wp_step))
    all_goals (try rw [hr])
    all_goals (try dsimp only)
    repeat (any_goals (first
      | assumption
      | (with_reducible refine wpAny_ite_true (decide_eq_true ha) ?_)
      | wp_step))
  · obtain ⟨hp, g, d, tk, os⟩ := s
    repeat (any_goals (first
      | assumption
      | (with_reducible refine wpAny_ite_false (decide_eq_false hs) ?_)
      | ((with_reducible show wpAny _ _ Builtin.intMaxStrDigits _ _ _); refine limit (hn.resolve_left hs) fun L => ?_)
      | wp_step))
    all_goals (try rw [hr])
    all_goals (try dsimp only)
    repeat (any_goals (first
      | assumption
      | (with_reducible refine wpAny_ite_true (decide_eq_true ha) ?_)
      | wp_step))
structure Kept (p : Prop) : Prop where
  out : p
theorem made {x : PySem.Str} {u t : Tok} (h : ∀ c ∈ x.cps.toList, IsBit c) (ne : x.cps.toList ≠ []) :
    Meets (Builtin.«int.__new__» ⟨[.type "int", .str x u, .int 2 t], []⟩) (fun _ R s => (x.cps.toList.length ≤ 640 ∨ NoDg s.heap) ∧ R (.ok (.ret (.int ((bitsNum x.cps.toList : Nat) : Int) s.toks))) { s with toks := s.toks + 1 }) :=
  .of_wp fun prog w A R s hq => by
    obtain ⟨hn, hq⟩ := hq
    obtain ⟨hp, g, d, tk, os⟩ := s
    have f1 := PySem.F.conv_sub_int
    have f2 := PySem.F.madeHere_int
    have f6 : typeOf (.str x u) = pure (.type "str") := rfl
    obtain ⟨e1, e2⟩ := seen h
    have hr : ∀ L, (int_private% "readNumeral") L 2 (numSeenOf x) = (int_private% "Numeral.value") ((bitsNum x.cps.toList : Nat) : Int) := fun L => by
      rw [e2]
      exact read L h ne
    have ha : ((numSeenOf x).length == (numTextOf x).length) = true := by
      rw [e1, e2]
      exact beq_self_eq_true _
    have hn : (numSeenOf x).length ≤ 640 ∨ NoDg hp := by rw [e2]; exact hn
    have hk := Kept.mk (And.intro hn (And.intro hr ha))
    clear hn hr ha e1 e2 ne h
    repeat (any_goals (first
      | assumption
      | ((with_reducible show wpAny _ _ ((int_private% "intFromText") _ _ _) _ _ _); refine text hk.out.1 hk.out.2.1 hk.out.2.2 ?_)
      | wp_step))
    all_goals first | exact ⟨_, rfl, hq⟩ | skip
theorem call2 {prog : Program} {w : World} {A : Around} {E : Value → Shared → Prop} {s : Shared} {Q : Value → Shared → Prop} {x : PySem.Str} {u t : Tok} (hl : x.cps.toList.length ≤ 640 ∨ NoDg s.heap) (h : ∀ c ∈ x.cps.toList, IsBit c) (ne : x.cps.toList ≠ [])
    (q : Q (.int ((bitsNum x.cps.toList : Nat) : Int) s.toks) { s with toks := s.toks + 1 }) : wpAny (model prog w) A (call (.type "int") [.str x u, .int 2 t]) Q E s :=
  callType_new PySem.F.called_int PySem.F.newNe_int (Hx.typeCall_int_2 _ _) (Hx.newCall_int_2 _ _) (fun obj => PySem.F.initArgs_range_2 obj _ _) PySem.F.entry_int_new (made h ne) ⟨hl, rfl, q⟩
end B2
theorem int2_raw {X : Cx} {pins : List (Addr × Obj)} {s : Shared} {σ : L2.St} {H : Hp} {us : List Value} {l : List Nat} {Q : VK} (I : Inv X pins σ H s) (r : Vals [.str ⟨l.toArray⟩, .int 2] us) (ne : l ≠ []) (hl : l.length ≤ 640 ∨ B2.NoDg s.heap) (hx : ∀ c ∈ l, IsBit c) (q : Q (.int ((bitsNum l : Nat) : Int)) H) :
    wpAny (model X.prog X.w) X.A (call (.type "int") us) (fun v s' => ∃ v' H', Inv X pins σ H' s' ∧ RelV v' v ∧ Q v' H') X.xe s := by
  obtain ⟨u, w', rfl, r1, r2⟩ := vals2 r
  obtain ⟨t1, rfl⟩ := r1
  obtain ⟨t2, rfl⟩ := r2
  exact B2.call2 (x := ⟨l.toArray⟩) (by simpa using hl) (by simpa using hx) (by simpa using ne) ⟨.int ((bitsNum l : Nat) : Int), H, I.tok _, ⟨s.toks, rfl⟩, q⟩
end DL

end
section
set_option maxRecDepth 100000
set_option maxHeartbeats 2000000
/-! The data layer: x.index(k) of a tuple, a list of ints. -/
namespace DL
open PySem PySem.Spec PyProof.Rows L2
def idxOf (k : Int) : List Int → Option Nat
  | [] => none
  | x :: r => if x = k then some 0 else (idxOf k r).map (· + 1)
theorem idxOf_some {k : Int} : ∀ {ns : List Int} {j : Nat}, idxOf k ns = some j → ns[j]? = some k ∧ ∀ m, m < j → ns[m]? ≠ some k
  | [], _, h => by cases h
  | x :: r, j, h => by
    unfold idxOf at h
    by_cases e : x = k
    · rw [if_pos e] at h
      cases h
      exact ⟨by rw [e]; rfl, fun m hm => absurd hm (Nat.not_lt_zero _)⟩
    · rw [if_neg e] at h
      cases q : idxOf k r with
      | none => rw [q] at h; cases h
      | some i =>
        rw [q] at h
        cases h
        obtain ⟨h1, h2⟩ := idxOf_some q
        refine ⟨h1, fun m hm => ?_⟩
        cases m with
        | zero => intro z; cases z; exact e rfl
        | succ m => exact h2 m (Nat.lt_of_succ_lt_succ hm)
theorem idxOf_of {k : Int} : ∀ {ns : List Int} {j : Nat}, ns[j]? = some k → (∀ m, m < j → ns[m]? ≠ some k) → idxOf k ns = some j
  | [], _, h, _ => by simp at h
  | x :: r, 0, h, _ => by
    unfold idxOf
    rw [if_pos (by simpa using h)]
  | x :: r, j + 1, h, h2 => by
    unfold idxOf
    have n0 : x ≠ k := fun e => h2 0 (Nat.zero_lt_succ _) (by rw [e]; rfl)
    rw [if_neg n0, idxOf_of (ns := r) (j := j) (by simpa using h) fun m hm => by simpa using h2 (m + 1) (Nat.succ_lt_succ hm)]
    rfl
def fIndex (x y : D) : Option D := match x, y with
  | .lst ds, .int k => match D.ints ds with
    | some ns => if ns.length ≤ 16777216 then (idxOf k ns).map fun j => .int (j : Nat) else none
    | none => none
  | _, _ => none
def isI (k : Int) : Value → Bool
  | .int i _ => i == k
  | _ => false
section
variable {X : Cx} {ct : CT} {W : Wish}
theorem mt_tup_indexI : MtR X "tuple.index" (fun x xs H Q => ∃ p, ∃ ns : List Int, ∃ k j, x = .ref p ∧ xs = [.int k] ∧ SqT X.K H p (ns.map V.int) ∧ idxOf k ns = some j ∧ Q (.int (j : Nat)) H) := by
  intro pins s σ H x xs v us Q I rx rs h
  obtain ⟨p, ns, k, j, rfl, rfl, hq, hy, q⟩ := h
  obtain ⟨h1, h2⟩ := idxOf_some hy
  cases rx
  obtain ⟨u, rfl, t, rfl⟩ := vals1 rs
  obtain ⟨its, r, pl, hz⟩ := I.tuple hq
  obtain ⟨⟨cls, dd, dt, sl⟩, ho, hc, n, hd⟩ := pl
  simp only at hc hd
  subst hc
  subst hd
  have nl : its.toArray.size = ns.length := by rw [List.size_toArray, ← r.length, List.length_map]
  have jl : j < its.toArray.size := by rw [nl]; exact (List.getElem?_eq_some_iff.mp h1).1
  have item : ∀ (m : Nat) (hm : m < its.toArray.size), ∃ (hn : m < ns.length) (t' : Tok), its.toArray[m] = Value.int ns[m] t' := fun m hm => by
    have hn : m < ns.length := by rw [← nl]; exact hm
    obtain ⟨w, hw, t', hw'⟩ := r.get (i := m) (x := .int ns[m]) (by simp [hn])
    refine ⟨hn, t', ?_⟩
    have e := (List.getElem?_eq_some_iff.mp hw).2
    rw [← hw', ← e]
    simp
  refine call_meets PySem.F.slot_tuple_index ⟨_, ho, rfl⟩ PySem.F.entry_tuple_index (PySem.F.args_tuple_index_2 _ _) (TI.tuple_indexAt p its.toArray n dd sl (.int k t) (isI k) j jl ?_ ?_)
    ⟨ho, fun w hw => ?_, ⟨.int (j : Nat), H, I.tok _, ⟨_, rfl⟩, q⟩⟩
  · obtain ⟨hn, t', e⟩ := item j jl
    rw [e]
    rw [List.getElem?_eq_getElem hn] at h1
    cases h1
    show (ns[j] == ns[j]) = true
    exact beq_self_eq_true _
  · intro m hm hmj
    obtain ⟨hn, t', e⟩ := item m hm
    rw [e]
    have := h2 m hmj
    rw [List.getElem?_eq_getElem hn] at this
    show (ns[m] == k) = false
    exact beq_eq_false_iff_ne.mpr fun z => this (by rw [z])
  · obtain ⟨m, hm, rfl⟩ := Array.mem_iff_getElem.mp hw
    obtain ⟨hn, t', e⟩ := item m hm
    rw [e]
    exact SeqAt.EqAt.int_int _ _ _ _
def eindex (a b : Ex) : Ex := fun G S => (a G S).bind fun x S1 => match x with
  | .lst ds => (b G S1).bind fun y S2 => match fIndex (.lst ds) y with
    | some z => .ok z S2
    | none => .bad
  | _ => .bad
@[simp] theorem ev_eindex {a b : Ex} {G : Env} {S : Store} : eindex a b G S = (a G S).bind fun x S1 => match x with | .lst ds => (b G S1).bind fun y S2 => (match fIndex (.lst ds) y with | some z => .ok z S2 | none => .bad) | _ => .bad := (rfl)
theorem PE.or {e : Expr} {t1 t2 t : TE} (h1 : PE X e t1) (h2 : PE X e t2) (h : ∀ σ H Q, t σ H Q → t1 σ H Q ∨ t2 σ H Q) : PE X e t := ⟨fun pins s σ H Q I w => (h σ H Q w).elim (h1.run pins s σ H Q I) (h2.run pins s σ H Q I)⟩
theorem pd_index {a b : Expr} {ta tb : Ex} {apos cpos : Pos} (ha : PD X ct W a ta) (hb : PD X ct W b tb)
    (hbase : attributeBase a "index" X.env (eval a X.env) = eval a X.env := by rfl)
    (hfew : ((backTo cpos (starEach [b] X.env)).all (fun x => !x.1) && (backToKw cpos (keywordEach [] X.env)).all (fun x => x.1.isSome)
      && decide (([b] : List Expr).length + ([] : List Keyword).length + (if ([] : List Keyword).isEmpty then 0 else 1) < 30)) = true := by rfl)
    (hline : (apos.endLine == cpos.line) = true := by rfl) (hs : starEach [b] X.env = (false, eval b X.env) :: starEach [] X.env := by rfl) (hpl : (backTo cpos (starEach [] X.env)).any (·.1) = false := by rfl) :
    PD X ct W (.Call (.Attribute a "index" apos) [b] [] cpos) (eindex ta tb) :=
  PE.wk (pe_bm PySem.F.plainAttrs_list PySem.F.slot_list_index PySem.F.type_list_index mt_index ha (pa_cons hb pa_nil hs) hbase hfew hline hs hpl) fun σ H Q ⟨o, G, S, er, h⟩ => by
    refine go er h fun o1 S1 H1 v x x1 er1 r1 h1 => ?_
    cases x with
    | lst ds =>
      cases r1 with
      | lst hl nb hr =>
        refine ⟨.inl ⟨rfl, _, SqL.of hl⟩, go er1 h1 fun o2 S2 H2 w y x2 er2 r2 h2 => ?_⟩
        cases y with
        | int k =>
          cases r2
          have h2 : Res X.K ct W o2 H2 (match fIndex (.lst ds) (.int k) with | some z => .ok z S2 | none => .bad) (After X.K ct o2 H2 Q) := h2
          cases en : D.ints ds with
          | none =>
            have e : fIndex (.lst ds) (.int k) = none := by unfold fIndex; dsimp only; rw [en]
            rw [e] at h2
            exact h2.elim
          | some ns =>
            have := ints_inv _ _ en
            subst this
            cases q : idxOf k ns with
            | none =>
              have e : fIndex (.lst (ns.map D.int)) (.int k) = none := by unfold fIndex; dsimp only; rw [en]; dsimp only; rw [q]; split <;> rfl
              rw [e] at h2
              exact h2.elim
            | some j =>
              by_cases hz : ns.length ≤ 16777216
              · have e : fIndex (.lst (ns.map D.int)) (.int k) = some (.int (j : Nat)) := by unfold fIndex; dsimp only; rw [en]; dsimp only; rw [q, if_pos hz]; rfl
                rw [e] at h2
                obtain ⟨p1, p2⟩ := idxOf_some q
                have hv : H2 _ = some (.lst _) := (x2.mono er1.s).h _ _ nb hl
                rw [hr.ints] at hv
                refine ⟨_, _, .int k, j, .int k, rfl, rfl, SqL.of hv, rfl, by rw [List.all_map]; exact List.all_eq_true.mpr fun _ _ => rfl, by rw [List.getElem?_map, p1]; rfl, by simp [eqV], fun m z' hm hz => ?_, h2 o2 _ H2 .refl er2.s (.int _)⟩
                rw [List.getElem?_map] at hz
                cases hm' : ns[m]? with
                | none => rw [hm'] at hz; cases hz
                | some u =>
                  rw [hm'] at hz
                  cases hz
                  have : u ≠ k := fun z => p2 m hm (by rw [hm', z])
                  simp [eqV, this]
              · have e : fIndex (.lst (ns.map D.int)) (.int k) = none := by unfold fIndex; dsimp only; rw [en]; dsimp only; rw [if_neg hz]
                rw [e] at h2
                exact h2.elim
        | _ =>
          have h2 : Res X.K ct W o2 H2 (.bad) (After X.K ct o2 H2 Q) := h2
          exact h2.elim
    | _ => exact h1.elim
end
end DL

end
section
set_option maxRecDepth 100000
set_option maxHeartbeats 2000000
/-! The data layer: texts: int, join, rstrip. -/
namespace DL
open PySem PySem.Spec PyProof.Rows L2
def isBits (l : List Nat) : Bool := l.all fun c => c == 48 || c == 49
/-- int(x), int(x, 2) -/
def fInt : List D → Option D
  | [.int i] => some (.int i)
  | [.bl k] => some (.int (if k then 1 else 0))
  | [.str l] => if l = [48] then some (.int 0) else if l = [49] then some (.int 1) else none
  | [.str l, .int b] => if b = 2 ∧ l ≠ [] ∧ l.length ≤ 640 ∧ isBits l = true then some (.int (bitsNum l : Nat)) else none
  | _ => none
@[simp] theorem ev_intI {i : Int} : fInt [.int i] = some (.int i) := (rfl)
@[simp] theorem ev_intB {k : Bool} : fInt [.bl k] = some (.int (if k then 1 else 0)) := (rfl)
section
variable {X : Cx} {ct : CT} {W : Wish}
theorem cs_int : CallS X ct (.type "int") fInt := by
  intro pins s σ H vs us Q I rv ⟨o, S, ds, z, sr, rx, e, q⟩
  unfold fInt at e
  split at e
  · cases e
    cases rx with | cons r1 r2 =>
    cases r2
    cases r1
    exact call_int1 pins s σ H _ us Q I rv (.inl ⟨_, rfl, q o _ H .refl sr (.int _)⟩)
  · cases e
    cases rx with | cons r1 r2 =>
    cases r2
    cases r1
    exact call_int1 pins s σ H _ us Q I rv (.inr ⟨_, rfl, q o _ H .refl sr (.int _)⟩)
  · rename_i l
    cases rx with | cons r1 r2 =>
    cases r2
    cases r1
    split at e
    · rename_i hl
      subst hl
      cases e
      exact call_int_str pins s σ H _ us Q I rv ⟨_, 0, rfl, by decide +kernel, by decide, q o _ H .refl sr (.int _)⟩
    · split at e
      · rename_i hl
        subst hl
        cases e
        exact call_int_str pins s σ H _ us Q I rv ⟨_, 1, rfl, by decide +kernel, by decide, q o _ H .refl sr (.int _)⟩
      · cases e
  · rename_i l b
    split at e
    · rename_i hz
      obtain ⟨rfl, h1, h2, h3⟩ := hz
      cases e
      cases rx with | cons r1 r2 =>
      cases r2 with | cons r2 r3 =>
      cases r3
      cases r1
      cases r2
      refine int2_raw I rv h1 (.inl h2) (fun c hc => ?_) (q o _ H .refl sr (.int _))
      have := List.all_eq_true.mp h3 c hc
      simpa [IsBit] using this
    · cases e
  · cases e
/-- int(x, 2) of any length, where the limit of signs is not set -/
def fIntD : List D → Option D
  | [.str l, .int b] => if b = 2 ∧ l ≠ [] ∧ isBits l = true then some (.int (bitsNum l : Nat)) else none
  | _ => none
abbrev DG (K : PySem.W.Frag) : Prop := PySem.W.nsIn K cStatics "sys.int_max_str_digits" = some none
theorem cs_intD (hd : DG X.K) : CallS X ct (.type "int") fIntD := by
  intro pins s σ H vs us Q I rv ⟨o, S, ds, z, sr, rx, e, q⟩
  unfold fIntD at e
  split at e
  · rename_i l b
    split at e
    · rename_i hz
      obtain ⟨rfl, h1, h3⟩ := hz
      cases e
      cases rx with | cons r1 r2 =>
      cases r2 with | cons r2 r3 =>
      cases r3
      cases r1
      cases r2
      refine int2_raw I rv h1 (.inr ⟨X.K, I.kIn, hd⟩) (fun c hc => ?_) (q o _ H .refl sr (.int _))
      have := List.all_eq_true.mp h3 c hc
      simpa [IsBit] using this
    · cases e
  · cases e
theorem strs_eq : ∀ {ds : List D} {ts : List (List Nat)}, D.strs ds = some ts → ds = ts.map D.str
  | [], ts, h => by cases h; rfl
  | .str i :: r, ts, h => by
    have h : (D.strs r).map (i :: ·) = some ts := h
    cases e : D.strs r with
    | none => rw [e] at h; cases h
    | some q =>
      rw [e] at h
      cases h
      rw [strs_eq e]
      rfl
theorem RepL.strs2 {K : PySem.W.Frag} {o : Om} {H : Hp} : ∀ {vs : List V} {ts : List (List Nat)}, RepL K o H vs (ts.map D.str) → vs = (ts.map fun t => (⟨t.toArray⟩ : Str)).map V.str
  | vs, [], h => by cases h; rfl
  | vs, n :: ns, h => by
    cases h with
    | cons a b =>
      cases a
      rw [List.map_cons, List.map_cons, RepL.strs2 b]
theorem joined_eq (s : List Nat) (ts : List (List Nat)) : Txt.join (⟨s.toArray⟩ : Str) (ts.map fun t => (⟨t.toArray⟩ : Str)) = ⟨(joinL s ts).toArray⟩ := by
  refine TL.ext_tl ?_
  rw [TL.join_eq, TL.tl_join]
  have e2 : (ts.map fun t => (⟨t.toArray⟩ : Str)).map TL.tl = ts := by
    rw [List.map_map]
    have : (TL.tl ∘ fun t : List Nat => (⟨t.toArray⟩ : Str)) = id := funext fun t => by simp [TL.tl]
    rw [this, List.map_id]
  rw [e2]
  have e3 : ∀ ts : List (List Nat), TL.joinL s ts = joinL s ts := fun ts => by
    induction ts with
    | nil => rfl
    | cons a r ih =>
      cases r with
      | nil => rfl
      | cons b q =>
        show a ++ (s ++ TL.joinL s (b :: q)) = a ++ s ++ joinL s (b :: q)
        rw [ih, List.append_assoc]
  show TL.joinL s ts = (joinL s ts).toArray.toList
  rw [e3]
/-- a method of a text, with one thing -/
def rSm (K : PySem.W.Frag) (ct : CT) (f : List Nat → D → Option D) : V → List V → Hp → VK → Prop := fun x xs H Q => ∃ o S s y z v, x = .str ⟨s.toArray⟩ ∧ xs = [v] ∧ SRel K ct o S H ∧ Rep K o H v y ∧ f s y = some z ∧ After K ct o H Q z S
def esm (f : List Nat → D → Option D) (a b : Ex) : Ex := fun G S => (a G S).bind fun x S1 => match x with
  | .str s => (b G S1).bind fun y S2 => match f s y with
    | some z => .ok z S2
    | none => .bad
  | _ => .bad
@[simp] theorem ev_esm {f : List Nat → D → Option D} {a b : Ex} {G : Env} {S : Store} : esm f a b G S = (a G S).bind fun x S1 => match x with | .str s => (b G S1).bind fun y S2 => (match f s y with | some z => .ok z S2 | none => .bad) | _ => .bad := (rfl)
theorem pd_sm {a b : Expr} {ta tb : Ex} {apos cpos : Pos} {id : String} {name : Str} {f : List Nat → D → Option D} (slot : PySem.Slot "str" name id) (hty : typeOf (.builtin id) = pure (.type "method_descriptor")) (hm : MtR X id (rSm X.K ct f)) (ha : PD X ct W a ta) (hb : PD X ct W b tb)
    (hbase : attributeBase a name X.env (eval a X.env) = eval a X.env := by rfl)
    (hfew : ((backTo cpos (starEach [b] X.env)).all (fun x => !x.1) && (backToKw cpos (keywordEach [] X.env)).all (fun x => x.1.isSome)
      && decide (([b] : List Expr).length + ([] : List Keyword).length + (if ([] : List Keyword).isEmpty then 0 else 1) < 30)) = true := by rfl)
    (hline : (apos.endLine == cpos.line) = true := by rfl) (hs : starEach [b] X.env = (false, eval b X.env) :: starEach [] X.env := by rfl) (hpl : (backTo cpos (starEach [] X.env)).any (·.1) = false := by rfl) :
    PD X ct W (.Call (.Attribute a name apos) [b] [] cpos) (esm f ta tb) :=
  PE.wk (pe_bm PySem.F.plainAttrs_str slot hty hm ha (pa_cons hb pa_nil hs) hbase hfew hline hs hpl) fun σ H Q ⟨o, G, S, er, h⟩ => by
    refine go er h fun o1 S1 H1 v x x1 er1 r1 h1 => ?_
    cases x with
    | str s =>
      cases r1
      refine ⟨rfl, go er1 h1 fun o2 S2 H2 w y x2 er2 r2 h2 => ?_⟩
      cases e : f s y with
      | none => rw [e] at h2; exact h2.elim
      | some z =>
        rw [e] at h2
        exact ⟨o2, S2, s, y, z, w, rfl, rfl, er2.s, r2, e, h2⟩
    | _ => exact h1.elim
/-- sep.join(xs) -/
def fJoin (s : List Nat) (y : D) : Option D := match y with
  | .lst ys => match D.strs ys with
    | some ts => if (ts.map List.length).sum + ts.length * s.length ≤ 16777216 then some (.str (joinL s ts)) else none
    | none => none
  | .tup ys => match D.strs ys with
    | some ts => if (ts.map List.length).sum + ts.length * s.length ≤ 16777216 then some (.str (joinL s ts)) else none
    | none => none
  | _ => none
theorem lens_eq (ts : List (List Nat)) : (ts.map fun t => (⟨t.toArray⟩ : Str)).map (·.length) = ts.map List.length := by
  rw [List.map_map]
  exact List.map_congr_left fun t _ => str_len t
theorem mt_joinS : MtR X "str.join" (rSm X.K ct fJoin) := by
  intro pins s0 σ H x xs v us Q I rx rs ⟨o, S, s, y, z, w, ex, exs, sr, rw, e, q⟩
  subst ex exs
  unfold fJoin at e
  split at e
  · rename_i ys
    split at e
    · rename_i ts et
      split at e
      · rename_i hz
        cases e
        have := strs_eq et
        subst this
        cases rw with
        | lst hl nb hr =>
          rw [hr.strs2] at hl
          exact mt_join pins s0 σ H _ _ v us Q I rx rs ⟨_, _, _, rfl, rfl, .inl (SqL.of hl), by rw [List.length_map, str_len, lens_eq]; exact hz, by rw [joined_eq]; exact q o _ H .refl sr (.str _)⟩
      · cases e
    · cases e
  · rename_i ys
    split at e
    · rename_i ts et
      split at e
      · rename_i hz
        cases e
        have := strs_eq et
        subst this
        cases rw with
        | tup hl hr =>
          rw [hr.strs2] at hl
          exact mt_join pins s0 σ H _ _ v us Q I rx rs ⟨_, _, _, rfl, rfl, .inr hl, by rw [List.length_map, str_len, lens_eq]; exact hz, by rw [joined_eq]; exact q o _ H .refl sr (.str _)⟩
      · cases e
    · cases e
  · cases e
/-- t.rstrip(k) of one sign k -/
def fRstrip (s : List Nat) (y : D) : Option D := match y with
  | .str [c] => if s.length ≤ 16777216 then some (.str ((s.reverse.dropWhile (· == c)).reverse)) else none
  | _ => none
theorem dropWhile_drop {p : Nat → Bool} : ∀ l : List Nat, l.dropWhile p = l.drop (l.takeWhile p).length
  | [] => rfl
  | x :: r => by
    rw [List.dropWhile_cons, List.takeWhile_cons]
    cases p x with
    | true => simpa using dropWhile_drop r
    | false => rfl
theorem rstrip_eq (s : List Nat) (c : Nat) : Txt.rstripChars (⟨s.toArray⟩ : Str) ⟨[c].toArray⟩ = ⟨((s.reverse.dropWhile (· == c)).reverse).toArray⟩ := by
  have hp : (#[c] : Array Nat).contains = (· == c) := funext fun x => by simp [eq_comm, Bool.beq_eq_decide_eq]
  have e0 : (s.reverse.dropWhile (· == c)).reverse = s.take (s.length - (s.reverse.takeWhile (· == c)).length) := by
    rw [dropWhile_drop, List.drop_reverse, List.reverse_reverse]
  have hi : PySem.stripHi (· == c) true (⟨s.toArray⟩ : Str) 0 = s.length - (s.reverse.takeWhile (· == c)).length := by
    unfold PySem.stripHi
    rw [if_pos rfl, str_len]
    rfl
  have lo : PySem.stripLo (· == c) false (⟨s.toArray⟩ : Str) = 0 := rfl
  rw [e0]
  show Txt.stripBy (#[c] : Array Nat).contains false true (⟨s.toArray⟩ : Str) = _
  rw [hp]
  unfold Txt.stripBy
  split
  · rename_i h
    unfold PySem.stripSame at h
    rw [lo, hi, str_len, Bool.and_eq_true, beq_iff_eq, beq_iff_eq] at h
    rw [h.2, List.take_length]
  · unfold PySem.stripped
    rw [lo, hi]
    refine TL.ext_tl ?_
    show ((s.toArray.extract 0 _).toList) = _
    simp
theorem mt_rstripS : MtR X "str.rstrip" (rSm X.K ct fRstrip) := by
  intro pins s0 σ H x xs v us Q I rx rs ⟨o, S, s, y, z, w, ex, exs, sr, rw, e, q⟩
  subst ex exs
  unfold fRstrip at e
  split at e
  · rename_i c
    split at e
    · rename_i hz
      cases e
      cases rw
      exact mt_rstripChars pins s0 σ H _ _ v us Q I rx rs ⟨_, _, rfl, rfl, by rw [str_len, sizeLine_eq]; exact hz, by rw [rstrip_eq]; exact q o _ H .refl sr (.str _)⟩
    · cases e
  · cases e
end
end DL

end
section
set_option maxRecDepth 100000
set_option maxHeartbeats 2000000
/-! The data layer: a, b = [..], e and a, b = e, [..], the list being of one's own; what is never reached. -/
namespace DL
open PySem PySem.Spec PyProof.Rows L2
def sbad : St := fun _ _ => .bad
section
variable {X : Cx} {ct : CT} {st : Stmt} {pos px py pt pt2 : Pos} {kt k2 : Nat} {x y : Str} {ea eb : Expr} {ta tb : Ex} {i j : Nat}
theorem psd_bad : PSD X ct st sbad := fun A => ⟨fun pins s σ H D I ⟨o, lo, G, S, r, q⟩ => q.elim⟩
def sparO (i j : Nat) (ta tb : Ex) : St := fun G S => match ta G S with
  | .ok (.lst ds) S1 => match tb G S1 with
    | .ok d S2 => if i < G.length ∧ D.flats ds = true ∧ d.flat = true ∧ Store.flat S2 = true then .nx ((G.set i (.own ds)).set j (.val d)) S2 else .bad
    | _ => .bad
  | _ => .bad
@[simp] theorem ev_sparO {G : Env} {S : Store} : sparO i j ta tb G S = match ta G S with | .ok (.lst ds) S1 => (match tb G S1 with | .ok d S2 => if i < G.length ∧ D.flats ds = true ∧ d.flat = true ∧ Store.flat S2 = true then .nx ((G.set i (.own ds)).set j (.val d)) S2 else .bad | _ => .bad) | _ => .bad := (rfl)
theorem psd_parO (ha : PMf X ct ea ta) (hb : PM X ct eb tb) (hc : X.calm = true) (hN : X.N.Nodup) (hi : X.N[i]? = some x) (hj : X.N[j]? = some y) (hij : i ≠ j)
    (hx : X.env.scope.names.lookup x = some .local) (hy : X.env.scope.names.lookup y = some .local)
    (h1 : starEach [ea, eb] X.env = (false, eval ea X.env) :: starEach [eb] X.env) (h2 : starEach [eb] X.env = (false, eval eb X.env) :: starEach [] X.env)
    (hw : swappedStores [.Tuple [.Name x px, .Name y py] kt pt] (.Tuple [ea, eb] k2 pt2) X.env = pure (some [x, y]))
    (hs : swapsWithSole [.Tuple [.Name x px, .Name y py] kt pt] (.Tuple [ea, eb] k2 pt2) pos.line X.env = pure false) : PSD X ct (.Assign [.Tuple [.Name x px, .Name y py] kt pt] (.Tuple [ea, eb] k2 pt2) pos) (sparO i j ta tb) := fun A =>
  PS.wk (ps_par hc hN hi hj hij hx hy (pa_cons (ha A) (pa_cons (hb A) pa_nil h2) h1) hw hs) fun D σ H ⟨o, lo, G, S, r, q⟩ => by
    refine ⟨o, lo, G, S, r, ?_⟩
    unfold sparO at q
    cases ev : ta G S with
    | ok d1 S1 =>
      rw [ev] at q
      cases d1 with
      | lst ds =>
        dsimp only at q
        cases ev2 : tb G S1 with
        | ok d S2 =>
          rw [ev2] at q
          dsimp only at q
          split at q
          · rename_i hz
            obtain ⟨z1, z2, z3, z4⟩ := hz
            refine ⟨ds, rfl, z2, fun o1 l vs H1 T hn hl nb rl => ?_⟩
            refine ⟨o1, lo, G, S1, T.r, ?_⟩
            rw [ev2]
            intro o2 v H2 T2 rv
            refine ⟨_, _, rfl, ?_⟩
            have hl2 := T2.m.h _ _ nb hl
            have nb2 := T2.m.b l vs (.of hl) nb
            obtain ⟨r3, m3⟩ := StRel.own r T2.r (T.m.trans T2.m) (fun a b u p z => T2.k a b u p (T.k a b u p z)) z1 hl2 hn nb2 (rl.mono T2.m) z2 z4
            exact q o2 ((lo.ad i l).rm j) _ H2 (r3.set (rv.flat z3)) (m3.trans (StRel.rmMono j))
          · exact q.elim
        | exc e S2 => rw [ev2] at q; exact q.elim
        | bad => rw [ev2] at q; exact q.elim
      | _ => exact q.elim
    | exc e S1 => rw [ev] at q; exact q.elim
    | bad => rw [ev] at q; exact q.elim
def sparP (i j : Nat) (ta tb : Ex) : St := fun G S => match ta G S with
  | .ok d S1 => match tb G S1 with
    | .ok (.lst ds) S2 => if j < G.length ∧ D.flats ds = true ∧ d.flat = true ∧ Store.flat S2 = true then .nx ((G.set i (.val d)).set j (.own ds)) S2 else .bad
    | _ => .bad
  | _ => .bad
@[simp] theorem ev_sparP {G : Env} {S : Store} : sparP i j ta tb G S = match ta G S with | .ok d S1 => (match tb G S1 with | .ok (.lst ds) S2 => if j < G.length ∧ D.flats ds = true ∧ d.flat = true ∧ Store.flat S2 = true then .nx ((G.set i (.val d)).set j (.own ds)) S2 else .bad | _ => .bad) | _ => .bad := (rfl)
theorem psd_parP (ha : PM X ct ea ta) (hb : PMf X ct eb tb) (hc : X.calm = true) (hN : X.N.Nodup) (hi : X.N[i]? = some x) (hj : X.N[j]? = some y) (hij : i ≠ j)
    (hx : X.env.scope.names.lookup x = some .local) (hy : X.env.scope.names.lookup y = some .local)
    (h1 : starEach [ea, eb] X.env = (false, eval ea X.env) :: starEach [eb] X.env) (h2 : starEach [eb] X.env = (false, eval eb X.env) :: starEach [] X.env)
    (hw : swappedStores [.Tuple [.Name x px, .Name y py] kt pt] (.Tuple [ea, eb] k2 pt2) X.env = pure (some [x, y]))
    (hs : swapsWithSole [.Tuple [.Name x px, .Name y py] kt pt] (.Tuple [ea, eb] k2 pt2) pos.line X.env = pure false) : PSD X ct (.Assign [.Tuple [.Name x px, .Name y py] kt pt] (.Tuple [ea, eb] k2 pt2) pos) (sparP i j ta tb) := fun A =>
  PS.wk (ps_par hc hN hi hj hij hx hy (pa_cons (ha A) (pa_cons (hb A) pa_nil h2) h1) hw hs) fun D σ H ⟨o, lo, G, S, r, q⟩ => by
    refine ⟨o, lo, G, S, r, ?_⟩
    unfold sparP at q
    cases ev : ta G S with
    | ok d S1 =>
      rw [ev] at q
      dsimp only at q
      cases ev2 : tb G S1 with
      | ok d2 S2 =>
        rw [ev2] at q
        cases d2 with
        | lst ds =>
          dsimp only at q
          split at q
          · rename_i hz
            obtain ⟨z1, z2, z3, z4⟩ := hz
            intro o1 v H1 T rv
            refine ⟨o1, lo, G, S1, T.r, ?_⟩
            rw [ev2]
            refine ⟨ds, rfl, z2, fun o2 l vs H2 T2 hn hl nb rl => ⟨_, _, rfl, ?_⟩⟩
            obtain ⟨r3, m3⟩ := StRel.own T.r T2.r T2.m T2.k z1 hl hn nb rl z2 z4
            have rv2 : Rep X.K (o2.wi ((lo.ad j l).rm i)) H2 v d := (rv.mono T2.m).flat z3
            have r4 := r3.set (i := i) rv2
            have e1 : ((G.set j (.own ds)).set i (.val d)) = ((G.set i (.val d)).set j (.own ds)) := List.set_comm _ _ (Ne.symm hij)
            have e2 : ((σ.set j (some (.ref l))).set i (some v)) = ((σ.set i (some v)).set j (some (.ref l))) := List.set_comm _ _ (Ne.symm hij)
            rw [e1, e2] at r4
            exact q o2 ((lo.ad j l).rm i) _ H2 r4 (T.m.trans (m3.trans (StRel.rmMono i)))
          · exact q.elim
        | _ => exact q.elim
      | exc e S2 => rw [ev2] at q; exact q.elim
      | bad => rw [ev2] at q; exact q.elim
    | exc e S1 => rw [ev] at q; exact q.elim
    | bad => rw [ev] at q; exact q.elim
end
end DL
/-! ### range(i, j, c) -/
namespace DL
open PySem PySem.Spec PyProof.Rows L2
def rngN3 (i j c : Int) : Nat := (Builtin.Range.rangeSize i j c).toNat
/-- range(i, j, c): only -1, or steps upwards -/
noncomputable def irngS (t : Exs) : Ix := fun G S => (t G S).bind fun xs S1 => match xs with
  | [.int i, .int j, .int c] => gate (c ≠ 0 ∧ c.natAbs < 1073741824 ∧ Builtin.Range.small i j c = true ∧ 0 ≤ Builtin.Range.rangeSize i j c) (.ok (rngC i c (rngN3 i j c)) S1) .bad
  | _ => .bad
section
variable {X : Cx} {ct : CT} {W : Wish} {pos p : Pos} {tg a b c : Expr} {tes : Exs}
theorem pdi_range3 (hg : Gl X "range") (hm : X.mg "range" = none) (ha : PDs X ct W [a, b, c] tes) (hs : starEach [a, b, c] X.env = (false, eval a X.env) :: starEach [b, c] X.env := by rfl) (hpl : (backTo pos (starEach [b, c] X.env)).any (·.1) = false := by rfl) :
    PDi X ct W tg (.Call (.Name "range" p) [a, b, c] [] pos) (irngS tes) :=
  PI.wk (pi_range3 hg hm ha hs hpl) fun σ H Q ⟨o, G, S, er, h⟩ => goI er h fun o1 S1 H1 v d x1 er1 r1 h1 => by
    split at h1
    · rename_i i j k
      by_cases hz : k ≠ 0 ∧ k.natAbs < 1073741824 ∧ Builtin.Range.small i j k = true ∧ 0 ≤ Builtin.Range.rangeSize i j k
      · rw [gate_pos hz] at h1
        obtain ⟨w, u, z, rfl, r, r', r''⟩ := r1.three
        cases r
        cases r'
        cases r''
        exact ⟨i, j, k, rngN3 i j k, rfl, ⟨hz.1, hz.2.1, hz.2.2.1, (Int.toNat_of_nonneg hz.2.2.2).symm⟩, h1 o1 H1 _ .refl er1.s wd_rangeC⟩
      · rw [gate_neg hz] at h1
        exact h1.elim
    · exact h1.elim
end
/-- downwards -/
theorem irngS_down {ts : Exs} {G : Env} {S S1 : Store} {n : Nat} (h : ts G S = .ok [.int ((n : Int) - 1), .int (-1), .int (-1)] S1) (hn : n ≤ 16777216) : irngS ts G S = .ok ((List.range n).reverse.map fun i : Nat => D.int (i : Int)) S1 := by
  have hz : Builtin.Range.rangeSize ((n : Int) - 1) (-1) (-1) = n := by
    unfold Builtin.Range.rangeSize
    rw [if_neg (by decide), Int.neg_neg, Int.ediv_one]
    split <;> omega
  unfold irngS
  rw [h]
  show gate _ _ _ = _
  rw [gate_pos ⟨by decide, by decide, PySem.W.small_down (by omega) (by omega) (by omega) (by omega), by rw [hz]; omega⟩]
  have e : rngN3 ((n : Int) - 1) (-1) (-1) = n := by unfold rngN3; rw [hz]; rfl
  rw [e]
  congr 1
  unfold rngC
  refine List.ext_getElem (by simp) fun i h1 h2 => ?_
  simp only [List.length_map, List.length_range, List.length_reverse] at h1 h2
  simp
  omega
end DL

end
section
set_option maxRecDepth 100000
set_option maxHeartbeats 2000000
/-! The data layer: o.f += number. -/
namespace DL
open PySem PySem.Spec PyProof.Rows L2
/-- o.f += value, both whole numbers -/
def sfaug (to : Ex) (c j : Nat) (t : Ex) : St := fun G S => match to G S with
  | .ok (.obj k) S1 => match fldOf S1 c j (.obj k) with
    | some (.int a) => match t G S1 with
      | .ok (.int b) S2 => if freeSlot S2 c k j = true then .nx G (cput S2 k j (.val (.int (a + b)))) else .bad
      | _ => .bad
    | _ => .bad
  | _ => .bad
@[simp] theorem ev_sfaug {to t : Ex} {c j : Nat} {G : Env} {S : Store} : sfaug to c j t G S = match to G S with
  | .ok (.obj k) S1 => (match fldOf S1 c j (.obj k) with
    | some (.int a) => (match t G S1 with
      | .ok (.int b) S2 => if freeSlot S2 c k j = true then .nx G (cput S2 k j (.val (.int (a + b)))) else .bad
      | _ => .bad)
    | _ => .bad)
  | _ => .bad := (rfl)
section
variable {X : Cx} {ct : CT} {e oe : Expr} {t to : Ex} {pos pos' : Pos} {f : Str}
theorem psd_faug {c j : Nat} {cd : CD} (h : PM X ct e t) (ho : PM X ct oe to) (hc : ct c = some cd) (hf : cd.fl[j]? = some f) : PSD X ct (.AugAssign (.Attribute oe f pos') .Add e pos) (sfaug to c j t) := fun A =>
  PS.wk (ps_fldaug (ho A) (h A) in_add) fun D σ H ⟨o, lo, G, S, r, q⟩ => by
    unfold sfaug at q
    refine ⟨o, lo, G, S, r, ?_⟩
    cases ev : to G S with
    | ok d S1 =>
      rw [ev] at q
      intro o1 v H1 T rv
      cases rv with
      | @obj k hk =>
        dsimp only at q
        cases e1 : fldOf S1 c j (.obj k) with
        | none => rw [e1] at q; exact q.elim
        | some x =>
          rw [e1] at q
          cases x with
          | int a =>
            obtain ⟨p, dx, fs, w, ea, hp, hl, rw1⟩ := fld_ok T.r.s (.obj hk) hc hf e1
            cases ea
            cases rw1
            have ok := T.r.s.cok c cd hc
            refine ⟨_, cd.C, dx, fs, _, rfl, hp, ok.cl, ok.noF hf, hl, ?_⟩
            refine ⟨o1, lo, G, S1, T.r, ?_⟩
            dsimp only at q
            cases ev0 : t G S1 with
            | ok d0 S0 =>
              rw [ev0] at q
              intro o0 v0 H0 T0 rv0
              cases d0 with
              | int b =>
                cases rv0
                dsimp only at q
                split at q
                · rename_i hz
                  obtain ⟨dx, fs, q1, q2, q3, q4, q5, q6⟩ := T0.r.fset hc hf hz (.int (a + b))
                  have er : o0.ρ k = o1.ρ k := T0.m.r k hk
                  exact ⟨a, b, rfl, rfl, dx, fs, er ▸ q1, q2, er ▸ q o0 lo σ _ q5 ((T.m.trans T0.m).trans q6)⟩
                · exact q.elim
              | _ => exact q.elim
            | exc x S1 => rw [ev0] at q; exact q.elim
            | bad => rw [ev0] at q; exact q.elim
          | _ => exact q.elim
      | _ => exact q.elim
    | exc x S1 => rw [ev] at q; exact q.elim
    | bad => rw [ev] at q; exact q.elim
end
end DL

end
section
set_option maxRecDepth 100000
set_option maxHeartbeats 1000000
/-! The data layer: what is often needed to reckon with it. -/
namespace DL
abbrev nI (n : Nat) : D := .int (n : Int)
abbrev tn (xs : List Nat) : D := .tup (xs.map nI)
theorem mulOk_r (i j : Int) (h : j.natAbs < 2 ^ 64) : mulOk i j = true := by
  unfold mulOk
  rw [decide_eq_true h]; simp
theorem mulOk_l (i j : Int) (h : i.natAbs < 2 ^ 64) : mulOk i j = true := by
  unfold mulOk
  rw [decide_eq_true h]; simp
theorem mulOk_w (i j : Int) (h : i.natAbs.log2 + j.natAbs.log2 < 1000000) : mulOk i j = true := by
  unfold mulOk
  rw [decide_eq_true h]; simp
theorem log2_of (n k : Nat) (h : n < 2 ^ k) (hk : 0 < k) : n.log2 < k := by
  by_cases z : n = 0
  · subst z; exact hk
  · exact (Nat.log2_lt z).mpr h
theorem shl_nat (n k : Nat) (h1 : k ≤ 1000000) (h2 : n.log2 < 10000000) : opShl (nI n) (nI k) = some (nI (n * 2 ^ k)) := by
  rw [ev_shl, if_pos ⟨by omega, by omega, by simpa using h2⟩]
  simp
theorem shr_nat (n k : Nat) : opShr (nI n) (nI k) = some (nI (n / 2 ^ k)) := by
  rw [ev_shr, if_pos (by omega)]
  simp
theorem and_one (n : Nat) : opAnd (nI n) (.int 1) = some (nI (n % 2)) := by
  show some (D.int (PySem.Builtin.bitAnd (n : Int) 1)) = _
  have := Bits.bitAnd_mask (x := (n : Int)) 1 (by omega)
  rw [show (2 : Int) ^ 1 - 1 = 1 from rfl] at this
  rw [this]
  simp
theorem and_mask (n k : Nat) (m : Int) (h : m = 2 ^ k - 1) : opAnd (nI n) (.int m) = some (nI (n % 2 ^ k)) := by
  show some (D.int (PySem.Builtin.bitAnd (n : Int) m)) = _
  rw [h, Bits.bitAnd_mask (x := (n : Int)) k (by omega)]
  simp
theorem div_nat (a b : Nat) (h : 0 < b) (h2 : b.log2 < 9000) : opDiv (nI a) (nI b) = some (nI (a / b)) := by
  rw [ev_div, if_pos ⟨by omega, by simpa using h2⟩]
  simp
theorem mod_nat (a b : Nat) (h : 0 < b) : opMod (nI a) (nI b) = some (nI (a % b)) := by
  rw [ev_mod, if_pos (by omega)]
  simp
/-! ### comprehensions -/
theorem runLc_to {α : Type} {g : Tg} {te : Ex} {G : Env} {S : Store} (emb : α → D) (f : α → D) : ∀ xs : List α, (∀ x ∈ xs, ∃ G1, g.put (emb x) G = some G1 ∧ te G1 S = .ok (f x) S) → runLc g tyes te G (xs.map emb) S = .ok (xs.map f) S
  | [], _ => rfl
  | x :: r, h => by
    obtain ⟨G1, h1, h2⟩ := h x List.mem_cons_self
    have ih := runLc_to emb f r fun y hy => h y (List.mem_cons_of_mem _ hy)
    rw [List.map_cons]
    unfold runLc
    rw [h1]
    simp only [tyes, h2, ih, List.map_cons]
/-- the store goes through -/
theorem runLc_thr {α : Type} {g : Tg} {te : Ex} {G : Env} (P : Store → Prop) (emb : α → D) (f : α → D) : ∀ (xs : List α) (S : Store), P S → (∀ x ∈ xs, ∀ S, P S → ∃ G1 S1, g.put (emb x) G = some G1 ∧ te G1 S = .ok (f x) S1 ∧ P S1) → ∃ S1, runLc g tyes te G (xs.map emb) S = .ok (xs.map f) S1 ∧ P S1
  | [], S, h, _ => ⟨S, rfl, h⟩
  | x :: r, S, h, k => by
    obtain ⟨G1, S1, h1, h2, h3⟩ := k x List.mem_cons_self S h
    obtain ⟨S2, i1, i2⟩ := runLc_thr P emb f r S1 h3 fun y hy => k y (List.mem_cons_of_mem _ hy)
    refine ⟨S2, ?_, i2⟩
    rw [List.map_cons]
    unfold runLc
    rw [h1]
    simp only [tyes, h2, i1, List.map_cons]
/-- only some are taken -/
theorem runLc_if {α : Type} {g : Tg} {tt : Tx} {te : Ex} {G : Env} {S : Store} (emb : α → D) (p : α → Bool) (f : α → D) : ∀ xs : List α, (∀ x ∈ xs, ∃ G1, g.put (emb x) G = some G1 ∧ tt G1 S = .ok (p x) S ∧ (p x = true → te G1 S = .ok (f x) S)) → runLc g tt te G (xs.map emb) S = .ok ((xs.filter p).map f) S
  | [], _ => rfl
  | x :: r, h => by
    obtain ⟨G1, h1, h2, h3⟩ := h x List.mem_cons_self
    have ih := runLc_if emb p f r fun y hy => h y (List.mem_cons_of_mem _ hy)
    rw [List.map_cons]
    unfold runLc
    rw [h1]
    cases hp : p x with
    | true =>
      rw [hp] at h2
      simp only [h2, h3 hp, ih, List.filter_cons, hp, if_true, List.map_cons]
    | false =>
      rw [hp] at h2
      simp only [h2, ih, List.filter_cons, hp, Bool.false_eq_true, if_false]
/-! ### loops -/
/-- a while loop: m says how many turns are left -/
theorem runWhile_run {c : Tx} {u : St} (P : Nat → Env → Store → Prop) (stop : ∀ G S, P 0 G S → c G S = .ok false S) (turn : ∀ m G S, P (m + 1) G S → ∃ G1 S1, c G S = .ok true S ∧ u G S = .nx G1 S1 ∧ P m G1 S1) :
    ∀ (m n : Nat) (G : Env) (S : Store), m < n → P m G S → ∃ G1 S1, runWhile c u n G S = .nx G1 S1 ∧ P 0 G1 S1
  | 0, n, G, S, hn, h => by
    obtain ⟨n, rfl⟩ : ∃ k, n = k + 1 := ⟨n - 1, by omega⟩
    refine ⟨G, S, ?_, h⟩
    rw [ev_runWhileS, stop G S h]
  | m + 1, n, G, S, hn, h => by
    obtain ⟨n, rfl⟩ : ∃ k, n = k + 1 := ⟨n - 1, by omega⟩
    obtain ⟨G1, S1, h1, h2, h3⟩ := turn m G S h
    obtain ⟨G2, S2, i1, i2⟩ := runWhile_run P stop turn m n G1 S1 (by omega) h3
    refine ⟨G2, S2, ?_, i2⟩
    rw [ev_runWhileS, h1]
    dsimp only
    rw [h2]
    exact i1
/-- a for loop that goes to its end -/
theorem runFor_go {α : Type} {g : Tg} {u : St} (emb : α → D) (full : List α) (P : List α → Env → Store → Prop) (step : ∀ done x rest G S, done ++ x :: rest = full → P done G S → ∃ G1 G2 S2, g.put (emb x) G = some G1 ∧ (u G1 S = .nx G2 S2 ∨ u G1 S = .ct G2 S2) ∧ P (done ++ [x]) G2 S2) :
    ∀ (xs done : List α) (G : Env) (S : Store), done ++ xs = full → P done G S → ∃ G' S', runFor g u (xs.map emb) G S = .nx G' S' ∧ P full G' S'
  | [], done, G, S, e, h => ⟨G, S, rfl, by rw [List.append_nil] at e; rw [← e]; exact h⟩
  | x :: r, done, G, S, e, h => by
    obtain ⟨G1, G2, S2, h1, h2, h3⟩ := step done x r G S e h
    obtain ⟨G', S', h4, h5⟩ := runFor_go emb full P step r (done ++ [x]) G2 S2 (by rw [List.append_assoc]; exact e) h3
    refine ⟨G', S', ?_, h5⟩
    rw [List.map_cons, ev_runForC, h1]
    dsimp only
    rcases h2 with h2 | h2 <;> rw [h2] <;> exact h4
theorem runFor_run {α : Type} {g : Tg} {u : St} (emb : α → D) (xs : List α) (P : List α → Env → Store → Prop) {G : Env} {S : Store} (h0 : P [] G S) (step : ∀ done x rest G S, done ++ x :: rest = xs → P done G S → ∃ G1 G2 S2, g.put (emb x) G = some G1 ∧ (u G1 S = .nx G2 S2 ∨ u G1 S = .ct G2 S2) ∧ P (done ++ [x]) G2 S2) :
    ∃ G' S', runFor g u (xs.map emb) G S = .nx G' S' ∧ P xs G' S' := runFor_go emb xs P step xs [] G S rfl h0
/-- .. over numbers from 0 on -/
theorem runFor_range {g : Tg} {u : St} (n : Nat) (P : Nat → Env → Store → Prop) {G : Env} {S : Store} (h0 : P 0 G S) (step : ∀ i G S, i < n → P i G S → ∃ G1 G2 S2, g.put (nI i) G = some G1 ∧ (u G1 S = .nx G2 S2 ∨ u G1 S = .ct G2 S2) ∧ P (i + 1) G2 S2) :
    ∃ G' S', runFor g u ((List.range n).map nI) G S = .nx G' S' ∧ P n G' S' := by
  have key := runFor_run (g := g) (u := u) nI (List.range n) (fun done G S => P done.length G S) h0 fun done x rest G S e h => by
    have hl := congrArg List.length e
    rw [List.length_append, List.length_cons, List.length_range] at hl
    have hx : x = done.length := by
      have h1 : (done ++ x :: rest)[done.length]? = some x := by rw [List.getElem?_append_right (Nat.le_refl _), Nat.sub_self]; rfl
      rw [e, List.getElem?_range (by omega)] at h1
      exact (Option.some.inj h1).symm
    subst hx
    obtain ⟨G1, G2, S2, a1, a2, a3⟩ := step done.length G S (by omega) h
    exact ⟨G1, G2, S2, a1, a2, by rw [List.length_append]; exact a3⟩
  rw [List.length_range] at key
  exact key
/-! ### cuts -/
theorem cut_mid {α : Type} (xs : List α) (i j : Nat) : cutL xs (some (i : Int)) (some (j : Int)) = (xs.drop (min i xs.length)).take (min j xs.length - min i xs.length) := by
  unfold cutL
  rw [HT.sIx_nat, HT.sIx_nat]
theorem cut_mid' {α : Type} (xs : List α) (i j : Nat) (h : i ≤ j) (hj : j ≤ xs.length) : cutL xs (some (i : Int)) (some (j : Int)) = (xs.drop i).take (j - i) := by
  rw [cut_mid, Nat.min_eq_left hj, Nat.min_eq_left (by omega)]
theorem strs_map (ts : List (List Nat)) : D.strs (ts.map D.str) = some ts := by
  induction ts with
  | nil => rfl
  | cons a r ih => show (D.strs (r.map D.str)).map (a :: ·) = _; rw [ih]; rfl
theorem joinL_nil : ∀ ts : List (List Nat), joinL [] ts = ts.flatten
  | [] => rfl
  | [a] => by simp [joinL]
  | a :: b :: r => by
    show a ++ [] ++ joinL [] (b :: r) = _
    rw [joinL_nil (b :: r), List.append_nil]
    rfl
theorem join_list (ts : List (List Nat)) (h : ts.flatten.length ≤ 16777216) : fJoin [] (.lst (ts.map D.str)) = some (.str ts.flatten) := by
  unfold fJoin
  dsimp only
  rw [strs_map]
  dsimp only
  rw [joinL_nil, if_pos]
  rw [List.length_flatten] at h
  simpa using h
/-! ### data that == compares -/
mutual
def D.plain : Nat → D → Bool
  | _, .non => true
  | _, .bl _ => true
  | _, .int _ => true
  | _, .str _ => true
  | n + 1, .tup xs => decide (xs.length ≤ 16777216) && D.plains n xs
  | _, _ => false
def D.plains : Nat → List D → Bool
  | _, [] => true
  | n, x :: r => D.plain n x && D.plains n r
end
theorem plains_mem {n : Nat} : ∀ {xs : List D}, D.plains n xs = true → ∀ d ∈ xs, D.plain n d = true
  | x :: r, h, d, hd => by
    have h : (D.plain n x && D.plains n r) = true := h
    rw [Bool.and_eq_true] at h
    rcases List.mem_cons.mp hd with q | q
    · rw [q]; exact h.1
    · exact plains_mem h.2 d q
theorem plains_of {n : Nat} : ∀ {xs : List D}, (∀ d ∈ xs, D.plain n d = true) → D.plains n xs = true
  | [], _ => rfl
  | x :: r, h => by
    show (D.plain n x && D.plains n r) = true
    rw [h x List.mem_cons_self, plains_of fun d hd => h d (List.mem_cons_of_mem _ hd)]
    rfl
theorem plain_tup {n : Nat} {xs : List D} (hl : xs.length ≤ 16777216) (h : ∀ d ∈ xs, D.plain n d = true) : D.plain (n + 1) (.tup xs) = true := by
  show (decide (xs.length ≤ 16777216) && D.plains n xs) = true
  rw [decide_eq_true hl, plains_of h]; rfl
theorem plain_ints {n : Nat} (xs : List Int) (hl : xs.length ≤ 16777216) : D.plain (n + 1) (.tup (xs.map D.int)) = true :=
  plain_tup (by simpa using hl) fun d hd => by
    obtain ⟨x, _, rfl⟩ := List.mem_map.mp hd
    cases n <;> rfl
theorem plain_nats {n : Nat} (xs : List Nat) (hl : xs.length ≤ 16777216) : D.plain (n + 1) (tn xs) = true :=
  plain_tup (by simpa using hl) fun d hd => by
    obtain ⟨x, _, rfl⟩ := List.mem_map.mp hd
    cases n <;> rfl
theorem eq_str (s t : List Nat) : opEq (.str s) (.str t) = some (.bl (s == t)) := by
  unfold opEq
  rw [if_pos (.inl rfl)]
  rfl
theorem ne_str (s t : List Nat) : opNe (.str s) (.str t) = some (.bl (!(s == t))) := by
  unfold opNe
  rw [if_pos (.inl rfl)]
  rfl
theorem cmps_ints (n : Nat) (xs : List Int) : D.cmps n (xs.map D.int) = true := by
  induction xs with
  | nil => rfl
  | cons x r ih => show (true && D.cmps n (r.map D.int)) = true; rw [ih]; rfl
theorem eqs_ints : ∀ xs ys : List Int, D.eqs (xs.map D.int) (ys.map D.int) = (xs == ys)
  | [], [] => rfl
  | [], _ :: _ => rfl
  | _ :: _, [] => rfl
  | x :: xs, y :: ys => by
    show ((x == y) && D.eqs (xs.map D.int) (ys.map D.int)) = _
    rw [eqs_ints xs ys]
    rfl
theorem eq_ints (xs ys : List Int) : opEq (.tup (xs.map D.int)) (.tup (ys.map D.int)) = some (.bl (xs == ys)) := by
  unfold opEq
  rw [if_pos (.inr ⟨cmps_ints 59 xs, cmps_ints 59 ys⟩)]
  show some (D.bl (D.eqs _ _)) = _
  rw [eqs_ints]
theorem ne_ints (xs ys : List Int) : opNe (.tup (xs.map D.int)) (.tup (ys.map D.int)) = some (.bl (!(xs == ys))) := by
  unfold opNe
  rw [if_pos (.inr ⟨cmps_ints 59 xs, cmps_ints 59 ys⟩)]
  show some (D.bl (!D.eqs _ _)) = _
  rw [eqs_ints]
theorem nats_ints (xs : List Nat) : xs.map nI = (xs.map fun x : Nat => (x : Int)).map D.int := by rw [List.map_map]; rfl
theorem beq_casts (xs ys : List Nat) : ((xs.map fun x : Nat => (x : Int)) == (ys.map fun x : Nat => (x : Int))) = (xs == ys) := by
  rw [Bool.eq_iff_iff, beq_iff_eq, beq_iff_eq]
  exact ⟨fun h => List.map_inj_right (fun a b e => by omega) |>.mp h, fun h => by rw [h]⟩
theorem eq_nats (xs ys : List Nat) : opEq (tn xs) (tn ys) = some (.bl (xs == ys)) := by
  rw [tn, tn, nats_ints, nats_ints, eq_ints, beq_casts]
theorem ne_nats (xs ys : List Nat) : opNe (tn xs) (tn ys) = some (.bl (!(xs == ys))) := by
  rw [tn, tn, nats_ints, nats_ints, ne_ints, beq_casts]
/-! ### objects -/
theorem fldOf_at {S : Store} {k c j : Nat} {fs : List Slot} (h : S[k]? = some ⟨c, fs⟩) : fldOf S c j (.obj k) = match fs[j]? with | some (.val d) => some d | some (.own _) => some (.fl k j) | _ => none := by
  unfold fldOf
  simp only [h, if_true]
  all_goals rfl
theorem cput_at {S : Store} {k c j : Nat} {fs : List Slot} {s : Slot} (h : S[k]? = some ⟨c, fs⟩) : cput S k j s = S.set k ⟨c, fs.set j s⟩ := by
  unfold cput
  rw [h]
theorem fput_at {S : Store} {k c j : Nat} {fs : List Slot} {ds : List D} (h : S[k]? = some ⟨c, fs⟩) : fput S k j ds = S.set k ⟨c, fs.set j (.own ds)⟩ := by
  unfold fput
  rw [h]
theorem free_at {S : Store} {k c j : Nat} {fs : List Slot} (h : S[k]? = some ⟨c, fs⟩) : freeSlot S c k j = match fs[j]? with | some .no => true | some (.val _) => true | _ => false := by
  unfold freeSlot
  rw [h]
  dsimp only
  rw [beq_self_eq_true, Bool.true_and]
  all_goals rfl
theorem clsOf_at {S : Store} {k c : Nat} {fs : List Slot} (h : S[k]? = some ⟨c, fs⟩) : clsOf S (.obj k) = some c := by
  unfold clsOf
  simp only [h]
theorem deref_at {S : Store} {k c j : Nat} {fs : List Slot} {ds : List D} (h : S[k]? = some ⟨c, fs⟩) (h2 : fs[j]? = some (.own ds)) : deref S (.fl k j) = .lst ds := by
  unfold deref
  dsimp only
  rw [h]
  dsimp only
  rw [h2]
theorem set_at {S : Store} {k : Nat} {x y : Cell} (h : S[k]? = some x) : (S.set k y)[k]? = some y := List.getElem?_set_self (List.getElem?_eq_some_iff.mp h).1
theorem new_at (S : Store) (c : Cell) : (S ++ [c])[S.length]? = some c := by simp
theorem flat_set {S : Store} {k : Nat} {c : Cell} (h : Store.flat S = true) (hc : c.fs.all Slot.flat = true) : Store.flat (S.set k c) = true := by
  unfold Store.flat at h ⊢
  rw [List.all_eq_true] at h ⊢
  intro x hx
  rcases List.mem_or_eq_of_mem_set hx with q | q
  · exact h x q
  · rw [q]; exact hc
theorem flat_new {S : Store} {c : Cell} (h : Store.flat S = true) (hc : c.fs.all Slot.flat = true) : Store.flat (S ++ [c]) = true := by
  unfold Store.flat at h ⊢
  rw [List.all_append, h]
  simpa using hc
@[simp] theorem ev_sfset {G : Env} {S : Store} {a t : Ex} {c j : Nat} : sfset a c j t G S = match t G S with | .ok d S1 => (match a G S1 with | .ok (.obj k) S2 => if freeSlot S2 c k j = true then .nx G (cput S2 k j (.val d)) else .bad | _ => .bad) | _ => .bad := (rfl)
@[simp] theorem ev_sfown {G : Env} {S : Store} {a t : Ex} {c j : Nat} : sfown a c j t G S = match t G S with | .ok (.lst ds) S1 => (match a G S1 with | .ok (.obj k) S2 => if freeSlot S2 c k j = true ∧ Store.flat S2 = true ∧ D.flats ds = true then .nx G (cput S2 k j (.own ds)) else .bad | _ => .bad) | _ => .bad := (rfl)
@[simp] theorem ev_sfadd {G : Env} {S : Store} {a t : Ex} {f : D → Option (List D)} : sfadd a f t G S = match a G S with | .ok (.fl k j) S0 => (match t G S0 with | .ok d S1 => (match deref S1 (.fl k j), f d with | .lst ds, some es => if ds.length + es.length ≤ 16777216 then .nx G (fput S1 k j (ds ++ es)) else .bad | _, _ => .bad) | _ => .bad) | _ => .bad := (rfl)
theorem flats_nats : ∀ xs : List Nat, D.flats (xs.map nI) = true
  | [] => rfl
  | x :: r => by show (true && D.flats (r.map nI)) = true; rw [flats_nats r]; rfl
theorem cut_str {x : List Nat} (lo hi : Option Int) (h : x.length ≤ 16777216) : D.cut lo hi (.str x) = some (.str (cutL x lo hi)) := if_pos h
theorem len_str (x : List Nat) (h : x.length ≤ 16777216) : fLen [.str x] = some (.int (x.length : Nat)) := if_pos h
/-! ### a body, statement by statement -/
/-- it returns d, and leaves no list in the objects -/
def Fin (u : St) (G : Env) (S : Store) (d : D) : Prop := ∃ S', u G S = .rt d S' ∧ Store.flat S' = true
theorem Fin.seq {u v : St} {G G1 : Env} {S S1 : Store} {d : D} (h : u G S = .nx G1 S1) (k : Fin v G1 S1 d) : Fin (sseq u v) G S d := by
  obtain ⟨S', e, f⟩ := k
  exact ⟨S', by rw [ev_sseq, h]; exact e, f⟩
/-- .. where the state behind is known by what it is only -/
theorem Fin.seqP {u v : St} {G : Env} {S : Store} {d : D} (P : Env → Store → Prop) (h : ∃ G1 S1, u G S = .nx G1 S1 ∧ P G1 S1) (k : ∀ G1 S1, P G1 S1 → Fin v G1 S1 d) : Fin (sseq u v) G S d := by
  obtain ⟨G1, S1, e, p⟩ := h
  exact .seq e (k G1 S1 p)
theorem Fin.loop {α : Type} {it : Ix} {g : Tg} {u v : St} {G : Env} {S S0 : Store} {d : D} (emb : α → D) (xs : List α) (P : List α → Env → Store → Prop) (hi : it G S = .ok (xs.map emb) S0) (h0 : P [] G S0)
    (step : ∀ done x rest G S, done ++ x :: rest = xs → P done G S → ∃ G1 G2 S2, g.put (emb x) G = some G1 ∧ (u G1 S = .nx G2 S2 ∨ u G1 S = .ct G2 S2) ∧ P (done ++ [x]) G2 S2) (k : ∀ G S, P xs G S → Fin v G S d) : Fin (sseq (sfor it g u) v) G S d := by
  obtain ⟨G1, S1, e, p⟩ := runFor_run (g := g) (u := u) emb xs P h0 step
  exact .seq (by rw [ev_sfor, hi]; exact e) (k G1 S1 p)
theorem Fin.range {it : Ix} {g : Tg} {u v : St} {G : Env} {S S0 : Store} {d : D} (n : Nat) (P : Nat → Env → Store → Prop) (hi : it G S = .ok ((List.range n).map nI) S0) (h0 : P 0 G S0)
    (step : ∀ i G S, i < n → P i G S → ∃ G1 G2 S2, g.put (nI i) G = some G1 ∧ (u G1 S = .nx G2 S2 ∨ u G1 S = .ct G2 S2) ∧ P (i + 1) G2 S2) (k : ∀ G S, P n G S → Fin v G S d) : Fin (sseq (sfor it g u) v) G S d := by
  obtain ⟨G1, S1, e, p⟩ := runFor_range (g := g) (u := u) n P h0 step
  exact .seq (by rw [ev_sfor, hi]; exact e) (k G1 S1 p)
theorem Fin.ret {e : Ex} {G : Env} {S S1 : Store} {d : D} (h : e G S = .ok d S1) (f : Store.flat S1 = true) : Fin (sret e) G S d := ⟨S1, by rw [ev_sret, h], f⟩
theorem Fin.fn {np n : Nat} {u : St} {ds : List D} {S : Store} {d : D} (hl : ds.length = np) (h : Fin u (ds.map Slot.val ++ List.replicate (n - np) .no) S d) : ∃ S', mkFn np n u ds S = .ok d S' ∧ Store.flat S' = true := by
  obtain ⟨S', e, f⟩ := h
  exact ⟨S', by rw [ev_mkFn, if_pos hl, e], f⟩
/-- a test that is not so -/
theorem skip_if {c : Tx} {u : St} {G : Env} {S S1 : Store} (h : c G S = .ok false S1) : sif c u snx G S = .nx G S1 := by
  rw [ev_sif, h]
  rfl
theorem skip_then {c : Tx} {u v : St} {G : Env} {S S1 : Store} {d : D} (h : c G S = .ok false S1) (k : Fin v G S1 d) : Fin (sseq (sif c u snx) v) G S d := .seq (skip_if h) k
theorem not_tru {c : Tx} {G : Env} {S S1 : Store} (h : c G S = .ok true S1) : bnot c G S = .ok false S1 := by
  rw [ev_bnot, h]
  rfl
theorem or_no {a b : Tx} {G : Env} {S S1 S2 : Store} (h1 : a G S = .ok false S1) (h2 : b G S1 = .ok false S2) : bor a b G S = .ok false S2 := by
  rw [ev_bor, h1]
  show (if false = true then _ else _) = _
  rw [if_neg Bool.false_ne_true]
  exact h2
theorem repS_one (n c : Nat) : repS n [c] = List.replicate n c := by
  unfold repS
  induction n with
  | zero => rfl
  | succ n ih => rw [List.replicate_succ, List.flatten_cons, ih, List.replicate_succ]; rfl
theorem repL_one (n : Nat) (d : D) : repL n [d] = List.replicate n d := by
  unfold repL
  induction n with
  | zero => rfl
  | succ n ih => rw [List.replicate_succ, List.flatten_cons, ih, List.replicate_succ]; rfl
theorem mul_str1 (c n : Nat) (h : n ≤ 16777216) : opMul (.str [c]) (nI n) = some (.str (List.replicate n c)) := by
  show (if _ then _ else _) = _
  rw [if_pos ⟨by omega, by simp only [List.length_cons, List.length_nil]; omega⟩]
  have : ((n : Int).toNat) = n := by omega
  rw [this, repS_one]
theorem mul_tup1 (d : D) (n : Nat) (h : n ≤ 1000) : opMul (.tup [d]) (nI n) = some (.tup (List.replicate n d)) := by
  show (if _ then _ else _) = _
  rw [if_pos ⟨List.cons_ne_nil _ _, by omega, by omega, show 1 ≤ 1000 by decide⟩]
  have : ((n : Int).toNat) = n := by omega
  rw [this, repL_one]
theorem mul_lst1 (d : D) (n : Nat) (h : n ≤ 16777216) : opMul (.lst [d]) (nI n) = some (.lst (List.replicate n d)) := by
  show (if _ then _ else _) = _
  rw [if_pos ⟨by omega, by simp only [List.length_cons, List.length_nil]; omega⟩]
  have : ((n : Int).toNat) = n := by omega
  rw [this, repL_one]
theorem add_str (s t : List Nat) (h : s.length + t.length ≤ 16777216) : opAdd (.str s) (.str t) = some (.str (s ++ t)) := if_pos h
theorem add_tup (s t : List D) (h : s.length + t.length ≤ 16777216) : opAdd (.tup s) (.tup t) = some (.tup (s ++ t)) := if_pos h
theorem add_lst (s t : List D) (h : s.length + t.length ≤ 16777216) : opAdd (.lst s) (.lst t) = some (.lst (s ++ t)) := if_pos h
@[simp] theorem ev_deref_str {S : Store} {s : List Nat} : deref S (.str s) = .str s := (rfl)
@[simp] theorem ev_deref_bl {S : Store} {b : Bool} : deref S (.bl b) = .bl b := (rfl)
@[simp] theorem ev_deref_non {S : Store} : deref S .non = .non := (rfl)
@[simp] theorem ev_deref_obj {S : Store} {k : Nat} : deref S (.obj k) = .obj k := (rfl)
end DL

end
section
set_option maxRecDepth 100000
set_option maxHeartbeats 2000000
/-! The data layer: what the module's run leaves. -/
namespace DL
open PySem PySem.Spec PyProof.Rows L2

/-- a value that K holds is the data d -/
def repB (K : PySem.W.Frag) : Nat → Value → D → Bool
  | _, .int i _, .int j => i == j
  | n + 1, .ref a, .tup ds => match K.lookup a with
    | some ⟨.type c, _, .seq its _, _⟩ => decide (c = "tuple") && (decide (its.size ≤ sizeLine) && repsB K n its.toList ds)
    | _ => false
  | _, _, _ => false
where repsB (K : PySem.W.Frag) : Nat → List Value → List D → Bool
  | _, [], [] => true
  | n, u :: us, d :: ds => repB K n u d && repsB K n us ds
  | _, _, _ => false
mutual
theorem repB_ok {K : PySem.W.Frag} : ∀ (n : Nat) (u : Value) (d : D), repB K n u d = true → ∃ v, RelV v u ∧ ∀ o H, Rep K o H v d
  | n, u, d, h => by
    unfold repB at h
    split at h
    · rw [eq_of_beq h]
      exact ⟨.int _, ⟨_, rfl⟩, fun o H => .int _⟩
    · rename_i n a ds
      split at h
      · rename_i c dct its k sl e
        rw [Bool.and_eq_true, Bool.and_eq_true] at h
        obtain ⟨h1, h2, h3⟩ := h
        obtain ⟨vs, r, q⟩ := repsB_ok n its.toList ds h3
        refine ⟨.ref a, rfl, fun o H => .tup (.inr ⟨_, its, k, e, by rw [of_decide_eq_true h1], rfl, of_decide_eq_true h2, r⟩) (q o H)⟩
      · cases h
    · cases h
theorem repsB_ok {K : PySem.W.Frag} : ∀ (n : Nat) (us : List Value) (ds : List D), repB.repsB K n us ds = true → ∃ vs, Vals vs us ∧ ∀ o H, RepL K o H vs ds
  | n, [], [], _ => ⟨[], .nil, fun _ _ => .nil⟩
  | n, u :: us, d :: ds, h => by
    unfold repB.repsB at h
    rw [Bool.and_eq_true] at h
    obtain ⟨v, r1, q1⟩ := repB_ok n u d h.1
    obtain ⟨vs, r2, q2⟩ := repsB_ok n us ds h.2
    exact ⟨v :: vs, .cons r1 r2, fun o H => .cons (q1 o H) (q2 o H)⟩
  | n, [], _ :: _, h => by unfold repB.repsB at h; cases h
  | n, _ :: _, [], h => by unfold repB.repsB at h; cases h
end
abbrev AlY : Type := Bool × He.AlD
def obsY (n : Nat) (fa : List He.Fa) (fn : List He.DefD) (ex : PySem.W.Frag → Bool) (g : Addr → Option Obj) : AlY := (ex (He.frG g (He.asD g n ++ [cStatics])), He.obsD fa fn (He.frG g (He.asD g n ++ [cStatics])))
def hookY (n : Nat) (fa : List He.Fa) (fn : List He.DefD) (ex : PySem.W.Frag → Bool) : PySem.W.Hook where
  α := AlY
  obs := fun s => obsY n fa fn ex s.heap.get?
  val := fun _ => (true, He.valD fn)
  says := fun _ h => ∃ K : PySem.W.Frag, K.In h ∧ ex K = true ∧ He.SaysD fa fn K
  of := fun _ _ e => ⟨_, He.frG_in, congrArg (fun z : AlY => z.1) e, congrArg (fun z : AlY => z.2) e⟩
  keeps := fun _ _ _ ⟨K, hK, c⟩ k => ⟨K, PySem.W.Frag.In.keeps hK k, c⟩
theorem obsY_eq {n : Nat} {fa : List He.Fa} {fn : List He.DefD} {ex : PySem.W.Frag → Bool} {g : Addr → Option Obj} {s : Shared} (h : ∀ a, g a = s.heap.get? a) : obsY n fa fn ex g = (hookY n fa fn ex).obs s := by
  have e : g = s.heap.get? := funext h
  rw [e] <;> rfl
theorem kd_of {K : PySem.W.Frag} {mg : Str → Option Value} {x : Str} {d : D} {n : Nat} (h : mg x = some (.ref (He.ga K x))) (e : repB K n (.ref (He.ga K x)) d = true) : KD K mg x d := by
  obtain ⟨v, r, q⟩ := repB_ok n _ d e
  exact ⟨v, _, h, r, q⟩
theorem cd_ok {K : PySem.W.Frag} {c : CD} (h1 : Cls K c.C) (h2 : (c.fl.all fun f => (PySem.W.findIn K (.ref c.C) f == some none)) = true) (h3 : c.fl.Nodup) (h4 : c.fl.length ≤ 900) : CDok K c :=
  ⟨h1, fun f hf => eq_of_beq (List.all_eq_true.mp h2 f hf), h3, h4⟩
section
variable {P : Program} {w : World} {K : PySem.W.Frag} {mg : Str → Option Value} {base : Heap} {ct : CT}
theorem FA.mkE {x qual : Str} {params : Arguments} {body : List Stmt} {scope : Scope} {f : Addr} {fd : FuncData} {N ps : List Str} {k np n : Nat} {t : St} (F : FunD K x qual params body scope [] [] f fd) (S : FnScope N ps scope) (hp : ps.length = np) (hn : N.length = n)
    (h : ∀ (cdv : Value) (A : Around) (outer : List PySem.Env) (s : Shared) (H : Hp) (E : XK), Room k (XB P w K mg base N qual scope f cdv A outer s H E).A → PSDs (XB P w K mg base N qual scope f cdv A outer s H E) ct body t) : FnOk P w K mg base CX0 (k + 1) f fd ps (spD K ct (mkFn np n t)) := by
  have hpn : np ≤ N.length := by
    have := congrArg List.length S.pre
    rw [List.length_take] at this
    omega
  refine F.ok S (fun vs H Q E ⟨o, St, ds, sr, rx, q⟩ => ?_) fun cdv A outer s H vs Q E hr ⟨o, St, ds, sr, rx, q⟩ => ⟨_, PSs.nox (h cdv A outer s H E hr (o, H)), ?_⟩
  · rw [rx.length, hp]
    cases e : mkFn np n t ds St with
    | ok z S' => exact mkFn_len e
    | exc _ _ => rw [e] at q; exact q.elim
    | bad => rw [e] at q; exact q.elim
  · unfold mkFn at q
    by_cases hl : ds.length = np
    · rw [if_pos hl] at q
      subst hn
      refine ⟨o, _, _, St, StRel.begin sr rx hl hpn, ?_⟩
      have e : o.wi (fun _ => none) = o := Om.ext rfl rfl rfl fun a => ⟨fun z => z.elim id (fun ⟨i, q⟩ => nomatch q), .inl⟩
      rw [e]
      cases et : t (ds.map Slot.val ++ List.replicate (N.length - np) .no) St with
      | rt d S' => rw [et] at q; exact q
      | nx G S' =>
        rw [et] at q
        intro o' lo' σ' H' r m
        exact q o' .non H' r.x r.s0 .non
      | bk _ _ => rw [et] at q; exact q.elim
      | ct _ _ => rw [et] at q; exact q.elim
      | exc _ _ _ => rw [et] at q; exact q.elim
      | bad => rw [et] at q; exact q.elim
    · rw [if_neg hl] at q; exact q.elim
end
end DL

end
section
set_option maxRecDepth 100000
set_option maxHeartbeats 4000000

namespace DL
open PySem PySem.Spec PyProof.Rows L2
def top (i : Nat) : Stmt := PySem.Challenge.pw_psaltery_k28_whole_carries_that_wait.main.body.getD i (.Pass ⟨0, 0, 0, 0⟩)
end DL
end
section
set_option maxRecDepth 100000
set_option maxHeartbeats 4000000

namespace DL
open PySem PySem.Spec PyProof.Rows L2
theorem fuel_ex : ∃ n : Nat, 900000 ≤ n := ⟨900000, Nat.le_refl _⟩
noncomputable def FUEL : Nat := Classical.choose fuel_ex
theorem fuel_big : 900000 ≤ FUEL := Classical.choose_spec fuel_ex
/-- fixed -/
noncomputable def b_fixed : St :=
   (sret (esm fJoin (ec (.str [])) (elc (irngS (econs (ebin opSub (evar 1) (ec (.int 1))) (econs (eun opNeg (ec (.int 1))) (econs (eun opNeg (ec (.int 1))) enil)))) (.nm 2) tyes (eite (tru (ebin opAnd (ebin opShr (evar 0) (evar 2)) (ec (.int 1)))) (ec (.str [49])) (ec (.str [48]))) [2])))
noncomputable def s_fixed : Fn := mkFn 2 3 b_fixed
/-- size_of -/
noncomputable def b_size_of : St :=
   (sret (ebits (evar 0)))
noncomputable def s_size_of : Fn := mkFn 1 1 b_size_of
/-- bits_of -/
noncomputable def b_bits_of : St :=
   (sret (esm fJoin (ec (.str [])) (elc (iseq (evar 0)) (.nm 1) tyes (ecall s_fixed (econs (evar 1) (econs (ec (.int 8)) enil))) [1])))
noncomputable def s_bits_of : Fn := mkFn 1 2 b_bits_of
/-- tally_step -/
noncomputable def b_tally_step : St :=
   (sret (etup (econs (ecal fSum (econs (ecut (evar 0) onone (osome (evar 1))) enil)) (econs (eix (evar 0) (evar 1)) (econs (ecal fSum (econs (evar 0) enil)) enil)))))
noncomputable def s_tally_step : Fn := mkFn 2 2 b_tally_step
/-- tally_symbol -/
noncomputable def b_tally_symbol : St :=
   (sseq (sset 2 (strict (ec (.int 0))))
    (sseq (swhile FUEL (strict (tst (ebin opGe (evar 1) (eix (evar 0) (evar 2))))) (sseq (saug 1 (onInts opSub) (strict (eix (evar 0) (evar 2))))
    (saug 2 (onInts opAdd) (strict (ec (.int 1))))))
    (sret (evar 2))))
noncomputable def s_tally_symbol : Fn := mkFn 2 3 b_tally_symbol
/-- first_state -/
noncomputable def b_first_state : St :=
   (sret (etup (econs (ec (.int 0)) (econs (ebin opShl (ec (.int 1)) (ec (.int 32))) (econs (ec (.int 32)) enil)))))
noncomputable def s_first_state : Fn := mkFn 0 0 b_first_state
/-- coded_state -/
noncomputable def b_coded_state : St :=
   (sseq (sasg (.tp [(.nm 2), (.nm 3), (.nm 4)]) (strict (evar 0)))
    (sseq (sasg (.tp [(.nm 5), (.nm 6), (.nm 7)]) (strict (evar 1)))
    (sseq (sset 8 (strict (ebin opDiv (evar 3) (evar 7))))
    (sseq (spar 2 3 (strict (econs (ebin opAdd (evar 2) (ebin opMul (evar 8) (evar 5))) (econs (ebin opMul (evar 8) (evar 6)) enil))))
    (sseq (swhile FUEL (strict (tst (ebin opLt (evar 3) (ec (.int 16777216))))) (spar3 2 3 4 (strict (econs (ebin opShl (evar 2) (ec (.int 8))) (econs (ebin opShl (evar 3) (ec (.int 8))) (econs (ebin opAdd (evar 4) (ec (.int 8))) enil))))))
    (sret (etup (econs (evar 2) (econs (evar 3) (econs (evar 4) enil))))))))))
noncomputable def s_coded_state : Fn := mkFn 2 9 b_coded_state
/-- state_of_steps -/
noncomputable def b_state_of_steps : St :=
   (sseq (sset 1 (strict (ecall s_first_state enil)))
    (sseq (sfor (strict (iseq (evar 0))) (.nm 2) (sset 1 (strict (ecall s_coded_state (econs (evar 1) (econs (evar 2) enil))))))
    (sret (evar 1))))
noncomputable def s_state_of_steps : Fn := mkFn 1 3 b_state_of_steps
/-- has_multiple -/
noncomputable def b_has_multiple : St :=
   (sseq (sasg (.tp [(.nm 2), (.nm 3), (.nm 4)]) (strict (evar 0)))
    (sret (ebin opLt (ebin opShl (ebin opAdd (ebin opShr (ebin opSub (evar 2) (ec (.int 1))) (evar 1)) (ec (.int 1))) (evar 1)) (ebin opAdd (evar 2) (evar 3)))))
noncomputable def s_has_multiple : Fn := mkFn 2 5 b_has_multiple
/-- free_figures -/
noncomputable def b_free_figures : St :=
   (sseq (sset 1 (strict (ebin opSub (ecall s_size_of (econs (eix (evar 0) (ec (.int 1))) enil)) (ec (.int 1)))))
    (sseq (swhile FUEL (strict (band (tst (ebin opLt (evar 1) (eix (evar 0) (ec (.int 2))))) (tru (ecall s_has_multiple (econs (evar 0) (econs (ebin opAdd (evar 1) (ec (.int 1))) enil)))))) (saug 1 (onInts opAdd) (strict (ec (.int 1)))))
    (sret (evar 1))))
noncomputable def s_free_figures : Fn := mkFn 1 2 b_free_figures
/-- state_code -/
noncomputable def b_state_code : St :=
   (sseq (sset 1 (strict (ecall s_free_figures (econs (evar 0) enil))))
    (sret (ecall s_fixed (econs (ebin opAdd (ebin opShr (ebin opSub (eix (evar 0) (ec (.int 0))) (ec (.int 1))) (evar 1)) (ec (.int 1))) (econs (ebin opSub (eix (evar 0) (ec (.int 2))) (evar 1)) enil)))))
noncomputable def s_state_code : Fn := mkFn 1 2 b_state_code
/-- state_settled -/
noncomputable def b_state_settled : St :=
   (sseq (sasg (.tp [(.nm 1), (.nm 2), (.nm 3)]) (strict (evar 0)))
    (sseq (sset 4 (strict (ebin opSub (ebin opAdd (evar 1) (evar 2)) (ec (.int 1)))))
    (sseq (sown 5 (fstr (elst enil)))
    (sseq (swhile FUEL (strict (band (tst (ebin opGe (evar 3) (ec (.int 8)))) (tst (ebin opEq (ebin opShr (evar 1) (ebin opSub (evar 3) (ec (.int 8)))) (ebin opShr (evar 4) (ebin opSub (evar 3) (ec (.int 8)))))))) (sseq (saug 3 (onInts opSub) (strict (ec (.int 8))))
    (sadd 5 addOne (strict (ebin opMod (ebin opShr (evar 1) (evar 3)) (ec (.int 256)))))))
    (sfrz 5 (sret (ecal fTuple (econs (evar 5) enil))))))))
noncomputable def s_state_settled : Fn := mkFn 1 6 b_state_settled
/-- code_of_steps -/
noncomputable def b_code_of_steps : St :=
   (sret (ecall s_state_code (econs (ecall s_state_of_steps (econs (evar 0) enil)) enil)))
noncomputable def s_code_of_steps : Fn := mkFn 1 1 b_code_of_steps
/-- code_length -/
noncomputable def b_code_length : St :=
   (sseq (sset 1 (strict (ecall s_state_of_steps (econs (evar 0) enil))))
    (sret (ebin opSub (eix (evar 1) (ec (.int 2))) (ecall s_free_figures (econs (evar 1) enil)))))
noncomputable def s_code_length : Fn := mkFn 1 2 b_code_length
/-- settled_bytes -/
noncomputable def b_settled_bytes : St :=
   (sret (ecall s_state_settled (econs (ecall s_state_of_steps (econs (evar 0) enil)) enil)))
noncomputable def s_settled_bytes : Fn := mkFn 1 1 b_settled_bytes
/-- RangeWriter.__init__ -/
noncomputable def b_RangeWriter___init__ : St :=
   (sseq (sfset (strict (evar 0)) 2 0 (strict (etup enil)))
    (sfset (strict (evar 0)) 2 1 (strict (ecall s_first_state enil))))
noncomputable def s_RangeWriter___init__ : Fn := mkFn 1 1 b_RangeWriter___init__
/-- RangeWriter.put_step -/
noncomputable def b_RangeWriter_put_step : St :=
   (sseq (sasg (.tp [(.nm 2), (.nm 3), (.nm 4)]) (strict (ecall s_coded_state (econs (efld (evar 0) 2 1) (econs (evar 1) enil)))))
    (sseq (sset 5 (strict (ecall s_state_settled (econs (etup (econs (evar 2) (econs (evar 3) (econs (evar 4) enil)))) enil))))
    (sseq (saug 4 (onInts opSub) (strict (ebin opMul (ec (.int 8)) (elen (evar 5)))))
    (sseq (sfset (strict (evar 0)) 2 1 (strict (etup (econs (ebin opMod (evar 2) (ebin opShl (ec (.int 1)) (evar 4))) (econs (evar 3) (econs (evar 4) enil))))))
    (sseq (sfset (strict (evar 0)) 2 0 (strict (ebin opAdd (efld (evar 0) 2 0) (evar 5))))
    (sret (evar 5)))))))
noncomputable def s_RangeWriter_put_step : Fn := mkFn 2 6 b_RangeWriter_put_step
/-- RangeWriter.code_so_far -/
noncomputable def b_RangeWriter_code_so_far : St :=
   (sret (esm fRstrip (ebin opAdd (ecall s_bits_of (econs (efld (evar 0) 2 0) enil)) (ecall s_state_code (econs (efld (evar 0) 2 1) enil))) (ec (.str [48]))))
noncomputable def s_RangeWriter_code_so_far : Fn := mkFn 1 1 b_RangeWriter_code_so_far
/-- RangeReader.__init__ -/
noncomputable def b_RangeReader___init__ : St :=
   (sseq (sfset (strict (evar 0)) 3 0 (strict (evar 1)))
    (sfset (strict (evar 0)) 3 1 (strict (ecall s_first_state enil))))
noncomputable def s_RangeReader___init__ : Fn := mkFn 2 2 b_RangeReader___init__
/-- RangeReader.found_place -/
noncomputable def b_RangeReader_found_place : St :=
   (sseq (sasg (.tp [(.nm 2), (.nm 3), (.nm 4)]) (strict (efld (evar 0) 3 1)))
    (sseq (sset 5 (strict (ecut (efld (evar 0) 3 0) onone (osome (evar 4)))))
    (sseq (sset 6 (strict (ebin opDiv (ebin opSub (ecal fInt (econs (ebin opAdd (evar 5) (ebin opMul (ec (.str [48])) (ebin opSub (evar 4) (elen (evar 5))))) (econs (ec (.int 2)) enil))) (evar 2)) (ebin opDiv (evar 3) (evar 1)))))
    (sseq (sif (strict (tst (ebin opGe (evar 6) (evar 1)))) sbad snx)
    (sret (evar 6))))))
noncomputable def s_RangeReader_found_place : Fn := mkFn 2 7 b_RangeReader_found_place
/-- RangeReader.find_symbol -/
noncomputable def b_RangeReader_find_symbol : St :=
   (sseq (sset 2 (strict (ecall s_tally_symbol (econs (evar 1) (econs (emeth (evar 0) 3 s_RangeReader_found_place (econs (ecal fSum (econs (evar 1) enil)) enil)) enil)))))
    (sseq (sfset (strict (evar 0)) 3 1 (strict (ecall s_coded_state (econs (efld (evar 0) 3 1) (econs (ecall s_tally_step (econs (evar 1) (econs (evar 2) enil))) enil)))))
    (sret (evar 2))))
noncomputable def s_RangeReader_find_symbol : Fn := mkFn 2 3 b_RangeReader_find_symbol
/-- RangeReader.find_figures -/
noncomputable def b_RangeReader_find_figures : St :=
   (sseq (sset 2 (strict (emeth (evar 0) 3 s_RangeReader_found_place (econs (ebin opShl (ec (.int 1)) (evar 1)) enil))))
    (sseq (sfset (strict (evar 0)) 3 1 (strict (ecall s_coded_state (econs (efld (evar 0) 3 1) (econs (etup (econs (evar 2) (econs (ec (.int 1)) (econs (ebin opShl (ec (.int 1)) (evar 1)) enil)))) enil)))))
    (sret (evar 2))))
noncomputable def s_RangeReader_find_figures : Fn := mkFn 2 3 b_RangeReader_find_figures
/-- RangeReader.is_ended -/
noncomputable def b_RangeReader_is_ended : St :=
   (sret (ebin opEq (ecall s_state_code (econs (efld (evar 0) 3 1) enil)) (efld (evar 0) 3 0)))
noncomputable def s_RangeReader_is_ended : Fn := mkFn 1 1 b_RangeReader_is_ended
/-- _law_cell -/
noncomputable def b__law_cell : St :=
   (sseq (sif (strict (tst (ebin opLt (evar 1) (elen (evar 0))))) (sret (eix (evar 0) (evar 1))) snx)
    (sret (ebin opAdd (ebin opMul (ec (.int 5)) (evar 1)) (ec (.int 3)))))
noncomputable def s__law_cell : Fn := mkFn 2 2 b__law_cell
/-- _law_draws -/
noncomputable def b__law_draws : St :=
   (sseq (sset 2 (strict (ecal fAbs (econs (ecal fInt (econs (evar 0) enil)) enil))))
    (sseq (sset 3 (strict (ebin opGe (evar 2) (ebin opPow (ec (.int 10)) (ec (.int 18))))))
    (sseq (sset 4 (strict (evar 2)))
    (sseq (sown 5 (fstr (elst enil)))
    (sseq (sfor (strict (irng1 (econs (evar 1) enil))) (.nm 6) (sif (strict (band (tru (evar 3)) (tst (ebin opGt (evar 2) (ec (.int 0)))))) (sseq (sadd 5 addOne (strict (ebin opMod (ecal fInt (econs (evar 2) enil)) (ec (.int 5040)))))
    (sset 2 (strict (ebin opDiv (evar 2) (ec (.int 5040)))))) (sseq (sset 7 (strict (ebin opMod (ecal fInt (econs (ebin opAdd (ebin opAdd (ebin opMul (evar 4) (ec (.int 48271))) (ebin opMul (ebin opAdd (evar 6) (ec (.int 1))) (ec (.int 69621)))) (ec (.int 11))) enil)) (ec (.int 2147483647)))))
    (sseq (sset 7 (strict (ebin opMod (ecal fInt (econs (ebin opAdd (ebin opMul (evar 7) (evar 7)) (ebin opMul (ec (.int 40692)) (ebin opAdd (evar 6) (ec (.int 3))))) enil)) (ec (.int 2147483399)))))
    (sadd 5 addOne (strict (ebin opMod (ecal fInt (econs (ebin opDiv (evar 7) (ec (.int 64))) enil)) (ec (.int 5040)))))))))
    (sfrz 5 (sret (evar 5))))))))
noncomputable def s__law_draws : Fn := mkFn 2 8 b__law_draws
/-- _law_is_integer -/
noncomputable def b__law_is_integer : St :=
   (sret (eand (eisi (evar 0) .int) (enot (eisi (evar 0) .bool))))
noncomputable def s__law_is_integer : Fn := mkFn 1 1 b__law_is_integer
/-- _law_is -/
noncomputable def b__law_is (self_ : Fn) : St :=
   (sseq (sif (strict (tst (ebin opIs (evar 1) (ec .non)))) (sret (ebin opIs (evar 0) (ec .non))) snx)
    (sseq (sif (strict (tru (eisi (evar 1) .bool))) (sret (eand (eisi (evar 0) .bool) (ebin opEq (evar 0) (evar 1)))) snx)
    (sseq (sif (strict (tru (eisi (evar 1) .int))) (sret (eand (ecall s__law_is_integer (econs (evar 0) enil)) (ebin opEq (evar 0) (evar 1)))) snx)
    (sseq (sif (strict (tru (eisi (evar 1) .str))) (sret (eand (eisi (evar 0) .str) (ebin opEq (evar 0) (evar 1)))) snx)
    (sseq (sif (strict (bor (bnot (tru (eisi (evar 0) .tuple))) (tst (ebin opNe (elen (evar 0)) (elen (evar 1)))))) (sret (ec (.bl false))) snx)
    (sret (ecal fAll (econs (elc (irng1 (econs (elen (evar 1)) enil)) (.nm 2) tyes (ecall self_ (econs (eix (evar 0) (evar 2)) (econs (eix (evar 1) (evar 2)) enil))) [2]) enil))))))))
noncomputable def s__law_is : Nat → Fn
  | 0 => fun _ _ => .bad
  | n + 1 => mkFn 2 3 (b__law_is (s__law_is n))
/-- _law_number -/
noncomputable def b__law_number : St :=
   (sseq (sset 1 (strict (ec (.int 0))))
    (sseq (sfor (strict (iseq (evar 0))) (.nm 2) (sset 1 (strict (ebin opAdd (ebin opMul (ec (.int 2)) (evar 1)) (eite (tst (ebin opEq (evar 2) (ec (.str [49])))) (ec (.int 1)) (ec (.int 0)))))))
    (sret (evar 1))))
noncomputable def s__law_number : Fn := mkFn 1 3 b__law_number
/-- _law_made_steps -/
noncomputable def b__law_made_steps : St :=
   (sseq (sown 2 (fstr (elst enil)))
    (sseq (sfor (strict (irng1 (econs (evar 1) enil))) (.nm 3) (sseq (sasg (.tp [(.nm 4), (.nm 5), (.nm 6)]) (strict (elc (iseq (ecut (evar 0) (osome (ebin opMul (ec (.int 3)) (evar 3))) (osome (ebin opAdd (ebin opMul (ec (.int 3)) (evar 3)) (ec (.int 3)))))) (.nm 9) tyes (ecal fInt (econs (evar 9) enil)) [9])))
    (sseq (sset 7 (strict (eix (etup (econs (ec (.int 1)) (econs (ec (.int 2)) (econs (ec (.int 3)) (econs (ec (.int 256)) (econs (ec (.int 4095)) (econs (ec (.int 4096)) (econs (ebin opAdd (ec (.int 1)) (ebin opMod (evar 5) (ec (.int 4096)))) (econs (ebin opAdd (ec (.int 2)) (ebin opMod (evar 5) (ec (.int 9)))) enil))))))))) (ebin opMod (evar 4) (ec (.int 8))))))
    (sseq (sset 8 (strict (ebin opMod (evar 6) (evar 7))))
    (sadd 2 addOne (strict (etup (econs (evar 8) (econs (ebin opAdd (ec (.int 1)) (ebin opMod (ebin opAdd (ebin opDiv (evar 5) (ec (.int 3))) (ebin opDiv (evar 4) (ec (.int 8)))) (ebin opSub (evar 7) (evar 8)))) (econs (evar 7) enil))))))))))
    (sfrz 2 (sret (ecal fTuple (econs (evar 2) enil))))))
noncomputable def s__law_made_steps : Fn := mkFn 2 10 b__law_made_steps
/-- _law_coded -/
noncomputable def b__law_coded : St :=
   (sseq (sasg (.tp [(.nm 2), (.nm 3), (.nm 4)]) (strict (evar 0)))
    (sseq (sasg (.tp [(.nm 5), (.nm 6), (.nm 7)]) (strict (evar 1)))
    (sseq (sset 8 (strict (ebin opDiv (evar 3) (evar 7))))
    (sseq (spar 2 3 (strict (econs (ebin opAdd (evar 2) (ebin opMul (evar 8) (evar 5))) (econs (ebin opMul (evar 8) (evar 6)) enil))))
    (sseq (swhile FUEL (strict (tst (ebin opLt (evar 3) (ec (.int 16777216))))) (spar3 2 3 4 (strict (econs (ebin opMul (evar 2) (ec (.int 256))) (econs (ebin opMul (evar 3) (ec (.int 256))) (econs (ebin opAdd (evar 4) (ec (.int 8))) enil))))))
    (sret (etup (econs (evar 2) (econs (evar 3) (econs (evar 4) enil))))))))))
noncomputable def s__law_coded : Fn := mkFn 2 9 b__law_coded
/-- _law_settled -/
noncomputable def b__law_settled : St :=
   (sseq (sasg (.tp [(.nm 1), (.nm 2), (.nm 3)]) (strict (evar 0)))
    (sseq (sown 4 (fstr (elst enil)))
    (sseq (swhile FUEL (strict (band (tst (ebin opGe (evar 3) (ec (.int 8)))) (tst (ebin opEq (ebin opShr (evar 1) (ebin opSub (evar 3) (ec (.int 8)))) (ebin opShr (ebin opSub (ebin opAdd (evar 1) (evar 2)) (ec (.int 1))) (ebin opSub (evar 3) (ec (.int 8)))))))) (sseq (sset 3 (strict (ebin opSub (evar 3) (ec (.int 8)))))
    (sadd 4 addOne (strict (ebin opAnd (ebin opShr (evar 1) (evar 3)) (ec (.int 255)))))))
    (sfrz 4 (sret (ecal fTuple (econs (evar 4) enil)))))))
noncomputable def s__law_settled : Fn := mkFn 1 5 b__law_settled
/-- _law_fixed -/
noncomputable def b__law_fixed : St :=
   (sret (esm fJoin (ec (.str [])) (elc (irngS (econs (ebin opSub (evar 1) (ec (.int 1))) (econs (ebin opSub (ec (.int 0)) (ec (.int 1))) (econs (ebin opSub (ec (.int 0)) (ec (.int 1))) enil)))) (.nm 2) tyes (eite (tru (ebin opAnd (ebin opShr (evar 0) (evar 2)) (ec (.int 1)))) (ec (.str [49])) (ec (.str [48]))) [2])))
noncomputable def s__law_fixed : Fn := mkFn 2 3 b__law_fixed
/-- _law_state_code -/
noncomputable def b__law_state_code : St :=
   (sseq (sasg (.tp [(.nm 1), (.nm 2), (.nm 3)]) (strict (evar 0)))
    (sseq (sset 4 (strict (ec (.int 0))))
    (sseq (swhile FUEL (strict (band (tst (ebin opLt (evar 4) (evar 3))) (tst (ebin opLt (ebin opSub (ec (.int 0)) (ebin opMul (ebin opDiv (ebin opSub (ec (.int 0)) (evar 1)) (ebin opShl (ec (.int 2)) (evar 4))) (ebin opShl (ec (.int 2)) (evar 4)))) (ebin opAdd (evar 1) (evar 2)))))) (sset 4 (strict (ebin opAdd (evar 4) (ec (.int 1))))))
    (sret (ecall s__law_fixed (econs (ebin opSub (ec (.int 0)) (ebin opDiv (ebin opSub (ec (.int 0)) (evar 1)) (ebin opShl (ec (.int 1)) (evar 4)))) (econs (ebin opSub (evar 3) (evar 4)) enil)))))))
noncomputable def s__law_state_code : Fn := mkFn 1 5 b__law_state_code
/-- _law_state -/
noncomputable def b__law_state : St :=
   (sseq (sset 1 (strict (etup (econs (ec (.int 0)) (econs (ec (.int 4294967296)) (econs (ec (.int 32)) enil))))))
    (sseq (sfor (strict (iseq (evar 0))) (.nm 2) (sset 1 (strict (ecall s__law_coded (econs (evar 1) (econs (evar 2) enil))))))
    (sret (evar 1))))
noncomputable def s__law_state : Fn := mkFn 1 3 b__law_state
/-- _law_code -/
noncomputable def b__law_code : St :=
   (sret (ecall s__law_state_code (econs (ecall s__law_state (econs (evar 0) enil)) enil)))
noncomputable def s__law_code : Fn := mkFn 1 1 b__law_code
/-- _law_bytes_in -/
noncomputable def b__law_bytes_in : St :=
   (sret (ecal fTuple (econs (elc (irng1 (econs (ebin opDiv (elen (evar 0)) (ec (.int 8))) enil)) (.nm 1) tyes (ecall s__law_number (econs (ecut (evar 0) (osome (ebin opMul (ec (.int 8)) (evar 1))) (osome (ebin opAdd (ebin opMul (ec (.int 8)) (evar 1)) (ec (.int 8))))) enil)) [1]) enil)))
noncomputable def s__law_bytes_in : Fn := mkFn 1 2 b__law_bytes_in
/-- _law_waits -/
noncomputable def b__law_waits : St :=
   (sseq (sset 2 (strict (enew 2 2 s_RangeWriter___init__ enil)))
    (sseq (sset 3 (strict (ebin opMul (etup (econs (etup (econs (ec (.int 1)) (econs (ec (.int 2)) (econs (ec (.int 4)) enil)))) enil)) (evar 0))))
    (sseq (sfor (strict (irng1 (econs (evar 0) enil))) (.nm 4) (sif (strict (bor (bnot (tru (ecall (s__law_is 8) (econs (emeth (evar 2) 2 s_RangeWriter_put_step (econs (etup (econs (ec (.int 1)) (econs (ec (.int 2)) (econs (ec (.int 4)) enil)))) enil)) (econs (etup enil) enil))))) (bnot (tru (ecall (s__law_is 8) (econs (emeth (evar 2) 2 s_RangeWriter_code_so_far enil) (econs (ec (.str [49])) enil))))))) (sret (ec (.bl false))) snx))
    (sseq (sif (strict (bor (bnot (tru (ecall (s__law_is 8) (econs (ecall s_code_of_steps (econs (evar 3) enil)) (econs (ec (.str [49])) enil))))) (bnot (tru (ecall (s__law_is 8) (econs (ecall s_settled_bytes (econs (evar 3) enil)) (econs (etup enil) enil))))))) (sret (ec (.bl false))) snx)
    (sseq (sset 5 (strict (eix (etup (econs (etup (econs (ec (.int 0)) (econs (ec (.int 1)) (econs (ec (.int 2)) enil)))) (econs (etup (econs (ec (.int 1)) (econs (ec (.int 1)) (econs (ec (.int 2)) enil)))) enil))) (evar 1))))
    (sseq (sset 6 (strict (eix (etup (econs (ebin opAdd (ec (.str [48])) (ebin opMul (ec (.str [49])) (evar 0))) (econs (ebin opAdd (ec (.str [49])) (ebin opMul (ec (.str [48])) (evar 0))) enil))) (evar 1))))
    (sseq (sset 7 (strict (ecall s__law_bytes_in (econs (evar 6) enil))))
    (sseq (sif (strict (bor (bnot (tru (ecall (s__law_is 8) (econs (emeth (evar 2) 2 s_RangeWriter_put_step (econs (evar 5) enil)) (econs (evar 7) enil))))) (bnot (tru (ecall (s__law_is 8) (econs (ecall s_settled_bytes (econs (ebin opAdd (evar 3) (etup (econs (evar 5) enil))) enil)) (econs (evar 7) enil))))))) (sret (ec (.bl false))) snx)
    (sseq (sset 8 (strict (eix (etup (econs (evar 6) (econs (ec (.str [49])) enil))) (evar 1))))
    (sseq (sif (strict (bor (bnot (tru (ecall (s__law_is 8) (econs (emeth (evar 2) 2 s_RangeWriter_code_so_far enil) (econs (evar 8) enil))))) (bnot (tru (ecall (s__law_is 8) (econs (ecall s_code_of_steps (econs (ebin opAdd (evar 3) (etup (econs (evar 5) enil))) enil)) (econs (evar 8) enil))))))) (sret (ec (.bl false))) snx)
    (sret (ecall (s__law_is 8) (econs (ecall s_code_length (econs (ebin opAdd (evar 3) (etup (econs (evar 5) enil))) enil)) (econs (elen (evar 8)) enil))))))))))))))
noncomputable def s__law_waits : Fn := mkFn 2 9 b__law_waits
/-- _law_goes_on -/
noncomputable def b__law_goes_on : St :=
   (sseq (sset 3 (strict (ebin opAdd (ebin opAdd (ebin opMul (elst (econs (etup (econs (ec (.int 1)) (econs (ec (.int 2)) (econs (ec (.int 4)) enil)))) enil)) (evar 0)) (elst (econs (eix (etup (econs (etup (econs (ec (.int 0)) (econs (ec (.int 1)) (econs (ec (.int 2)) enil)))) (econs (etup (econs (ec (.int 1)) (econs (ec (.int 1)) (econs (ec (.int 2)) enil)))) enil))) (evar 1)) enil))) (ecal fList (econs (ecall s__law_made_steps (econs (evar 2) (econs (ec (.int 6)) enil))) enil)))))
    (sseq (sset 3 (strict (ebin opAdd (ebin opAdd (evar 3) (ebin opMul (elst (econs (etup (econs (ec (.int 1)) (econs (ec (.int 2)) (econs (ec (.int 4)) enil)))) enil)) (ebin opMod (evar 0) (ec (.int 11))))) (ecal fList (econs (ecall s__law_made_steps (econs (ecut (evar 2) (osome (ec (.int 18))) onone) (econs (ec (.int 3)) enil))) enil)))))
    (sseq (spar3 4 5 6 (strict (econs (enew 2 2 s_RangeWriter___init__ enil) (econs (etup (econs (ec (.int 0)) (econs (ec (.int 4294967296)) (econs (ec (.int 32)) enil)))) (econs (etup enil) enil)))))
    (sseq (sfor (strict (iseq (evar 3))) (.nm 7) (sseq (sset 5 (strict (ecall s__law_coded (econs (evar 5) (econs (evar 7) enil)))))
    (sseq (sset 8 (strict (ecall s__law_settled (econs (evar 5) enil))))
    (sseq (sif (strict (bor (bnot (tru (ecall (s__law_is 8) (econs (emeth (evar 4) 2 s_RangeWriter_put_step (econs (evar 7) enil)) (econs (ecut (evar 8) (osome (elen (evar 6))) onone) enil))))) (tst (ebin opNe (ecut (evar 8) onone (osome (elen (evar 6)))) (evar 6))))) (sret (ec (.bl false))) snx)
    (sset 6 (strict (evar 8)))))))
    (sseq (sif (strict (bnot (tru (ecall (s__law_is 8) (econs (emeth (evar 4) 2 s_RangeWriter_code_so_far enil) (econs (ecall s__law_state_code (econs (evar 5) enil)) enil)))))) (sret (ec (.bl false))) snx)
    (sret (eand (ecall (s__law_is 8) (econs (ecall s_state_of_steps (econs (ecal fTuple (econs (evar 3) enil)) enil)) (econs (evar 5) enil))) (ecall (s__law_is 8) (econs (ecall s_settled_bytes (econs (ecal fTuple (econs (evar 3) enil)) enil)) (econs (evar 6) enil))))))))))
noncomputable def s__law_goes_on : Fn := mkFn 3 9 b__law_goes_on
/-- _law_found_again -/
noncomputable def b__law_found_again : St :=
   (sseq (spar 2 3 (strict (econs (etup (econs (ec (.int 1)) (econs (ec (.int 2)) (econs (ec (.int 1)) enil)))) (econs (ebin opMod (ecal fInt (econs (eix (evar 1) (ec (.int 0))) enil)) (ec (.int 3))) enil))))
    (sseq (sset 4 (strict (ebin opAdd (ebin opMul (elst (econs (ec (.int 1)) enil)) (evar 0)) (elst (econs (evar 3) (econs (ebin opSub (ec (.int 2)) (evar 3)) (econs (ec (.int 1)) enil)))))))
    (sseq (sset 5 (strict (elc (iseq (evar 4)) (.nm 9) tyes (eix (etup (econs (etup (econs (ec (.int 0)) (econs (ec (.int 1)) (econs (ec (.int 4)) enil)))) (econs (etup (econs (ec (.int 1)) (econs (ec (.int 2)) (econs (ec (.int 4)) enil)))) (econs (etup (econs (ec (.int 3)) (econs (ec (.int 1)) (econs (ec (.int 4)) enil)))) enil)))) (evar 9)) [9])))
    (sseq (sset 6 (strict (elc (irng1 (econs (ec (.int 4)) enil)) (.nm 11) tyes (ebin opAnd (ecal fInt (econs (eix (evar 1) (ebin opAdd (ec (.int 1)) (evar 11))) enil)) (ec (.int 31))) [11])))
    (sseq (sset 7 (strict (ecall s__law_code (econs (ebin opAdd (evar 5) (elc (iseq (evar 6)) (.nm 10) tyes (etup (econs (evar 10) (econs (ec (.int 1)) (econs (ec (.int 32)) enil)))) [10])) enil))))
    (sseq (sif (strict (bnot (tru (ecall (s__law_is 8) (econs (ecall s_code_of_steps (econs (ebin opAdd (ecal fTuple (econs (evar 5) enil)) (ecal fTuple (econs (elc (iseq (evar 6)) (.nm 10) tyes (etup (econs (evar 10) (econs (ec (.int 1)) (econs (ec (.int 32)) enil)))) [10]) enil))) enil)) (econs (evar 7) enil)))))) (sret (ec (.bl false))) snx)
    (sseq (sset 8 (strict (enew 3 2 s_RangeReader___init__ (econs (evar 7) enil))))
    (sseq (sfor (strict (iseq (evar 4))) (.nm 9) (sif (strict (bnot (tru (ecall (s__law_is 8) (econs (emeth (evar 8) 3 s_RangeReader_find_symbol (econs (evar 2) enil)) (econs (evar 9) enil)))))) (sret (ec (.bl false))) snx))
    (sseq (sfor (strict (iseq (evar 6))) (.nm 10) (sif (strict (bnot (tru (ecall (s__law_is 8) (econs (emeth (evar 8) 3 s_RangeReader_find_figures (econs (ec (.int 5)) enil)) (econs (evar 10) enil)))))) (sret (ec (.bl false))) snx))
    (sret (eand (ecall (s__law_is 8) (econs (emeth (evar 8) 3 s_RangeReader_is_ended enil) (econs (ec (.bl true)) enil))) (ecall (s__law_is 8) (econs (emeth (enew 3 2 s_RangeReader___init__ (econs (ebin opAdd (evar 7) (ec (.str [49]))) enil)) 3 s_RangeReader_is_ended enil) (econs (ec (.bl false)) enil))))))))))))))
noncomputable def s__law_found_again : Fn := mkFn 2 12 b__law_found_again
/-- law -/
noncomputable def b_law : St :=
   (sseq (sfor (strict (irng1 (econs (ec (.int 3)) enil))) (.nm 1) (sseq (sset 2 (strict (ecall s__law_draws (econs (ecall s__law_cell (econs (evar 0) (econs (evar 1) enil))) (econs (ec (.int 40)) enil)))))
    (sseq (spar 3 4 (strict (econs (ebin opAdd (ec (.int 1)) (ebin opMod (ecal fInt (econs (eix (evar 2) (ec (.int 0))) enil)) (ec (.int 60)))) (econs (ebin opMod (ecal fInt (econs (eix (evar 2) (ec (.int 1))) enil)) (ec (.int 2))) enil))))
    (sseq (sif (strict (bor (bnot (tru (ecall s__law_waits (econs (evar 3) (econs (evar 4) enil))))) (bnot (tru (ecall s__law_goes_on (econs (evar 3) (econs (evar 4) (econs (ecut (evar 2) (osome (ec (.int 2))) onone) enil)))))))) (sret (ec (.bl false))) snx)
    (sif (strict (bnot (tru (ecall s__law_found_again (econs (evar 3) (econs (ecut (evar 2) (osome (ec (.int 30))) onone) enil)))))) (sret (ec (.bl false))) snx)))))
    (sret (ec (.bl true))))
noncomputable def s_law : Fn := mkFn 1 5 b_law
end DL
end
section
set_option maxRecDepth 100000
set_option maxHeartbeats 4000000

namespace DL
open PySem PySem.Spec PyProof.Rows L2
def cd_RangeWriter (K : PySem.W.Frag) : CD := ⟨He.ga K "RangeWriter", ["sent", "state"]⟩
def cd_RangeReader (K : PySem.W.Frag) : CD := ⟨He.ga K "RangeReader", ["bits", "state"]⟩
def ct (K : PySem.W.Frag) : CT
  | 2 => some (cd_RangeWriter K)
  | 3 => some (cd_RangeReader K)
  | _ => none
abbrev N_fixed : List Str := ["v", "n", "place"]
theorem sc_fixed : FnScope N_fixed ["v", "n"] (defScope (top 4)) := ⟨rfl, rfl, rfl, by decide +kernel, rfl, by decide +kernel, by decide +kernel⟩
theorem ok_fixed {P : Program} {w : World} {K : PySem.W.Frag} {mg : Str → Option Value} {base : Heap} {f : Addr} {fd : FuncData} (B : BX mg) (F : FunD K "fixed" "fixed" (defArgs (top 4)) (defBody (top 4)) (defScope (top 4)) [] [] f fd) : FA P w K mg base (ct K) 1 f s_fixed := by
  refine FA.mk' (N := N_fixed) (ps := ["v", "n"]) (k := 0) F sc_fixed (F.bindsN fun _ _ _ _ _ _ us hl => match us, hl with | [_, _], _ => rfl) rfl rfl fun cdv A outer s H E hr => ?_
  have nd := sc_fixed.nd
  have hu := hr.units
  exact (psd_one (psd_ret (W := WF) (pd_sm PySem.F.slot_str_join PySem.F.type_str_join mt_joinS (pd_str []) (pd_lc (X := XB P w K mg base N_fixed "fixed" (defScope (top 4)) f cdv A outer s H E) (own := [("place", 2)]) (W' := WF) (pdi_range3 (by rfl) B.range_ (pds_cons (pd_bin os_sub (pd_var 1) pd_int) (pds_cons (pd_un us_neg pd_int) (pds_cons (pd_un us_neg pd_int) pds_nil)))) rfl nd (blkOk_by (N := N_fixed) (sc := defScope (top 4)) (by decide +kernel)) (fun _ _ _ _ _ => (pge_name (i := 2) nd rfl (by first | exact Or.inl rfl | exact Or.inr rfl) (by first | exact Or.inl rfl | exact Or.inr rfl))) (fun _ _ _ _ _ => ptd_nil) (fun _ _ _ _ _ => (pd_ite (pdb_tru (pd_bin os_and (pd_bin os_shr (pd_var 0) (pd_var 2)) pd_int)) (pd_str [49]) (pd_str [48]))) (vs := [2]) rfl (by decide)))))
abbrev N_size_of : List Str := ["v"]
theorem sc_size_of : FnScope N_size_of ["v"] (defScope (top 5)) := ⟨rfl, rfl, rfl, by decide +kernel, rfl, by decide +kernel, by decide +kernel⟩
theorem ok_size_of {P : Program} {w : World} {K : PySem.W.Frag} {mg : Str → Option Value} {base : Heap} {f : Addr} {fd : FuncData} (B : BX mg) (F : FunD K "size_of" "size_of" (defArgs (top 5)) (defBody (top 5)) (defScope (top 5)) [] [] f fd) : FA P w K mg base (ct K) 1 f s_size_of := by
  refine FA.mk' (N := N_size_of) (ps := ["v"]) (k := 0) F sc_size_of (F.bindsN fun _ _ _ _ _ _ us hl => match us, hl with | [_], _ => rfl) rfl rfl fun cdv A outer s H E hr => ?_
  have nd := sc_size_of.nd
  have hu := hr.units
  exact (psd_one (psd_ret (W := WF) (pd_bits (pd_var 0))))
abbrev N_bits_of : List Str := ["row", "byte"]
theorem sc_bits_of : FnScope N_bits_of ["row"] (defScope (top 7)) := ⟨rfl, rfl, rfl, by decide +kernel, rfl, by decide +kernel, by decide +kernel⟩
theorem ok_bits_of {P : Program} {w : World} {K : PySem.W.Frag} {mg : Str → Option Value} {base : Heap} {f : Addr} {fd : FuncData} (B : BX mg) (F_fixed : FI P w K mg base (ct K) 1 "fixed" s_fixed) (F : FunD K "bits_of" "bits_of" (defArgs (top 7)) (defBody (top 7)) (defScope (top 7)) [] [] f fd) : FA P w K mg base (ct K) 2 f s_bits_of := by
  refine FA.mk' (N := N_bits_of) (ps := ["row"]) (k := 1) F sc_bits_of (F.bindsN fun _ _ _ _ _ _ us hl => match us, hl with | [_], _ => rfl) rfl rfl fun cdv A outer s H E hr => ?_
  have nd := sc_bits_of.nd
  have hu := hr.units
  exact (psd_one (psd_ret (W := WF) (pd_sm PySem.F.slot_str_join PySem.F.type_str_join mt_joinS (pd_str []) (pd_lc (X := XB P w K mg base N_bits_of "bits_of" (defScope (top 7)) f cdv A outer s H E) (own := [("byte", 1)]) (W' := WF) (pdi_seq (pd_var 0)) rfl nd (blkOk_by (N := N_bits_of) (sc := defScope (top 7)) (by decide +kernel)) (fun _ _ _ _ _ => (pge_name (i := 1) nd rfl (by first | exact Or.inl rfl | exact Or.inr rfl) (by first | exact Or.inl rfl | exact Or.inr rfl))) (fun _ _ _ _ _ => ptd_nil) (fun _ _ _ _ _ => (pd_call F_fixed (hr.mono (by omega)) (by rfl) (pds_cons (pd_var 1) (pds_cons pd_int pds_nil)))) (vs := [1]) rfl (by decide)))))
abbrev N_tally_step : List Str := ["tally", "symbol"]
theorem sc_tally_step : FnScope N_tally_step ["tally", "symbol"] (defScope (top 9)) := ⟨rfl, rfl, rfl, by decide +kernel, rfl, by decide +kernel, by decide +kernel⟩
theorem ok_tally_step {P : Program} {w : World} {K : PySem.W.Frag} {mg : Str → Option Value} {base : Heap} {f : Addr} {fd : FuncData} (B : BX mg) (F : FunD K "tally_step" "tally_step" (defArgs (top 9)) (defBody (top 9)) (defScope (top 9)) [] [] f fd) : FA P w K mg base (ct K) 1 f s_tally_step := by
  refine FA.mk' (N := N_tally_step) (ps := ["tally", "symbol"]) (k := 0) F sc_tally_step (F.bindsN fun _ _ _ _ _ _ us hl => match us, hl with | [_, _], _ => rfl) rfl rfl fun cdv A outer s H E hr => ?_
  have nd := sc_tally_step.nd
  have hu := hr.units
  exact (psd_one (psd_ret (W := WF) (pd_tup (pds_cons (pd_callB (cs_sum rfl) (by rfl) B.sum_ (by decide +kernel) (pds_cons (pd_cut (pd_var 0) pdo_none (pdo_some (pd_var 1))) pds_nil)) (pds_cons (pd_ix (pd_var 0) (pd_var 1) (by intro _ _; rfl)) (pds_cons (pd_callB (cs_sum rfl) (by rfl) B.sum_ (by decide +kernel) (pds_cons (pd_var 0) pds_nil)) pds_nil))))))
abbrev N_tally_symbol : List Str := ["tally", "at", "symbol"]
theorem sc_tally_symbol : FnScope N_tally_symbol ["tally", "at"] (defScope (top 10)) := ⟨rfl, rfl, rfl, by decide +kernel, rfl, by decide +kernel, by decide +kernel⟩
theorem ok_tally_symbol {P : Program} {w : World} {K : PySem.W.Frag} {mg : Str → Option Value} {base : Heap} {f : Addr} {fd : FuncData} (B : BX mg) (F : FunD K "tally_symbol" "tally_symbol" (defArgs (top 10)) (defBody (top 10)) (defScope (top 10)) [] [] f fd) : FA P w K mg base (ct K) 1 f s_tally_symbol := by
  refine FA.mk' (N := N_tally_symbol) (ps := ["tally", "at"]) (k := 0) F sc_tally_symbol (F.bindsN fun _ _ _ _ _ _ us hl => match us, hl with | [_, _], _ => rfl) rfl rfl fun cdv A outer s H E hr => ?_
  have nd := sc_tally_symbol.nd
  have hu := hr.units
  exact (psd_cons (psd_set (i := 2) (pm_strict (W := WF) pd_int) nd rfl (by first | exact Or.inl rfl | exact Or.inr rfl) (by rfl) (by first | exact Or.inl rfl | exact Or.inr rfl))
    (psd_cons (psd_while (pmb_strict (W := WF) (pdb_cmp os_ge (pd_var 1) (pd_ix (pd_var 0) (pd_var 2) (by intro _ _; rfl)) (by rfl))) (psd_cons (psd_aug (i := 1) (pm_strict (W := WF) (pd_ix (pd_var 0) (pd_var 2) (by intro _ _; rfl))) ios_sub nd rfl (by first | exact Or.inl rfl | exact Or.inr rfl) (by first | exact Or.inl rfl | exact Or.inr rfl))
    (psd_one (psd_aug (i := 2) (pm_strict (W := WF) pd_int) ios_add nd rfl (by first | exact Or.inl rfl | exact Or.inr rfl) (by first | exact Or.inl rfl | exact Or.inr rfl)))) PassesOwn.never)
    (psd_one (psd_ret (W := WF) (pd_var 2)))))
abbrev N_first_state : List Str := []
theorem sc_first_state : FnScope N_first_state [] (defScope (top 14)) := ⟨rfl, rfl, rfl, by decide +kernel, rfl, by decide +kernel, by decide +kernel⟩
theorem ok_first_state {P : Program} {w : World} {K : PySem.W.Frag} {mg : Str → Option Value} {base : Heap} {f : Addr} {fd : FuncData} (B : BX mg) (g_BEGINNING : ∃ t, mg "BEGINNING" = some (.int 32 t)) (F : FunD K "first_state" "first_state" (defArgs (top 14)) (defBody (top 14)) (defScope (top 14)) [] [] f fd) : FA P w K mg base (ct K) 1 f s_first_state := by
  refine FA.mk' (N := N_first_state) (ps := []) (k := 0) F sc_first_state (F.bindsN fun _ _ _ _ _ _ us hl => match us, hl with | [], _ => rfl) rfl rfl fun cdv A outer s H E hr => ?_
  have nd := sc_first_state.nd
  have hu := hr.units
  exact (psd_one (psd_ret (W := WF) (pd_tup (pds_cons pd_int (pds_cons (pd_bin os_shl pd_int (pd_gint (by rfl) g_BEGINNING)) (pds_cons (pd_gint (by rfl) g_BEGINNING) pds_nil))))))
abbrev N_coded_state : List Str := ["state", "step", "low", "wide", "size", "start", "count", "total", "unit"]
theorem sc_coded_state : FnScope N_coded_state ["state", "step"] (defScope (top 15)) := ⟨rfl, rfl, rfl, by decide +kernel, rfl, by decide +kernel, by decide +kernel⟩
theorem ok_coded_state {P : Program} {w : World} {K : PySem.W.Frag} {mg : Str → Option Value} {base : Heap} {f : Addr} {fd : FuncData} (B : BX mg) (g_LEAST : ∃ t, mg "LEAST" = some (.int 16777216 t)) (F : FunD K "coded_state" "coded_state" (defArgs (top 15)) (defBody (top 15)) (defScope (top 15)) [] [] f fd) : FA P w K mg base (ct K) 1 f s_coded_state := by
  refine FA.mk' (N := N_coded_state) (ps := ["state", "step"]) (k := 0) F sc_coded_state (F.bindsN fun _ _ _ _ _ _ us hl => match us, hl with | [_, _], _ => rfl) rfl rfl fun cdv A outer s H E hr => ?_
  have nd := sc_coded_state.nd
  have hu := hr.units
  exact (psd_cons (psd_asg (pm_strict (W := WF) (pd_var 0)) (pgd_tup (n := 3) rfl (pgds_cons (pgd_name (i := 2) nd rfl (by first | exact Or.inl rfl | exact Or.inr rfl) (by first | exact Or.inl rfl | exact Or.inr rfl)) (pgds_cons (pgd_name (i := 3) nd rfl (by first | exact Or.inl rfl | exact Or.inr rfl) (by first | exact Or.inl rfl | exact Or.inr rfl)) (pgds_cons (pgd_name (i := 4) nd rfl (by first | exact Or.inl rfl | exact Or.inr rfl) (by first | exact Or.inl rfl | exact Or.inr rfl)) pgds_nil))) rfl rfl rfl) (by rfl) (by rfl))
    (psd_cons (psd_asg (pm_strict (W := WF) (pd_var 1)) (pgd_tup (n := 3) rfl (pgds_cons (pgd_name (i := 5) nd rfl (by first | exact Or.inl rfl | exact Or.inr rfl) (by first | exact Or.inl rfl | exact Or.inr rfl)) (pgds_cons (pgd_name (i := 6) nd rfl (by first | exact Or.inl rfl | exact Or.inr rfl) (by first | exact Or.inl rfl | exact Or.inr rfl)) (pgds_cons (pgd_name (i := 7) nd rfl (by first | exact Or.inl rfl | exact Or.inr rfl) (by first | exact Or.inl rfl | exact Or.inr rfl)) pgds_nil))) rfl rfl rfl) (by rfl) (by rfl))
    (psd_cons (psd_set (i := 8) (pm_strict (W := WF) (pd_bin os_div (pd_var 3) (pd_var 7))) nd rfl (by first | exact Or.inl rfl | exact Or.inr rfl) (by rfl) (by first | exact Or.inl rfl | exact Or.inr rfl))
    (psd_cons (psd_par (i := 2) (j := 3) (pms_strict (W := WF) (pds_cons (pd_bin os_add (pd_var 2) (pd_bin os_mul (pd_var 8) (pd_var 5))) (pds_cons (pd_bin os_mul (pd_var 8) (pd_var 6)) pds_nil))) rfl nd rfl rfl (by decide) (by rfl) (by rfl) (by rfl) (by rfl))
    (psd_cons (psd_while (pmb_strict (W := WF) (pdb_cmp os_lt (pd_var 3) (pd_gint (by rfl) g_LEAST) (by rfl))) (psd_one (psd_par3 (i := 2) (j := 3) (l := 4) (pms_strict (W := WF) (pds_cons (pd_bin os_shl (pd_var 2) pd_int) (pds_cons (pd_bin os_shl (pd_var 3) pd_int) (pds_cons (pd_bin os_add (pd_var 4) pd_int) pds_nil)))) rfl nd rfl rfl rfl (by decide) (by decide) (by decide) (by rfl) (by rfl) (by rfl) (by rfl) (by rfl))) PassesOwn.never)
    (psd_one (psd_ret (W := WF) (pd_tup (pds_cons (pd_var 2) (pds_cons (pd_var 3) (pds_cons (pd_var 4) pds_nil)))))))))))
abbrev N_state_of_steps : List Str := ["steps", "state", "step"]
theorem sc_state_of_steps : FnScope N_state_of_steps ["steps"] (defScope (top 16)) := ⟨rfl, rfl, rfl, by decide +kernel, rfl, by decide +kernel, by decide +kernel⟩
theorem ok_state_of_steps {P : Program} {w : World} {K : PySem.W.Frag} {mg : Str → Option Value} {base : Heap} {f : Addr} {fd : FuncData} (B : BX mg) (F_coded_state : FI P w K mg base (ct K) 1 "coded_state" s_coded_state) (F_first_state : FI P w K mg base (ct K) 1 "first_state" s_first_state) (F : FunD K "state_of_steps" "state_of_steps" (defArgs (top 16)) (defBody (top 16)) (defScope (top 16)) [] [] f fd) : FA P w K mg base (ct K) 2 f s_state_of_steps := by
  refine FA.mk' (N := N_state_of_steps) (ps := ["steps"]) (k := 1) F sc_state_of_steps (F.bindsN fun _ _ _ _ _ _ us hl => match us, hl with | [_], _ => rfl) rfl rfl fun cdv A outer s H E hr => ?_
  have nd := sc_state_of_steps.nd
  have hu := hr.units
  exact (psd_cons (psd_set (i := 1) (pm_strict (W := WF) (pd_call0 F_first_state (hr.mono (by omega)) (by rfl))) nd rfl (by first | exact Or.inl rfl | exact Or.inr rfl) (by rfl) (by first | exact Or.inl rfl | exact Or.inr rfl))
    (psd_cons (psd_for (pmi_strict (W := WF) (pdi_seq (pd_var 0))) (pgd_name (i := 2) nd rfl (by first | exact Or.inl rfl | exact Or.inr rfl) (by first | exact Or.inl rfl | exact Or.inr rfl)) (psd_one (psd_set (i := 1) (pm_strict (W := WF) (pd_call F_coded_state (hr.mono (by omega)) (by rfl) (pds_cons (pd_var 1) (pds_cons (pd_var 2) pds_nil)))) nd rfl (by first | exact Or.inl rfl | exact Or.inr rfl) (by rfl) (by first | exact Or.inl rfl | exact Or.inr rfl))) PassesOwn.never rfl)
    (psd_one (psd_ret (W := WF) (pd_var 1)))))
abbrev N_has_multiple : List Str := ["state", "shift", "low", "wide", "_"]
theorem sc_has_multiple : FnScope N_has_multiple ["state", "shift"] (defScope (top 17)) := ⟨rfl, rfl, rfl, by decide +kernel, rfl, by decide +kernel, by decide +kernel⟩
theorem ok_has_multiple {P : Program} {w : World} {K : PySem.W.Frag} {mg : Str → Option Value} {base : Heap} {f : Addr} {fd : FuncData} (B : BX mg) (F : FunD K "has_multiple" "has_multiple" (defArgs (top 17)) (defBody (top 17)) (defScope (top 17)) [] [] f fd) : FA P w K mg base (ct K) 1 f s_has_multiple := by
  refine FA.mk' (N := N_has_multiple) (ps := ["state", "shift"]) (k := 0) F sc_has_multiple (F.bindsN fun _ _ _ _ _ _ us hl => match us, hl with | [_, _], _ => rfl) rfl rfl fun cdv A outer s H E hr => ?_
  have nd := sc_has_multiple.nd
  have hu := hr.units
  exact (psd_cons (psd_asg (pm_strict (W := WF) (pd_var 0)) (pgd_tup (n := 3) rfl (pgds_cons (pgd_name (i := 2) nd rfl (by first | exact Or.inl rfl | exact Or.inr rfl) (by first | exact Or.inl rfl | exact Or.inr rfl)) (pgds_cons (pgd_name (i := 3) nd rfl (by first | exact Or.inl rfl | exact Or.inr rfl) (by first | exact Or.inl rfl | exact Or.inr rfl)) (pgds_cons (pgd_name (i := 4) nd rfl (by first | exact Or.inl rfl | exact Or.inr rfl) (by first | exact Or.inl rfl | exact Or.inr rfl)) pgds_nil))) rfl rfl rfl) (by rfl) (by rfl))
    (psd_one (psd_ret (W := WF) (pd_cmp os_lt (pd_bin os_shl (pd_bin os_add (pd_bin os_shr (pd_bin os_sub (pd_var 2) pd_int) (pd_var 1)) pd_int) (pd_var 1)) (pd_bin os_add (pd_var 2) (pd_var 3)) (by rfl)))))
abbrev N_free_figures : List Str := ["state", "shift"]
theorem sc_free_figures : FnScope N_free_figures ["state"] (defScope (top 18)) := ⟨rfl, rfl, rfl, by decide +kernel, rfl, by decide +kernel, by decide +kernel⟩
theorem ok_free_figures {P : Program} {w : World} {K : PySem.W.Frag} {mg : Str → Option Value} {base : Heap} {f : Addr} {fd : FuncData} (B : BX mg) (F_has_multiple : FI P w K mg base (ct K) 1 "has_multiple" s_has_multiple) (F_size_of : FI P w K mg base (ct K) 1 "size_of" s_size_of) (F : FunD K "free_figures" "free_figures" (defArgs (top 18)) (defBody (top 18)) (defScope (top 18)) [] [] f fd) : FA P w K mg base (ct K) 2 f s_free_figures := by
  refine FA.mk' (N := N_free_figures) (ps := ["state"]) (k := 1) F sc_free_figures (F.bindsN fun _ _ _ _ _ _ us hl => match us, hl with | [_], _ => rfl) rfl rfl fun cdv A outer s H E hr => ?_
  have nd := sc_free_figures.nd
  have hu := hr.units
  exact (psd_cons (psd_set (i := 1) (pm_strict (W := WF) (pd_bin os_sub (pd_call F_size_of (hr.mono (by omega)) (by rfl) (pds_cons (pd_ix (pd_var 0) pd_int (by intro _ _; rfl)) pds_nil)) pd_int)) nd rfl (by first | exact Or.inl rfl | exact Or.inr rfl) (by rfl) (by first | exact Or.inl rfl | exact Or.inr rfl))
    (psd_cons (psd_while (pmb_strict (W := WF) (pdb_bool (pdw_and (pdb_cmp os_lt (pd_var 1) (pd_ix (pd_var 0) pd_int (by intro _ _; rfl)) (by rfl)) (pdw_and1 (pdb_tru (pd_call F_has_multiple (hr.mono (by omega)) (by rfl) (pds_cons (pd_var 0) (pds_cons (pd_bin os_add (pd_var 1) pd_int) pds_nil)))))))) (psd_one (psd_aug (i := 1) (pm_strict (W := WF) pd_int) ios_add nd rfl (by first | exact Or.inl rfl | exact Or.inr rfl) (by first | exact Or.inl rfl | exact Or.inr rfl))) PassesOwn.never)
    (psd_one (psd_ret (W := WF) (pd_var 1)))))
abbrev N_state_code : List Str := ["state", "shift"]
theorem sc_state_code : FnScope N_state_code ["state"] (defScope (top 19)) := ⟨rfl, rfl, rfl, by decide +kernel, rfl, by decide +kernel, by decide +kernel⟩
theorem ok_state_code {P : Program} {w : World} {K : PySem.W.Frag} {mg : Str → Option Value} {base : Heap} {f : Addr} {fd : FuncData} (B : BX mg) (F_fixed : FI P w K mg base (ct K) 1 "fixed" s_fixed) (F_free_figures : FI P w K mg base (ct K) 2 "free_figures" s_free_figures) (F : FunD K "state_code" "state_code" (defArgs (top 19)) (defBody (top 19)) (defScope (top 19)) [] [] f fd) : FA P w K mg base (ct K) 3 f s_state_code := by
  refine FA.mk' (N := N_state_code) (ps := ["state"]) (k := 2) F sc_state_code (F.bindsN fun _ _ _ _ _ _ us hl => match us, hl with | [_], _ => rfl) rfl rfl fun cdv A outer s H E hr => ?_
  have nd := sc_state_code.nd
  have hu := hr.units
  exact (psd_cons (psd_set (i := 1) (pm_strict (W := WF) (pd_call F_free_figures (hr.mono (by omega)) (by rfl) (pds_cons (pd_var 0) pds_nil))) nd rfl (by first | exact Or.inl rfl | exact Or.inr rfl) (by rfl) (by first | exact Or.inl rfl | exact Or.inr rfl))
    (psd_one (psd_ret (W := WF) (pd_call F_fixed (hr.mono (by omega)) (by rfl) (pds_cons (pd_bin os_add (pd_bin os_shr (pd_bin os_sub (pd_ix (pd_var 0) pd_int (by intro _ _; rfl)) pd_int) (pd_var 1)) pd_int) (pds_cons (pd_bin os_sub (pd_ix (pd_var 0) pd_int (by intro _ _; rfl)) (pd_var 1)) pds_nil))))))
abbrev N_state_settled : List Str := ["state", "low", "wide", "size", "last", "found"]
theorem sc_state_settled : FnScope N_state_settled ["state"] (defScope (top 20)) := ⟨rfl, rfl, rfl, by decide +kernel, rfl, by decide +kernel, by decide +kernel⟩
theorem ok_state_settled {P : Program} {w : World} {K : PySem.W.Frag} {mg : Str → Option Value} {base : Heap} {f : Addr} {fd : FuncData} (B : BX mg) (F : FunD K "state_settled" "state_settled" (defArgs (top 20)) (defBody (top 20)) (defScope (top 20)) [] [] f fd) : FA P w K mg base (ct K) 1 f s_state_settled := by
  refine FA.mk' (N := N_state_settled) (ps := ["state"]) (k := 0) F sc_state_settled (F.bindsN fun _ _ _ _ _ _ us hl => match us, hl with | [_], _ => rfl) rfl rfl fun cdv A outer s H E hr => ?_
  have nd := sc_state_settled.nd
  have hu := hr.units
  exact (psd_cons (psd_asg (pm_strict (W := WF) (pd_var 0)) (pgd_tup (n := 3) rfl (pgds_cons (pgd_name (i := 1) nd rfl (by first | exact Or.inl rfl | exact Or.inr rfl) (by first | exact Or.inl rfl | exact Or.inr rfl)) (pgds_cons (pgd_name (i := 2) nd rfl (by first | exact Or.inl rfl | exact Or.inr rfl) (by first | exact Or.inl rfl | exact Or.inr rfl)) (pgds_cons (pgd_name (i := 3) nd rfl (by first | exact Or.inl rfl | exact Or.inr rfl) (by first | exact Or.inl rfl | exact Or.inr rfl)) pgds_nil))) rfl rfl rfl) (by rfl) (by rfl))
    (psd_cons (psd_set (i := 4) (pm_strict (W := WF) (pd_bin os_sub (pd_bin os_add (pd_var 1) (pd_var 2)) pd_int)) nd rfl (by first | exact Or.inl rfl | exact Or.inr rfl) (by rfl) (by first | exact Or.inl rfl | exact Or.inr rfl))
    (psd_cons (psd_own (i := 5) (pmf_strict (pdf_lst pds_nil)) nd rfl (by first | exact Or.inl rfl | exact Or.inr rfl) (by rfl) (by first | exact Or.inl rfl | exact Or.inr rfl))
    (psd_cons (psd_while (pmb_strict (W := WF) (pdb_bool (pdw_and (pdb_cmp os_ge (pd_var 3) pd_int (by rfl)) (pdw_and1 (pdb_cmp (os_eq hu) (pd_bin os_shr (pd_var 1) (pd_bin os_sub (pd_var 3) pd_int)) (pd_bin os_shr (pd_var 4) (pd_bin os_sub (pd_var 3) pd_int)) (by rfl)))))) (psd_cons (psd_aug (i := 3) (pm_strict (W := WF) pd_int) ios_sub nd rfl (by first | exact Or.inl rfl | exact Or.inr rfl) (by first | exact Or.inl rfl | exact Or.inr rfl))
    (psd_one (psd_add (i := 5) add_one PySem.F.slot_list_append PySem.F.type_list_append mt_append (pm_strict (W := WF) (pd_bin os_mod (pd_bin os_shr (pd_var 1) (pd_var 3)) pd_int)) rfl (by first | exact Or.inl rfl | exact Or.inr (Or.inl rfl) | exact Or.inr (Or.inr rfl))))) PassesOwn.never)
    (psds_frz (i := 5) (psd_one (psd_ret (W := WF) (pd_callT cs_tuple (by rfl) B.tuple_ (by decide +kernel) (pds_cons (pd_var 5) pds_nil)))))))))
abbrev N_code_of_steps : List Str := ["steps"]
theorem sc_code_of_steps : FnScope N_code_of_steps ["steps"] (defScope (top 21)) := ⟨rfl, rfl, rfl, by decide +kernel, rfl, by decide +kernel, by decide +kernel⟩
theorem ok_code_of_steps {P : Program} {w : World} {K : PySem.W.Frag} {mg : Str → Option Value} {base : Heap} {f : Addr} {fd : FuncData} (B : BX mg) (F_state_code : FI P w K mg base (ct K) 3 "state_code" s_state_code) (F_state_of_steps : FI P w K mg base (ct K) 2 "state_of_steps" s_state_of_steps) (F : FunD K "code_of_steps" "code_of_steps" (defArgs (top 21)) (defBody (top 21)) (defScope (top 21)) [] [] f fd) : FA P w K mg base (ct K) 4 f s_code_of_steps := by
  refine FA.mk' (N := N_code_of_steps) (ps := ["steps"]) (k := 3) F sc_code_of_steps (F.bindsN fun _ _ _ _ _ _ us hl => match us, hl with | [_], _ => rfl) rfl rfl fun cdv A outer s H E hr => ?_
  have nd := sc_code_of_steps.nd
  have hu := hr.units
  exact (psd_one (psd_ret (W := WF) (pd_call F_state_code (hr.mono (by omega)) (by rfl) (pds_cons (pd_call F_state_of_steps (hr.mono (by omega)) (by rfl) (pds_cons (pd_var 0) pds_nil)) pds_nil))))
abbrev N_code_length : List Str := ["steps", "state"]
theorem sc_code_length : FnScope N_code_length ["steps"] (defScope (top 22)) := ⟨rfl, rfl, rfl, by decide +kernel, rfl, by decide +kernel, by decide +kernel⟩
theorem ok_code_length {P : Program} {w : World} {K : PySem.W.Frag} {mg : Str → Option Value} {base : Heap} {f : Addr} {fd : FuncData} (B : BX mg) (F_free_figures : FI P w K mg base (ct K) 2 "free_figures" s_free_figures) (F_state_of_steps : FI P w K mg base (ct K) 2 "state_of_steps" s_state_of_steps) (F : FunD K "code_length" "code_length" (defArgs (top 22)) (defBody (top 22)) (defScope (top 22)) [] [] f fd) : FA P w K mg base (ct K) 3 f s_code_length := by
  refine FA.mk' (N := N_code_length) (ps := ["steps"]) (k := 2) F sc_code_length (F.bindsN fun _ _ _ _ _ _ us hl => match us, hl with | [_], _ => rfl) rfl rfl fun cdv A outer s H E hr => ?_
  have nd := sc_code_length.nd
  have hu := hr.units
  exact (psd_cons (psd_set (i := 1) (pm_strict (W := WF) (pd_call F_state_of_steps (hr.mono (by omega)) (by rfl) (pds_cons (pd_var 0) pds_nil))) nd rfl (by first | exact Or.inl rfl | exact Or.inr rfl) (by rfl) (by first | exact Or.inl rfl | exact Or.inr rfl))
    (psd_one (psd_ret (W := WF) (pd_bin os_sub (pd_ix (pd_var 1) pd_int (by intro _ _; rfl)) (pd_call F_free_figures (hr.mono (by omega)) (by rfl) (pds_cons (pd_var 1) pds_nil))))))
abbrev N_settled_bytes : List Str := ["steps"]
theorem sc_settled_bytes : FnScope N_settled_bytes ["steps"] (defScope (top 23)) := ⟨rfl, rfl, rfl, by decide +kernel, rfl, by decide +kernel, by decide +kernel⟩
theorem ok_settled_bytes {P : Program} {w : World} {K : PySem.W.Frag} {mg : Str → Option Value} {base : Heap} {f : Addr} {fd : FuncData} (B : BX mg) (F_state_of_steps : FI P w K mg base (ct K) 2 "state_of_steps" s_state_of_steps) (F_state_settled : FI P w K mg base (ct K) 1 "state_settled" s_state_settled) (F : FunD K "settled_bytes" "settled_bytes" (defArgs (top 23)) (defBody (top 23)) (defScope (top 23)) [] [] f fd) : FA P w K mg base (ct K) 3 f s_settled_bytes := by
  refine FA.mk' (N := N_settled_bytes) (ps := ["steps"]) (k := 2) F sc_settled_bytes (F.bindsN fun _ _ _ _ _ _ us hl => match us, hl with | [_], _ => rfl) rfl rfl fun cdv A outer s H E hr => ?_
  have nd := sc_settled_bytes.nd
  have hu := hr.units
  exact (psd_one (psd_ret (W := WF) (pd_call F_state_settled (hr.mono (by omega)) (by rfl) (pds_cons (pd_call F_state_of_steps (hr.mono (by omega)) (by rfl) (pds_cons (pd_var 0) pds_nil)) pds_nil))))
abbrev N_RangeWriter___init__ : List Str := ["self"]
theorem sc_RangeWriter___init__ : FnScope N_RangeWriter___init__ ["self"] (defScope (inClass (top 24) 0)) := ⟨rfl, rfl, rfl, by decide +kernel, rfl, by decide +kernel, by decide +kernel⟩
theorem ok_RangeWriter___init__ {P : Program} {w : World} {K : PySem.W.Frag} {mg : Str → Option Value} {base : Heap} {f : Addr} {fd : FuncData} (B : BX mg) (F_first_state : FI P w K mg base (ct K) 1 "first_state" s_first_state) (F : FunD K "__init__" "RangeWriter.__init__" (defArgs (inClass (top 24) 0)) (defBody (inClass (top 24) 0)) (defScope (inClass (top 24) 0)) [] [] f fd) : FA P w K mg base (ct K) 2 f s_RangeWriter___init__ := by
  refine FA.mk' (N := N_RangeWriter___init__) (ps := ["self"]) (k := 1) F sc_RangeWriter___init__ (F.bindsN fun _ _ _ _ _ _ us hl => match us, hl with | [_], _ => rfl) rfl rfl fun cdv A outer s H E hr => ?_
  have nd := sc_RangeWriter___init__.nd
  have hu := hr.units
  exact (psd_cons (psd_fset (c := 2) (j := 0) (cd := cd_RangeWriter K) (pm_strict (W := WF) (pd_tup pds_nil)) (pm_strict (W := WF) (pd_var 0)) rfl rfl (by rfl))
    (psd_one (psd_fset (c := 2) (j := 1) (cd := cd_RangeWriter K) (pm_strict (W := WF) (pd_call0 F_first_state (hr.mono (by omega)) (by rfl))) (pm_strict (W := WF) (pd_var 0)) rfl rfl (by rfl))))
abbrev N_RangeWriter_put_step : List Str := ["self", "step", "low", "wide", "size", "out"]
theorem sc_RangeWriter_put_step : FnScope N_RangeWriter_put_step ["self", "step"] (defScope (inClass (top 24) 1)) := ⟨rfl, rfl, rfl, by decide +kernel, rfl, by decide +kernel, by decide +kernel⟩
theorem ok_RangeWriter_put_step {P : Program} {w : World} {K : PySem.W.Frag} {mg : Str → Option Value} {base : Heap} {f : Addr} {fd : FuncData} (B : BX mg) (F_coded_state : FI P w K mg base (ct K) 1 "coded_state" s_coded_state) (F_state_settled : FI P w K mg base (ct K) 1 "state_settled" s_state_settled) (F : FunD K "put_step" "RangeWriter.put_step" (defArgs (inClass (top 24) 1)) (defBody (inClass (top 24) 1)) (defScope (inClass (top 24) 1)) [] [] f fd) : FA P w K mg base (ct K) 2 f s_RangeWriter_put_step := by
  refine FA.mk' (N := N_RangeWriter_put_step) (ps := ["self", "step"]) (k := 1) F sc_RangeWriter_put_step (F.bindsN fun _ _ _ _ _ _ us hl => match us, hl with | [_, _], _ => rfl) rfl rfl fun cdv A outer s H E hr => ?_
  have nd := sc_RangeWriter_put_step.nd
  have hu := hr.units
  exact (psd_cons (psd_asg (pm_strict (W := WF) (pd_call F_coded_state (hr.mono (by omega)) (by rfl) (pds_cons (pd_fld (c := 2) (j := 1) (cd := cd_RangeWriter K) (pd_var 0) rfl rfl rfl) (pds_cons (pd_var 1) pds_nil)))) (pgd_tup (n := 3) rfl (pgds_cons (pgd_name (i := 2) nd rfl (by first | exact Or.inl rfl | exact Or.inr rfl) (by first | exact Or.inl rfl | exact Or.inr rfl)) (pgds_cons (pgd_name (i := 3) nd rfl (by first | exact Or.inl rfl | exact Or.inr rfl) (by first | exact Or.inl rfl | exact Or.inr rfl)) (pgds_cons (pgd_name (i := 4) nd rfl (by first | exact Or.inl rfl | exact Or.inr rfl) (by first | exact Or.inl rfl | exact Or.inr rfl)) pgds_nil))) rfl rfl rfl) (by rfl) (by rfl))
    (psd_cons (psd_set (i := 5) (pm_strict (W := WF) (pd_call F_state_settled (hr.mono (by omega)) (by rfl) (pds_cons (pd_tup (pds_cons (pd_var 2) (pds_cons (pd_var 3) (pds_cons (pd_var 4) pds_nil)))) pds_nil))) nd rfl (by first | exact Or.inl rfl | exact Or.inr rfl) (by rfl) (by first | exact Or.inl rfl | exact Or.inr rfl))
    (psd_cons (psd_aug (i := 4) (pm_strict (W := WF) (pd_bin os_mul pd_int (pd_len (by rfl) B.len_ (pd_var 5)))) ios_sub nd rfl (by first | exact Or.inl rfl | exact Or.inr rfl) (by first | exact Or.inl rfl | exact Or.inr rfl))
    (psd_cons (psd_fset (c := 2) (j := 1) (cd := cd_RangeWriter K) (pm_strict (W := WF) (pd_tup (pds_cons (pd_bin os_mod (pd_var 2) (pd_bin os_shl pd_int (pd_var 4))) (pds_cons (pd_var 3) (pds_cons (pd_var 4) pds_nil))))) (pm_strict (W := WF) (pd_var 0)) rfl rfl (by rfl))
    (psd_cons (psd_fset (c := 2) (j := 0) (cd := cd_RangeWriter K) (pm_strict (W := WF) (pd_bin os_add (pd_fld (c := 2) (j := 0) (cd := cd_RangeWriter K) (pd_var 0) rfl rfl rfl) (pd_var 5))) (pm_strict (W := WF) (pd_var 0)) rfl rfl (by rfl))
    (psd_one (psd_ret (W := WF) (pd_var 5))))))))
abbrev N_RangeWriter_code_so_far : List Str := ["self"]
theorem sc_RangeWriter_code_so_far : FnScope N_RangeWriter_code_so_far ["self"] (defScope (inClass (top 24) 2)) := ⟨rfl, rfl, rfl, by decide +kernel, rfl, by decide +kernel, by decide +kernel⟩
theorem ok_RangeWriter_code_so_far {P : Program} {w : World} {K : PySem.W.Frag} {mg : Str → Option Value} {base : Heap} {f : Addr} {fd : FuncData} (B : BX mg) (F_bits_of : FI P w K mg base (ct K) 2 "bits_of" s_bits_of) (F_state_code : FI P w K mg base (ct K) 3 "state_code" s_state_code) (F : FunD K "code_so_far" "RangeWriter.code_so_far" (defArgs (inClass (top 24) 2)) (defBody (inClass (top 24) 2)) (defScope (inClass (top 24) 2)) [] [] f fd) : FA P w K mg base (ct K) 4 f s_RangeWriter_code_so_far := by
  refine FA.mk' (N := N_RangeWriter_code_so_far) (ps := ["self"]) (k := 3) F sc_RangeWriter_code_so_far (F.bindsN fun _ _ _ _ _ _ us hl => match us, hl with | [_], _ => rfl) rfl rfl fun cdv A outer s H E hr => ?_
  have nd := sc_RangeWriter_code_so_far.nd
  have hu := hr.units
  exact (psd_one (psd_ret (W := WF) (pd_sm PySem.F.slot_str_rstrip PySem.F.type_str_rstrip mt_rstripS (pd_bin os_add (pd_call F_bits_of (hr.mono (by omega)) (by rfl) (pds_cons (pd_fld (c := 2) (j := 0) (cd := cd_RangeWriter K) (pd_var 0) rfl rfl rfl) pds_nil)) (pd_call F_state_code (hr.mono (by omega)) (by rfl) (pds_cons (pd_fld (c := 2) (j := 1) (cd := cd_RangeWriter K) (pd_var 0) rfl rfl rfl) pds_nil))) (pd_str [48]))))
abbrev N_RangeReader___init__ : List Str := ["self", "bits"]
theorem sc_RangeReader___init__ : FnScope N_RangeReader___init__ ["self", "bits"] (defScope (inClass (top 25) 0)) := ⟨rfl, rfl, rfl, by decide +kernel, rfl, by decide +kernel, by decide +kernel⟩
theorem ok_RangeReader___init__ {P : Program} {w : World} {K : PySem.W.Frag} {mg : Str → Option Value} {base : Heap} {f : Addr} {fd : FuncData} (B : BX mg) (F_first_state : FI P w K mg base (ct K) 1 "first_state" s_first_state) (F : FunD K "__init__" "RangeReader.__init__" (defArgs (inClass (top 25) 0)) (defBody (inClass (top 25) 0)) (defScope (inClass (top 25) 0)) [] [] f fd) : FA P w K mg base (ct K) 2 f s_RangeReader___init__ := by
  refine FA.mk' (N := N_RangeReader___init__) (ps := ["self", "bits"]) (k := 1) F sc_RangeReader___init__ (F.bindsN fun _ _ _ _ _ _ us hl => match us, hl with | [_, _], _ => rfl) rfl rfl fun cdv A outer s H E hr => ?_
  have nd := sc_RangeReader___init__.nd
  have hu := hr.units
  exact (psd_cons (psd_fset (c := 3) (j := 0) (cd := cd_RangeReader K) (pm_strict (W := WF) (pd_var 1)) (pm_strict (W := WF) (pd_var 0)) rfl rfl (by rfl))
    (psd_one (psd_fset (c := 3) (j := 1) (cd := cd_RangeReader K) (pm_strict (W := WF) (pd_call0 F_first_state (hr.mono (by omega)) (by rfl))) (pm_strict (W := WF) (pd_var 0)) rfl rfl (by rfl))))
abbrev N_RangeReader_found_place : List Str := ["self", "total", "low", "wide", "size", "text", "at"]
theorem sc_RangeReader_found_place : FnScope N_RangeReader_found_place ["self", "total"] (defScope (inClass (top 25) 1)) := ⟨rfl, rfl, rfl, by decide +kernel, rfl, by decide +kernel, by decide +kernel⟩
theorem ok_RangeReader_found_place {P : Program} {w : World} {K : PySem.W.Frag} {mg : Str → Option Value} {base : Heap} {f : Addr} {fd : FuncData} (B : BX mg) (F : FunD K "found_place" "RangeReader.found_place" (defArgs (inClass (top 25) 1)) (defBody (inClass (top 25) 1)) (defScope (inClass (top 25) 1)) [] [] f fd) : FA P w K mg base (ct K) 1 f s_RangeReader_found_place := by
  refine FA.mk' (N := N_RangeReader_found_place) (ps := ["self", "total"]) (k := 0) F sc_RangeReader_found_place (F.bindsN fun _ _ _ _ _ _ us hl => match us, hl with | [_, _], _ => rfl) rfl rfl fun cdv A outer s H E hr => ?_
  have nd := sc_RangeReader_found_place.nd
  have hu := hr.units
  exact (psd_cons (psd_asg (pm_strict (W := WF) (pd_fld (c := 3) (j := 1) (cd := cd_RangeReader K) (pd_var 0) rfl rfl rfl)) (pgd_tup (n := 3) rfl (pgds_cons (pgd_name (i := 2) nd rfl (by first | exact Or.inl rfl | exact Or.inr rfl) (by first | exact Or.inl rfl | exact Or.inr rfl)) (pgds_cons (pgd_name (i := 3) nd rfl (by first | exact Or.inl rfl | exact Or.inr rfl) (by first | exact Or.inl rfl | exact Or.inr rfl)) (pgds_cons (pgd_name (i := 4) nd rfl (by first | exact Or.inl rfl | exact Or.inr rfl) (by first | exact Or.inl rfl | exact Or.inr rfl)) pgds_nil))) rfl rfl rfl) (by rfl) (by rfl))
    (psd_cons (psd_set (i := 5) (pm_strict (W := WF) (pd_cut (pd_fld (c := 3) (j := 0) (cd := cd_RangeReader K) (pd_var 0) rfl rfl rfl) pdo_none (pdo_some (pd_var 4)))) nd rfl (by first | exact Or.inl rfl | exact Or.inr rfl) (by rfl) (by first | exact Or.inl rfl | exact Or.inr rfl))
    (psd_cons (psd_set (i := 6) (pm_strict (W := WF) (pd_bin os_div (pd_bin os_sub (pd_callT cs_int (by rfl) B.int_ (by decide +kernel) (pds_cons (pd_bin os_add (pd_var 5) (pd_bin os_mul (pd_str [48]) (pd_bin os_sub (pd_var 4) (pd_len (by rfl) B.len_ (pd_var 5))))) (pds_cons pd_int pds_nil))) (pd_var 2)) (pd_bin os_div (pd_var 3) (pd_var 1)))) nd rfl (by first | exact Or.inl rfl | exact Or.inr rfl) (by rfl) (by first | exact Or.inl rfl | exact Or.inr rfl))
    (psd_cons (psd_if (pmb_strict (W := WF) (pdb_cmp os_ge (pd_var 6) (pd_var 1) (by rfl))) (psd_one psd_bad) psd_nil)
    (psd_one (psd_ret (W := WF) (pd_var 6)))))))
abbrev N_RangeReader_find_symbol : List Str := ["self", "tally", "symbol"]
theorem sc_RangeReader_find_symbol : FnScope N_RangeReader_find_symbol ["self", "tally"] (defScope (inClass (top 25) 2)) := ⟨rfl, rfl, rfl, by decide +kernel, rfl, by decide +kernel, by decide +kernel⟩
theorem ok_RangeReader_find_symbol {P : Program} {w : World} {K : PySem.W.Frag} {mg : Str → Option Value} {base : Heap} {f : Addr} {fd : FuncData} (B : BX mg) (C_RangeReader : CDok K (cd_RangeReader K)) (M_RangeReader_found_place : MI P w K mg base (ct K) 1 (cd_RangeReader K).C "found_place" s_RangeReader_found_place) (F_coded_state : FI P w K mg base (ct K) 1 "coded_state" s_coded_state) (F_tally_step : FI P w K mg base (ct K) 1 "tally_step" s_tally_step) (F_tally_symbol : FI P w K mg base (ct K) 1 "tally_symbol" s_tally_symbol) (F : FunD K "find_symbol" "RangeReader.find_symbol" (defArgs (inClass (top 25) 2)) (defBody (inClass (top 25) 2)) (defScope (inClass (top 25) 2)) [] [] f fd) : FA P w K mg base (ct K) 2 f s_RangeReader_find_symbol := by
  refine FA.mk' (N := N_RangeReader_find_symbol) (ps := ["self", "tally"]) (k := 1) F sc_RangeReader_find_symbol (F.bindsN fun _ _ _ _ _ _ us hl => match us, hl with | [_, _], _ => rfl) rfl rfl fun cdv A outer s H E hr => ?_
  have nd := sc_RangeReader_find_symbol.nd
  have hu := hr.units
  exact (psd_cons (psd_set (i := 2) (pm_strict (W := WF) (pd_call F_tally_symbol (hr.mono (by omega)) (by rfl) (pds_cons (pd_var 1) (pds_cons (pd_meth (c := 3) (cd := cd_RangeReader K) (pd_var 0) rfl C_RangeReader (show _ ∉ (["bits", "state"] : List Str) by decide) M_RangeReader_found_place (hr.mono (by omega)) (pds_cons (pd_callB (cs_sum rfl) (by rfl) B.sum_ (by decide +kernel) (pds_cons (pd_var 1) pds_nil)) pds_nil)) pds_nil)))) nd rfl (by first | exact Or.inl rfl | exact Or.inr rfl) (by rfl) (by first | exact Or.inl rfl | exact Or.inr rfl))
    (psd_cons (psd_fset (c := 3) (j := 1) (cd := cd_RangeReader K) (pm_strict (W := WF) (pd_call F_coded_state (hr.mono (by omega)) (by rfl) (pds_cons (pd_fld (c := 3) (j := 1) (cd := cd_RangeReader K) (pd_var 0) rfl rfl rfl) (pds_cons (pd_call F_tally_step (hr.mono (by omega)) (by rfl) (pds_cons (pd_var 1) (pds_cons (pd_var 2) pds_nil))) pds_nil)))) (pm_strict (W := WF) (pd_var 0)) rfl rfl (by rfl))
    (psd_one (psd_ret (W := WF) (pd_var 2)))))
abbrev N_RangeReader_find_figures : List Str := ["self", "n", "at"]
theorem sc_RangeReader_find_figures : FnScope N_RangeReader_find_figures ["self", "n"] (defScope (inClass (top 25) 3)) := ⟨rfl, rfl, rfl, by decide +kernel, rfl, by decide +kernel, by decide +kernel⟩
theorem ok_RangeReader_find_figures {P : Program} {w : World} {K : PySem.W.Frag} {mg : Str → Option Value} {base : Heap} {f : Addr} {fd : FuncData} (B : BX mg) (C_RangeReader : CDok K (cd_RangeReader K)) (M_RangeReader_found_place : MI P w K mg base (ct K) 1 (cd_RangeReader K).C "found_place" s_RangeReader_found_place) (F_coded_state : FI P w K mg base (ct K) 1 "coded_state" s_coded_state) (F : FunD K "find_figures" "RangeReader.find_figures" (defArgs (inClass (top 25) 3)) (defBody (inClass (top 25) 3)) (defScope (inClass (top 25) 3)) [] [] f fd) : FA P w K mg base (ct K) 2 f s_RangeReader_find_figures := by
  refine FA.mk' (N := N_RangeReader_find_figures) (ps := ["self", "n"]) (k := 1) F sc_RangeReader_find_figures (F.bindsN fun _ _ _ _ _ _ us hl => match us, hl with | [_, _], _ => rfl) rfl rfl fun cdv A outer s H E hr => ?_
  have nd := sc_RangeReader_find_figures.nd
  have hu := hr.units
  exact (psd_cons (psd_set (i := 2) (pm_strict (W := WF) (pd_meth (c := 3) (cd := cd_RangeReader K) (pd_var 0) rfl C_RangeReader (show _ ∉ (["bits", "state"] : List Str) by decide) M_RangeReader_found_place (hr.mono (by omega)) (pds_cons (pd_bin os_shl pd_int (pd_var 1)) pds_nil))) nd rfl (by first | exact Or.inl rfl | exact Or.inr rfl) (by rfl) (by first | exact Or.inl rfl | exact Or.inr rfl))
    (psd_cons (psd_fset (c := 3) (j := 1) (cd := cd_RangeReader K) (pm_strict (W := WF) (pd_call F_coded_state (hr.mono (by omega)) (by rfl) (pds_cons (pd_fld (c := 3) (j := 1) (cd := cd_RangeReader K) (pd_var 0) rfl rfl rfl) (pds_cons (pd_tup (pds_cons (pd_var 2) (pds_cons pd_int (pds_cons (pd_bin os_shl pd_int (pd_var 1)) pds_nil)))) pds_nil)))) (pm_strict (W := WF) (pd_var 0)) rfl rfl (by rfl))
    (psd_one (psd_ret (W := WF) (pd_var 2)))))
abbrev N_RangeReader_is_ended : List Str := ["self"]
theorem sc_RangeReader_is_ended : FnScope N_RangeReader_is_ended ["self"] (defScope (inClass (top 25) 4)) := ⟨rfl, rfl, rfl, by decide +kernel, rfl, by decide +kernel, by decide +kernel⟩
theorem ok_RangeReader_is_ended {P : Program} {w : World} {K : PySem.W.Frag} {mg : Str → Option Value} {base : Heap} {f : Addr} {fd : FuncData} (B : BX mg) (F_state_code : FI P w K mg base (ct K) 3 "state_code" s_state_code) (F : FunD K "is_ended" "RangeReader.is_ended" (defArgs (inClass (top 25) 4)) (defBody (inClass (top 25) 4)) (defScope (inClass (top 25) 4)) [] [] f fd) : FA P w K mg base (ct K) 4 f s_RangeReader_is_ended := by
  refine FA.mk' (N := N_RangeReader_is_ended) (ps := ["self"]) (k := 3) F sc_RangeReader_is_ended (F.bindsN fun _ _ _ _ _ _ us hl => match us, hl with | [_], _ => rfl) rfl rfl fun cdv A outer s H E hr => ?_
  have nd := sc_RangeReader_is_ended.nd
  have hu := hr.units
  exact (psd_one (psd_ret (W := WF) (pd_cmp (os_eq hu) (pd_call F_state_code (hr.mono (by omega)) (by rfl) (pds_cons (pd_fld (c := 3) (j := 1) (cd := cd_RangeReader K) (pd_var 0) rfl rfl rfl) pds_nil)) (pd_fld (c := 3) (j := 0) (cd := cd_RangeReader K) (pd_var 0) rfl rfl rfl) (by rfl))))
abbrev N__law_cell : List Str := ["script", "k"]
theorem sc__law_cell : FnScope N__law_cell ["script", "k"] (defScope (top 27)) := ⟨rfl, rfl, rfl, by decide +kernel, rfl, by decide +kernel, by decide +kernel⟩
theorem ok__law_cell {P : Program} {w : World} {K : PySem.W.Frag} {mg : Str → Option Value} {base : Heap} {f : Addr} {fd : FuncData} (B : BX mg) (F : FunD K "_law_cell" "_law_cell" (defArgs (top 27)) (defBody (top 27)) (defScope (top 27)) [] [] f fd) : FA P w K mg base (ct K) 1 f s__law_cell := by
  refine FA.mk' (N := N__law_cell) (ps := ["script", "k"]) (k := 0) F sc__law_cell (F.bindsN fun _ _ _ _ _ _ us hl => match us, hl with | [_, _], _ => rfl) rfl rfl fun cdv A outer s H E hr => ?_
  have nd := sc__law_cell.nd
  have hu := hr.units
  exact (psd_cons (psd_if (pmb_strict (W := WF) (pdb_cmp os_lt (pd_var 1) (pd_len (by rfl) B.len_ (pd_var 0)) (by rfl))) (psd_one (psd_ret (W := WF) (pd_ix (pd_var 0) (pd_var 1) (by intro _ _; rfl)))) psd_nil)
    (psd_one (psd_ret (W := WF) (pd_bin os_add (pd_bin os_mul pd_int (pd_var 1)) pd_int))))
abbrev N__law_draws : List Str := ["cell", "count", "rest", "digits", "seed", "draws", "k", "mixed"]
theorem sc__law_draws : FnScope N__law_draws ["cell", "count"] (defScope (top 28)) := ⟨rfl, rfl, rfl, by decide +kernel, rfl, by decide +kernel, by decide +kernel⟩
theorem ok__law_draws {P : Program} {w : World} {K : PySem.W.Frag} {mg : Str → Option Value} {base : Heap} {f : Addr} {fd : FuncData} (B : BX mg) (F : FunD K "_law_draws" "_law_draws" (defArgs (top 28)) (defBody (top 28)) (defScope (top 28)) [] [] f fd) : FA P w K mg base (ct K) 1 f s__law_draws := by
  refine FA.mk' (N := N__law_draws) (ps := ["cell", "count"]) (k := 0) F sc__law_draws (F.bindsN fun _ _ _ _ _ _ us hl => match us, hl with | [_, _], _ => rfl) rfl rfl fun cdv A outer s H E hr => ?_
  have nd := sc__law_draws.nd
  have hu := hr.units
  exact (psd_cons (psd_set (i := 2) (pm_strict (W := WF) (pd_callB cs_abs (by rfl) B.abs_ (by decide +kernel) (pds_cons (pd_callT cs_int (by rfl) B.int_ (by decide +kernel) (pds_cons (pd_var 0) pds_nil)) pds_nil))) nd rfl (by first | exact Or.inl rfl | exact Or.inr rfl) (by rfl) (by first | exact Or.inl rfl | exact Or.inr rfl))
    (psd_cons (psd_set (i := 3) (pm_strict (W := WF) (pd_cmp os_ge (pd_var 2) (pd_bin os_pow pd_int pd_int) (by rfl))) nd rfl (by first | exact Or.inl rfl | exact Or.inr rfl) (by rfl) (by first | exact Or.inl rfl | exact Or.inr rfl))
    (psd_cons (psd_set (i := 4) (pm_strict (W := WF) (pd_var 2)) nd rfl (by first | exact Or.inl rfl | exact Or.inr rfl) (by rfl) (by first | exact Or.inl rfl | exact Or.inr rfl))
    (psd_cons (psd_own (i := 5) (pmf_strict (pdf_lst pds_nil)) nd rfl (by first | exact Or.inl rfl | exact Or.inr rfl) (by rfl) (by first | exact Or.inl rfl | exact Or.inr rfl))
    (psd_cons (psd_for (pmi_strict (W := WF) (pdi_range1 (by rfl) B.range_ (pds_cons (pd_var 1) pds_nil))) (pgd_name (i := 6) nd rfl (by first | exact Or.inl rfl | exact Or.inr rfl) (by first | exact Or.inl rfl | exact Or.inr rfl)) (psd_one (psd_if (pmb_strict (W := WF) (pdb_bool (pdw_and (pdb_tru (pd_var 3)) (pdw_and1 (pdb_cmp os_gt (pd_var 2) pd_int (by rfl)))))) (psd_cons (psd_add (i := 5) add_one PySem.F.slot_list_append PySem.F.type_list_append mt_append (pm_strict (W := WF) (pd_bin os_mod (pd_callT cs_int (by rfl) B.int_ (by decide +kernel) (pds_cons (pd_var 2) pds_nil)) pd_int)) rfl (by first | exact Or.inl rfl | exact Or.inr (Or.inl rfl) | exact Or.inr (Or.inr rfl)))
    (psd_one (psd_set (i := 2) (pm_strict (W := WF) (pd_bin os_div (pd_var 2) pd_int)) nd rfl (by first | exact Or.inl rfl | exact Or.inr rfl) (by rfl) (by first | exact Or.inl rfl | exact Or.inr rfl)))) (psd_cons (psd_set (i := 7) (pm_strict (W := WF) (pd_bin os_mod (pd_callT cs_int (by rfl) B.int_ (by decide +kernel) (pds_cons (pd_bin os_add (pd_bin os_add (pd_bin os_mul (pd_var 4) pd_int) (pd_bin os_mul (pd_bin os_add (pd_var 6) pd_int) pd_int)) pd_int) pds_nil)) pd_int)) nd rfl (by first | exact Or.inl rfl | exact Or.inr rfl) (by rfl) (by first | exact Or.inl rfl | exact Or.inr rfl))
    (psd_cons (psd_set (i := 7) (pm_strict (W := WF) (pd_bin os_mod (pd_callT cs_int (by rfl) B.int_ (by decide +kernel) (pds_cons (pd_bin os_add (pd_bin os_mul (pd_var 7) (pd_var 7)) (pd_bin os_mul pd_int (pd_bin os_add (pd_var 6) pd_int))) pds_nil)) pd_int)) nd rfl (by first | exact Or.inl rfl | exact Or.inr rfl) (by rfl) (by first | exact Or.inl rfl | exact Or.inr rfl))
    (psd_one (psd_add (i := 5) add_one PySem.F.slot_list_append PySem.F.type_list_append mt_append (pm_strict (W := WF) (pd_bin os_mod (pd_callT cs_int (by rfl) B.int_ (by decide +kernel) (pds_cons (pd_bin os_div (pd_var 7) pd_int) pds_nil)) pd_int)) rfl (by first | exact Or.inl rfl | exact Or.inr (Or.inl rfl) | exact Or.inr (Or.inr rfl)))))))) PassesOwn.never rfl)
    (psds_frz (i := 5) (psd_one (psd_ret (W := WF) (pd_var 5)))))))))
abbrev N__law_is_integer : List Str := ["value"]
theorem sc__law_is_integer : FnScope N__law_is_integer ["value"] (defScope (top 29)) := ⟨rfl, rfl, rfl, by decide +kernel, rfl, by decide +kernel, by decide +kernel⟩
theorem ok__law_is_integer {P : Program} {w : World} {K : PySem.W.Frag} {mg : Str → Option Value} {base : Heap} {f : Addr} {fd : FuncData} (B : BX mg) (F : FunD K "_law_is_integer" "_law_is_integer" (defArgs (top 29)) (defBody (top 29)) (defScope (top 29)) [] [] f fd) : FA P w K mg base (ct K) 1 f s__law_is_integer := by
  refine FA.mk' (N := N__law_is_integer) (ps := ["value"]) (k := 0) F sc__law_is_integer (F.bindsN fun _ _ _ _ _ _ us hl => match us, hl with | [_], _ => rfl) rfl rfl fun cdv A outer s H E hr => ?_
  have nd := sc__law_is_integer.nd
  have hu := hr.units
  exact (psd_one (psd_ret (W := WF) (pd_and (pd_isi (T := .int) (by rfl) B.isinstance_ (pd_var 0) (by rfl) B.int_ (by decide +kernel) (by decide) (by decide)) (pd_one (pd_not (pd_isi (T := .bool) (by rfl) B.isinstance_ (pd_var 0) (by rfl) B.bool_ (by decide +kernel) (by decide) (by decide)))))))
abbrev N__law_is : List Str := ["value", "due", "at"]
theorem sc__law_is : FnScope N__law_is ["value", "due"] (defScope (top 30)) := ⟨rfl, rfl, rfl, by decide +kernel, rfl, by decide +kernel, by decide +kernel⟩
theorem ok__law_is {P : Program} {w : World} {K : PySem.W.Frag} {mg : Str → Option Value} {base : Heap} {f : Addr} {fd : FuncData} (B : BX mg) (F__law_is_integer : FI P w K mg base (ct K) 1 "_law_is_integer" s__law_is_integer) (F : FunD K "_law_is" "_law_is" (defArgs (top 30)) (defBody (top 30)) (defScope (top 30)) [] [] f fd) (gS : mg "_law_is" = some (.ref f)) (n : Nat) : FA P w K mg base (ct K) (n + 2) f (s__law_is n) := by
  induction n with
  | zero => exact FA.never (k := 1) F sc__law_is (F.bindsN fun _ _ _ _ _ _ us hl => match us, hl with | [_, _], _ => rfl) |>.mono (by omega)
  | succ n ih =>
    have F__law_is : FI P w K mg base (ct K) (n + 2) "_law_is" (s__law_is n) := ⟨f, gS, F.kp, ih⟩
    refine FA.mk' (N := N__law_is) (ps := ["value", "due"]) (k := n + 2) F sc__law_is (F.bindsN fun _ _ _ _ _ _ us hl => match us, hl with | [_, _], _ => rfl) rfl rfl fun cdv A outer s H E hr => ?_
    have nd := sc__law_is.nd
    have hu := hr.units
    exact (psd_cons (psd_if (pmb_strict (W := WF) (pdb_cmp os_is (pd_var 1) pd_non (by rfl))) (psd_one (psd_ret (W := WF) (pd_cmp os_is (pd_var 0) pd_non (by rfl)))) psd_nil)
    (psd_cons (psd_if (pmb_strict (W := WF) (pdb_tru (pd_isi (T := .bool) (by rfl) B.isinstance_ (pd_var 1) (by rfl) B.bool_ (by decide +kernel) (by decide) (by decide)))) (psd_one (psd_ret (W := WF) (pd_and (pd_isi (T := .bool) (by rfl) B.isinstance_ (pd_var 0) (by rfl) B.bool_ (by decide +kernel) (by decide) (by decide)) (pd_one (pd_cmp (os_eq hu) (pd_var 0) (pd_var 1) (by rfl)))))) psd_nil)
    (psd_cons (psd_if (pmb_strict (W := WF) (pdb_tru (pd_isi (T := .int) (by rfl) B.isinstance_ (pd_var 1) (by rfl) B.int_ (by decide +kernel) (by decide) (by decide)))) (psd_one (psd_ret (W := WF) (pd_and (pd_call F__law_is_integer (hr.mono (by omega)) (by rfl) (pds_cons (pd_var 0) pds_nil)) (pd_one (pd_cmp (os_eq hu) (pd_var 0) (pd_var 1) (by rfl)))))) psd_nil)
    (psd_cons (psd_if (pmb_strict (W := WF) (pdb_tru (pd_isi (T := .str) (by rfl) B.isinstance_ (pd_var 1) (by rfl) B.str_ (by decide +kernel) (by decide) (by decide)))) (psd_one (psd_ret (W := WF) (pd_and (pd_isi (T := .str) (by rfl) B.isinstance_ (pd_var 0) (by rfl) B.str_ (by decide +kernel) (by decide) (by decide)) (pd_one (pd_cmp (os_eq hu) (pd_var 0) (pd_var 1) (by rfl)))))) psd_nil)
    (psd_cons (psd_if (pmb_strict (W := WF) (pdb_bool (pdw_or (pdb_not (pdb_tru (pd_isi (T := .tuple) (by rfl) B.isinstance_ (pd_var 0) (by rfl) B.tuple_ (by decide +kernel) (by decide) (by decide)))) (pdw_or1 (pdb_cmp (os_ne hu) (pd_len (by rfl) B.len_ (pd_var 0)) (pd_len (by rfl) B.len_ (pd_var 1)) (by rfl)))))) (psd_one (psd_ret (W := WF) pd_bl)) psd_nil)
    (psd_one (psd_ret (W := WF) (pd_callB (cs_all rfl) (by rfl) B.all_ (by decide +kernel) (pds_cons (pd_lc (X := XB P w K mg base N__law_is "_law_is" (defScope (top 30)) f cdv A outer s H E) (own := [("at", 2)]) (W' := WF) (pdi_range1 (by rfl) B.range_ (pds_cons (pd_len (by rfl) B.len_ (pd_var 1)) pds_nil)) rfl nd (blkOk_by (N := N__law_is) (sc := defScope (top 30)) (by decide +kernel)) (fun _ _ _ _ _ => (pge_name (i := 2) nd rfl (by first | exact Or.inl rfl | exact Or.inr rfl) (by first | exact Or.inl rfl | exact Or.inr rfl))) (fun _ _ _ _ _ => ptd_nil) (fun _ _ _ _ _ => (pd_call F__law_is (hr.mono (Nat.le_refl _)) (by rfl) (pds_cons (pd_ix (pd_var 0) (pd_var 2) (by intro _ _; rfl)) (pds_cons (pd_ix (pd_var 1) (pd_var 2) (by intro _ _; rfl)) pds_nil)))) (vs := [2]) rfl (by decide)) pds_nil)))))))))
abbrev N__law_number : List Str := ["text", "number", "sign"]
theorem sc__law_number : FnScope N__law_number ["text"] (defScope (top 31)) := ⟨rfl, rfl, rfl, by decide +kernel, rfl, by decide +kernel, by decide +kernel⟩
theorem ok__law_number {P : Program} {w : World} {K : PySem.W.Frag} {mg : Str → Option Value} {base : Heap} {f : Addr} {fd : FuncData} (B : BX mg) (F : FunD K "_law_number" "_law_number" (defArgs (top 31)) (defBody (top 31)) (defScope (top 31)) [] [] f fd) : FA P w K mg base (ct K) 1 f s__law_number := by
  refine FA.mk' (N := N__law_number) (ps := ["text"]) (k := 0) F sc__law_number (F.bindsN fun _ _ _ _ _ _ us hl => match us, hl with | [_], _ => rfl) rfl rfl fun cdv A outer s H E hr => ?_
  have nd := sc__law_number.nd
  have hu := hr.units
  exact (psd_cons (psd_set (i := 1) (pm_strict (W := WF) pd_int) nd rfl (by first | exact Or.inl rfl | exact Or.inr rfl) (by rfl) (by first | exact Or.inl rfl | exact Or.inr rfl))
    (psd_cons (psd_for (pmi_strict (W := WF) (pdi_seq (pd_var 0))) (pgd_name (i := 2) nd rfl (by first | exact Or.inl rfl | exact Or.inr rfl) (by first | exact Or.inl rfl | exact Or.inr rfl)) (psd_one (psd_set (i := 1) (pm_strict (W := WF) (pd_bin os_add (pd_bin os_mul pd_int (pd_var 1)) (pd_ite (pdb_cmp (os_eq hu) (pd_var 2) (pd_str [49]) (by rfl)) pd_int pd_int))) nd rfl (by first | exact Or.inl rfl | exact Or.inr rfl) (by rfl) (by first | exact Or.inl rfl | exact Or.inr rfl))) PassesOwn.never rfl)
    (psd_one (psd_ret (W := WF) (pd_var 1)))))
abbrev N__law_made_steps : List Str := ["draws", "size", "steps", "at", "one", "two", "three", "total", "start", "draw"]
theorem sc__law_made_steps : FnScope N__law_made_steps ["draws", "size"] (defScope (top 32)) := ⟨rfl, rfl, rfl, by decide +kernel, rfl, by decide +kernel, by decide +kernel⟩
theorem ok__law_made_steps {P : Program} {w : World} {K : PySem.W.Frag} {mg : Str → Option Value} {base : Heap} {f : Addr} {fd : FuncData} (B : BX mg) (F : FunD K "_law_made_steps" "_law_made_steps" (defArgs (top 32)) (defBody (top 32)) (defScope (top 32)) [] [] f fd) : FA P w K mg base (ct K) 1 f s__law_made_steps := by
  refine FA.mk' (N := N__law_made_steps) (ps := ["draws", "size"]) (k := 0) F sc__law_made_steps (F.bindsN fun _ _ _ _ _ _ us hl => match us, hl with | [_, _], _ => rfl) rfl rfl fun cdv A outer s H E hr => ?_
  have nd := sc__law_made_steps.nd
  have hu := hr.units
  exact (psd_cons (psd_own (i := 2) (pmf_strict (pdf_lst pds_nil)) nd rfl (by first | exact Or.inl rfl | exact Or.inr rfl) (by rfl) (by first | exact Or.inl rfl | exact Or.inr rfl))
    (psd_cons (psd_for (pmi_strict (W := WF) (pdi_range1 (by rfl) B.range_ (pds_cons (pd_var 1) pds_nil))) (pgd_name (i := 3) nd rfl (by first | exact Or.inl rfl | exact Or.inr rfl) (by first | exact Or.inl rfl | exact Or.inr rfl)) (psd_cons (psd_asg (pm_strict (W := WF) (pd_lc (X := XB P w K mg base N__law_made_steps "_law_made_steps" (defScope (top 32)) f cdv A outer s H E) (own := [("draw", 9)]) (W' := WF) (pdi_seq (pd_cut (pd_var 0) (pdo_some (pd_bin os_mul pd_int (pd_var 3))) (pdo_some (pd_bin os_add (pd_bin os_mul pd_int (pd_var 3)) pd_int)))) rfl nd (blkOk_by (N := N__law_made_steps) (sc := defScope (top 32)) (by decide +kernel)) (fun _ _ _ _ _ => (pge_name (i := 9) nd rfl (by first | exact Or.inl rfl | exact Or.inr rfl) (by first | exact Or.inl rfl | exact Or.inr rfl))) (fun _ _ _ _ _ => ptd_nil) (fun _ _ _ _ _ => (pd_callT cs_int (by rfl) B.int_ (by decide +kernel) (pds_cons (pd_var 9) pds_nil))) (vs := [9]) rfl (by decide))) (pgd_tup (n := 3) rfl (pgds_cons (pgd_name (i := 4) nd rfl (by first | exact Or.inl rfl | exact Or.inr rfl) (by first | exact Or.inl rfl | exact Or.inr rfl)) (pgds_cons (pgd_name (i := 5) nd rfl (by first | exact Or.inl rfl | exact Or.inr rfl) (by first | exact Or.inl rfl | exact Or.inr rfl)) (pgds_cons (pgd_name (i := 6) nd rfl (by first | exact Or.inl rfl | exact Or.inr rfl) (by first | exact Or.inl rfl | exact Or.inr rfl)) pgds_nil))) rfl rfl rfl) (by rfl) (by rfl))
    (psd_cons (psd_set (i := 7) (pm_strict (W := WF) (pd_ix (pd_tup (pds_cons pd_int (pds_cons pd_int (pds_cons pd_int (pds_cons pd_int (pds_cons pd_int (pds_cons pd_int (pds_cons (pd_bin os_add pd_int (pd_bin os_mod (pd_var 5) pd_int)) (pds_cons (pd_bin os_add pd_int (pd_bin os_mod (pd_var 5) pd_int)) pds_nil))))))))) (pd_bin os_mod (pd_var 4) pd_int) (by intro _ _; rfl))) nd rfl (by first | exact Or.inl rfl | exact Or.inr rfl) (by rfl) (by first | exact Or.inl rfl | exact Or.inr rfl))
    (psd_cons (psd_set (i := 8) (pm_strict (W := WF) (pd_bin os_mod (pd_var 6) (pd_var 7))) nd rfl (by first | exact Or.inl rfl | exact Or.inr rfl) (by rfl) (by first | exact Or.inl rfl | exact Or.inr rfl))
    (psd_one (psd_add (i := 2) add_one PySem.F.slot_list_append PySem.F.type_list_append mt_append (pm_strict (W := WF) (pd_tup (pds_cons (pd_var 8) (pds_cons (pd_bin os_add pd_int (pd_bin os_mod (pd_bin os_add (pd_bin os_div (pd_var 5) pd_int) (pd_bin os_div (pd_var 4) pd_int)) (pd_bin os_sub (pd_var 7) (pd_var 8)))) (pds_cons (pd_var 7) pds_nil))))) rfl (by first | exact Or.inl rfl | exact Or.inr (Or.inl rfl) | exact Or.inr (Or.inr rfl))))))) PassesOwn.never rfl)
    (psds_frz (i := 2) (psd_one (psd_ret (W := WF) (pd_callT cs_tuple (by rfl) B.tuple_ (by decide +kernel) (pds_cons (pd_var 2) pds_nil)))))))
abbrev N__law_coded : List Str := ["state", "step", "low", "wide", "size", "start", "number", "total", "unit"]
theorem sc__law_coded : FnScope N__law_coded ["state", "step"] (defScope (top 33)) := ⟨rfl, rfl, rfl, by decide +kernel, rfl, by decide +kernel, by decide +kernel⟩
theorem ok__law_coded {P : Program} {w : World} {K : PySem.W.Frag} {mg : Str → Option Value} {base : Heap} {f : Addr} {fd : FuncData} (B : BX mg) (F : FunD K "_law_coded" "_law_coded" (defArgs (top 33)) (defBody (top 33)) (defScope (top 33)) [] [] f fd) : FA P w K mg base (ct K) 1 f s__law_coded := by
  refine FA.mk' (N := N__law_coded) (ps := ["state", "step"]) (k := 0) F sc__law_coded (F.bindsN fun _ _ _ _ _ _ us hl => match us, hl with | [_, _], _ => rfl) rfl rfl fun cdv A outer s H E hr => ?_
  have nd := sc__law_coded.nd
  have hu := hr.units
  exact (psd_cons (psd_asg (pm_strict (W := WF) (pd_var 0)) (pgd_tup (n := 3) rfl (pgds_cons (pgd_name (i := 2) nd rfl (by first | exact Or.inl rfl | exact Or.inr rfl) (by first | exact Or.inl rfl | exact Or.inr rfl)) (pgds_cons (pgd_name (i := 3) nd rfl (by first | exact Or.inl rfl | exact Or.inr rfl) (by first | exact Or.inl rfl | exact Or.inr rfl)) (pgds_cons (pgd_name (i := 4) nd rfl (by first | exact Or.inl rfl | exact Or.inr rfl) (by first | exact Or.inl rfl | exact Or.inr rfl)) pgds_nil))) rfl rfl rfl) (by rfl) (by rfl))
    (psd_cons (psd_asg (pm_strict (W := WF) (pd_var 1)) (pgd_tup (n := 3) rfl (pgds_cons (pgd_name (i := 5) nd rfl (by first | exact Or.inl rfl | exact Or.inr rfl) (by first | exact Or.inl rfl | exact Or.inr rfl)) (pgds_cons (pgd_name (i := 6) nd rfl (by first | exact Or.inl rfl | exact Or.inr rfl) (by first | exact Or.inl rfl | exact Or.inr rfl)) (pgds_cons (pgd_name (i := 7) nd rfl (by first | exact Or.inl rfl | exact Or.inr rfl) (by first | exact Or.inl rfl | exact Or.inr rfl)) pgds_nil))) rfl rfl rfl) (by rfl) (by rfl))
    (psd_cons (psd_set (i := 8) (pm_strict (W := WF) (pd_bin os_div (pd_var 3) (pd_var 7))) nd rfl (by first | exact Or.inl rfl | exact Or.inr rfl) (by rfl) (by first | exact Or.inl rfl | exact Or.inr rfl))
    (psd_cons (psd_par (i := 2) (j := 3) (pms_strict (W := WF) (pds_cons (pd_bin os_add (pd_var 2) (pd_bin os_mul (pd_var 8) (pd_var 5))) (pds_cons (pd_bin os_mul (pd_var 8) (pd_var 6)) pds_nil))) rfl nd rfl rfl (by decide) (by rfl) (by rfl) (by rfl) (by rfl))
    (psd_cons (psd_while (pmb_strict (W := WF) (pdb_cmp os_lt (pd_var 3) pd_int (by rfl))) (psd_one (psd_par3 (i := 2) (j := 3) (l := 4) (pms_strict (W := WF) (pds_cons (pd_bin os_mul (pd_var 2) pd_int) (pds_cons (pd_bin os_mul (pd_var 3) pd_int) (pds_cons (pd_bin os_add (pd_var 4) pd_int) pds_nil)))) rfl nd rfl rfl rfl (by decide) (by decide) (by decide) (by rfl) (by rfl) (by rfl) (by rfl) (by rfl))) PassesOwn.never)
    (psd_one (psd_ret (W := WF) (pd_tup (pds_cons (pd_var 2) (pds_cons (pd_var 3) (pds_cons (pd_var 4) pds_nil)))))))))))
abbrev N__law_settled : List Str := ["state", "low", "wide", "size", "row"]
theorem sc__law_settled : FnScope N__law_settled ["state"] (defScope (top 34)) := ⟨rfl, rfl, rfl, by decide +kernel, rfl, by decide +kernel, by decide +kernel⟩
theorem ok__law_settled {P : Program} {w : World} {K : PySem.W.Frag} {mg : Str → Option Value} {base : Heap} {f : Addr} {fd : FuncData} (B : BX mg) (F : FunD K "_law_settled" "_law_settled" (defArgs (top 34)) (defBody (top 34)) (defScope (top 34)) [] [] f fd) : FA P w K mg base (ct K) 1 f s__law_settled := by
  refine FA.mk' (N := N__law_settled) (ps := ["state"]) (k := 0) F sc__law_settled (F.bindsN fun _ _ _ _ _ _ us hl => match us, hl with | [_], _ => rfl) rfl rfl fun cdv A outer s H E hr => ?_
  have nd := sc__law_settled.nd
  have hu := hr.units
  exact (psd_cons (psd_asg (pm_strict (W := WF) (pd_var 0)) (pgd_tup (n := 3) rfl (pgds_cons (pgd_name (i := 1) nd rfl (by first | exact Or.inl rfl | exact Or.inr rfl) (by first | exact Or.inl rfl | exact Or.inr rfl)) (pgds_cons (pgd_name (i := 2) nd rfl (by first | exact Or.inl rfl | exact Or.inr rfl) (by first | exact Or.inl rfl | exact Or.inr rfl)) (pgds_cons (pgd_name (i := 3) nd rfl (by first | exact Or.inl rfl | exact Or.inr rfl) (by first | exact Or.inl rfl | exact Or.inr rfl)) pgds_nil))) rfl rfl rfl) (by rfl) (by rfl))
    (psd_cons (psd_own (i := 4) (pmf_strict (pdf_lst pds_nil)) nd rfl (by first | exact Or.inl rfl | exact Or.inr rfl) (by rfl) (by first | exact Or.inl rfl | exact Or.inr rfl))
    (psd_cons (psd_while (pmb_strict (W := WF) (pdb_bool (pdw_and (pdb_cmp os_ge (pd_var 3) pd_int (by rfl)) (pdw_and1 (pdb_cmp (os_eq hu) (pd_bin os_shr (pd_var 1) (pd_bin os_sub (pd_var 3) pd_int)) (pd_bin os_shr (pd_bin os_sub (pd_bin os_add (pd_var 1) (pd_var 2)) pd_int) (pd_bin os_sub (pd_var 3) pd_int)) (by rfl)))))) (psd_cons (psd_set (i := 3) (pm_strict (W := WF) (pd_bin os_sub (pd_var 3) pd_int)) nd rfl (by first | exact Or.inl rfl | exact Or.inr rfl) (by rfl) (by first | exact Or.inl rfl | exact Or.inr rfl))
    (psd_one (psd_add (i := 4) add_one PySem.F.slot_list_append PySem.F.type_list_append mt_append (pm_strict (W := WF) (pd_bin os_and (pd_bin os_shr (pd_var 1) (pd_var 3)) pd_int)) rfl (by first | exact Or.inl rfl | exact Or.inr (Or.inl rfl) | exact Or.inr (Or.inr rfl))))) PassesOwn.never)
    (psds_frz (i := 4) (psd_one (psd_ret (W := WF) (pd_callT cs_tuple (by rfl) B.tuple_ (by decide +kernel) (pds_cons (pd_var 4) pds_nil))))))))
abbrev N__law_fixed : List Str := ["v", "n", "place"]
theorem sc__law_fixed : FnScope N__law_fixed ["v", "n"] (defScope (top 35)) := ⟨rfl, rfl, rfl, by decide +kernel, rfl, by decide +kernel, by decide +kernel⟩
theorem ok__law_fixed {P : Program} {w : World} {K : PySem.W.Frag} {mg : Str → Option Value} {base : Heap} {f : Addr} {fd : FuncData} (B : BX mg) (F : FunD K "_law_fixed" "_law_fixed" (defArgs (top 35)) (defBody (top 35)) (defScope (top 35)) [] [] f fd) : FA P w K mg base (ct K) 1 f s__law_fixed := by
  refine FA.mk' (N := N__law_fixed) (ps := ["v", "n"]) (k := 0) F sc__law_fixed (F.bindsN fun _ _ _ _ _ _ us hl => match us, hl with | [_, _], _ => rfl) rfl rfl fun cdv A outer s H E hr => ?_
  have nd := sc__law_fixed.nd
  have hu := hr.units
  exact (psd_one (psd_ret (W := WF) (pd_sm PySem.F.slot_str_join PySem.F.type_str_join mt_joinS (pd_str []) (pd_lc (X := XB P w K mg base N__law_fixed "_law_fixed" (defScope (top 35)) f cdv A outer s H E) (own := [("place", 2)]) (W' := WF) (pdi_range3 (by rfl) B.range_ (pds_cons (pd_bin os_sub (pd_var 1) pd_int) (pds_cons (pd_bin os_sub pd_int pd_int) (pds_cons (pd_bin os_sub pd_int pd_int) pds_nil)))) rfl nd (blkOk_by (N := N__law_fixed) (sc := defScope (top 35)) (by decide +kernel)) (fun _ _ _ _ _ => (pge_name (i := 2) nd rfl (by first | exact Or.inl rfl | exact Or.inr rfl) (by first | exact Or.inl rfl | exact Or.inr rfl))) (fun _ _ _ _ _ => ptd_nil) (fun _ _ _ _ _ => (pd_ite (pdb_tru (pd_bin os_and (pd_bin os_shr (pd_var 0) (pd_var 2)) pd_int)) (pd_str [49]) (pd_str [48]))) (vs := [2]) rfl (by decide)))))
abbrev N__law_state_code : List Str := ["state", "low", "wide", "size", "power"]
theorem sc__law_state_code : FnScope N__law_state_code ["state"] (defScope (top 36)) := ⟨rfl, rfl, rfl, by decide +kernel, rfl, by decide +kernel, by decide +kernel⟩
theorem ok__law_state_code {P : Program} {w : World} {K : PySem.W.Frag} {mg : Str → Option Value} {base : Heap} {f : Addr} {fd : FuncData} (B : BX mg) (F__law_fixed : FI P w K mg base (ct K) 1 "_law_fixed" s__law_fixed) (F : FunD K "_law_state_code" "_law_state_code" (defArgs (top 36)) (defBody (top 36)) (defScope (top 36)) [] [] f fd) : FA P w K mg base (ct K) 2 f s__law_state_code := by
  refine FA.mk' (N := N__law_state_code) (ps := ["state"]) (k := 1) F sc__law_state_code (F.bindsN fun _ _ _ _ _ _ us hl => match us, hl with | [_], _ => rfl) rfl rfl fun cdv A outer s H E hr => ?_
  have nd := sc__law_state_code.nd
  have hu := hr.units
  exact (psd_cons (psd_asg (pm_strict (W := WF) (pd_var 0)) (pgd_tup (n := 3) rfl (pgds_cons (pgd_name (i := 1) nd rfl (by first | exact Or.inl rfl | exact Or.inr rfl) (by first | exact Or.inl rfl | exact Or.inr rfl)) (pgds_cons (pgd_name (i := 2) nd rfl (by first | exact Or.inl rfl | exact Or.inr rfl) (by first | exact Or.inl rfl | exact Or.inr rfl)) (pgds_cons (pgd_name (i := 3) nd rfl (by first | exact Or.inl rfl | exact Or.inr rfl) (by first | exact Or.inl rfl | exact Or.inr rfl)) pgds_nil))) rfl rfl rfl) (by rfl) (by rfl))
    (psd_cons (psd_set (i := 4) (pm_strict (W := WF) pd_int) nd rfl (by first | exact Or.inl rfl | exact Or.inr rfl) (by rfl) (by first | exact Or.inl rfl | exact Or.inr rfl))
    (psd_cons (psd_while (pmb_strict (W := WF) (pdb_bool (pdw_and (pdb_cmp os_lt (pd_var 4) (pd_var 3) (by rfl)) (pdw_and1 (pdb_cmp os_lt (pd_bin os_sub pd_int (pd_bin os_mul (pd_bin os_div (pd_bin os_sub pd_int (pd_var 1)) (pd_bin os_shl pd_int (pd_var 4))) (pd_bin os_shl pd_int (pd_var 4)))) (pd_bin os_add (pd_var 1) (pd_var 2)) (by rfl)))))) (psd_one (psd_set (i := 4) (pm_strict (W := WF) (pd_bin os_add (pd_var 4) pd_int)) nd rfl (by first | exact Or.inl rfl | exact Or.inr rfl) (by rfl) (by first | exact Or.inl rfl | exact Or.inr rfl))) PassesOwn.never)
    (psd_one (psd_ret (W := WF) (pd_call F__law_fixed (hr.mono (by omega)) (by rfl) (pds_cons (pd_bin os_sub pd_int (pd_bin os_div (pd_bin os_sub pd_int (pd_var 1)) (pd_bin os_shl pd_int (pd_var 4)))) (pds_cons (pd_bin os_sub (pd_var 3) (pd_var 4)) pds_nil))))))))
abbrev N__law_state : List Str := ["steps", "state", "step"]
theorem sc__law_state : FnScope N__law_state ["steps"] (defScope (top 37)) := ⟨rfl, rfl, rfl, by decide +kernel, rfl, by decide +kernel, by decide +kernel⟩
theorem ok__law_state {P : Program} {w : World} {K : PySem.W.Frag} {mg : Str → Option Value} {base : Heap} {f : Addr} {fd : FuncData} (B : BX mg) (F__law_coded : FI P w K mg base (ct K) 1 "_law_coded" s__law_coded) (F : FunD K "_law_state" "_law_state" (defArgs (top 37)) (defBody (top 37)) (defScope (top 37)) [] [] f fd) : FA P w K mg base (ct K) 2 f s__law_state := by
  refine FA.mk' (N := N__law_state) (ps := ["steps"]) (k := 1) F sc__law_state (F.bindsN fun _ _ _ _ _ _ us hl => match us, hl with | [_], _ => rfl) rfl rfl fun cdv A outer s H E hr => ?_
  have nd := sc__law_state.nd
  have hu := hr.units
  exact (psd_cons (psd_set (i := 1) (pm_strict (W := WF) (pd_tup (pds_cons pd_int (pds_cons pd_int (pds_cons pd_int pds_nil))))) nd rfl (by first | exact Or.inl rfl | exact Or.inr rfl) (by rfl) (by first | exact Or.inl rfl | exact Or.inr rfl))
    (psd_cons (psd_for (pmi_strict (W := WF) (pdi_seq (pd_var 0))) (pgd_name (i := 2) nd rfl (by first | exact Or.inl rfl | exact Or.inr rfl) (by first | exact Or.inl rfl | exact Or.inr rfl)) (psd_one (psd_set (i := 1) (pm_strict (W := WF) (pd_call F__law_coded (hr.mono (by omega)) (by rfl) (pds_cons (pd_var 1) (pds_cons (pd_var 2) pds_nil)))) nd rfl (by first | exact Or.inl rfl | exact Or.inr rfl) (by rfl) (by first | exact Or.inl rfl | exact Or.inr rfl))) PassesOwn.never rfl)
    (psd_one (psd_ret (W := WF) (pd_var 1)))))
abbrev N__law_code : List Str := ["steps"]
theorem sc__law_code : FnScope N__law_code ["steps"] (defScope (top 38)) := ⟨rfl, rfl, rfl, by decide +kernel, rfl, by decide +kernel, by decide +kernel⟩
theorem ok__law_code {P : Program} {w : World} {K : PySem.W.Frag} {mg : Str → Option Value} {base : Heap} {f : Addr} {fd : FuncData} (B : BX mg) (F__law_state : FI P w K mg base (ct K) 2 "_law_state" s__law_state) (F__law_state_code : FI P w K mg base (ct K) 2 "_law_state_code" s__law_state_code) (F : FunD K "_law_code" "_law_code" (defArgs (top 38)) (defBody (top 38)) (defScope (top 38)) [] [] f fd) : FA P w K mg base (ct K) 3 f s__law_code := by
  refine FA.mk' (N := N__law_code) (ps := ["steps"]) (k := 2) F sc__law_code (F.bindsN fun _ _ _ _ _ _ us hl => match us, hl with | [_], _ => rfl) rfl rfl fun cdv A outer s H E hr => ?_
  have nd := sc__law_code.nd
  have hu := hr.units
  exact (psd_one (psd_ret (W := WF) (pd_call F__law_state_code (hr.mono (by omega)) (by rfl) (pds_cons (pd_call F__law_state (hr.mono (by omega)) (by rfl) (pds_cons (pd_var 0) pds_nil)) pds_nil))))
abbrev N__law_bytes_in : List Str := ["bits", "at"]
theorem sc__law_bytes_in : FnScope N__law_bytes_in ["bits"] (defScope (top 39)) := ⟨rfl, rfl, rfl, by decide +kernel, rfl, by decide +kernel, by decide +kernel⟩
theorem ok__law_bytes_in {P : Program} {w : World} {K : PySem.W.Frag} {mg : Str → Option Value} {base : Heap} {f : Addr} {fd : FuncData} (B : BX mg) (F__law_number : FI P w K mg base (ct K) 1 "_law_number" s__law_number) (F : FunD K "_law_bytes_in" "_law_bytes_in" (defArgs (top 39)) (defBody (top 39)) (defScope (top 39)) [] [] f fd) : FA P w K mg base (ct K) 2 f s__law_bytes_in := by
  refine FA.mk' (N := N__law_bytes_in) (ps := ["bits"]) (k := 1) F sc__law_bytes_in (F.bindsN fun _ _ _ _ _ _ us hl => match us, hl with | [_], _ => rfl) rfl rfl fun cdv A outer s H E hr => ?_
  have nd := sc__law_bytes_in.nd
  have hu := hr.units
  exact (psd_one (psd_ret (W := WF) (pd_callT cs_tuple (by rfl) B.tuple_ (by decide +kernel) (pds_cons (pd_lc (X := XB P w K mg base N__law_bytes_in "_law_bytes_in" (defScope (top 39)) f cdv A outer s H E) (own := [("at", 1)]) (W' := WF) (pdi_range1 (by rfl) B.range_ (pds_cons (pd_bin os_div (pd_len (by rfl) B.len_ (pd_var 0)) pd_int) pds_nil)) rfl nd (blkOk_by (N := N__law_bytes_in) (sc := defScope (top 39)) (by decide +kernel)) (fun _ _ _ _ _ => (pge_name (i := 1) nd rfl (by first | exact Or.inl rfl | exact Or.inr rfl) (by first | exact Or.inl rfl | exact Or.inr rfl))) (fun _ _ _ _ _ => ptd_nil) (fun _ _ _ _ _ => (pd_call F__law_number (hr.mono (by omega)) (by rfl) (pds_cons (pd_cut (pd_var 0) (pdo_some (pd_bin os_mul pd_int (pd_var 1))) (pdo_some (pd_bin os_add (pd_bin os_mul pd_int (pd_var 1)) pd_int))) pds_nil))) (vs := [1]) rfl (by decide)) pds_nil))))
abbrev N__law_waits : List Str := ["many", "side", "writer", "steps", "at", "last", "fixed_bits", "due", "code"]
theorem sc__law_waits : FnScope N__law_waits ["many", "side"] (defScope (top 40)) := ⟨rfl, rfl, rfl, by decide +kernel, rfl, by decide +kernel, by decide +kernel⟩
theorem ok__law_waits {P : Program} {w : World} {K : PySem.W.Frag} {mg : Str → Option Value} {base : Heap} {f : Addr} {fd : FuncData} (B : BX mg) (C_RangeWriter : CDok K (cd_RangeWriter K)) (N_RangeWriter : NI P w K mg base (ct K) 2 "RangeWriter" (cd_RangeWriter K).C s_RangeWriter___init__) (M_RangeWriter_code_so_far : MI P w K mg base (ct K) 4 (cd_RangeWriter K).C "code_so_far" s_RangeWriter_code_so_far) (M_RangeWriter_put_step : MI P w K mg base (ct K) 2 (cd_RangeWriter K).C "put_step" s_RangeWriter_put_step) (F__law_bytes_in : FI P w K mg base (ct K) 2 "_law_bytes_in" s__law_bytes_in) (F__law_is : FI P w K mg base (ct K) 10 "_law_is" (s__law_is 8)) (F_code_length : FI P w K mg base (ct K) 3 "code_length" s_code_length) (F_code_of_steps : FI P w K mg base (ct K) 4 "code_of_steps" s_code_of_steps) (F_settled_bytes : FI P w K mg base (ct K) 3 "settled_bytes" s_settled_bytes) (F : FunD K "_law_waits" "_law_waits" (defArgs (top 40)) (defBody (top 40)) (defScope (top 40)) [] [] f fd) : FA P w K mg base (ct K) 12 f s__law_waits := by
  refine FA.mk' (N := N__law_waits) (ps := ["many", "side"]) (k := 11) F sc__law_waits (F.bindsN fun _ _ _ _ _ _ us hl => match us, hl with | [_, _], _ => rfl) rfl rfl fun cdv A outer s H E hr => ?_
  have nd := sc__law_waits.nd
  have hu := hr.units
  exact (psd_cons (psd_set (i := 2) (pm_strict (W := WF) (pd_new0 (c := 2) (cd := cd_RangeWriter K) rfl N_RangeWriter (hr.mono (by omega)) (by rfl) rfl)) nd rfl (by first | exact Or.inl rfl | exact Or.inr rfl) (by rfl) (by first | exact Or.inl rfl | exact Or.inr rfl))
    (psd_cons (psd_set (i := 3) (pm_strict (W := WF) (pd_bin os_mul (pd_tup (pds_cons (pd_tup (pds_cons pd_int (pds_cons pd_int (pds_cons pd_int pds_nil)))) pds_nil)) (pd_var 0))) nd rfl (by first | exact Or.inl rfl | exact Or.inr rfl) (by rfl) (by first | exact Or.inl rfl | exact Or.inr rfl))
    (psd_cons (psd_for (pmi_strict (W := WF) (pdi_range1 (by rfl) B.range_ (pds_cons (pd_var 0) pds_nil))) (pgd_name (i := 4) nd rfl (by first | exact Or.inl rfl | exact Or.inr rfl) (by first | exact Or.inl rfl | exact Or.inr rfl)) (psd_one (psd_if (pmb_strict (W := WF) (pdb_bool (pdw_or (pdb_not (pdb_tru (pd_call F__law_is (hr.mono (by omega)) (by rfl) (pds_cons (pd_meth (c := 2) (cd := cd_RangeWriter K) (pd_var 2) rfl C_RangeWriter (show _ ∉ (["sent", "state"] : List Str) by decide) M_RangeWriter_put_step (hr.mono (by omega)) (pds_cons (pd_tup (pds_cons pd_int (pds_cons pd_int (pds_cons pd_int pds_nil)))) pds_nil)) (pds_cons (pd_tup pds_nil) pds_nil))))) (pdw_or1 (pdb_not (pdb_tru (pd_call F__law_is (hr.mono (by omega)) (by rfl) (pds_cons (pd_meth0 (c := 2) (cd := cd_RangeWriter K) (pd_var 2) rfl C_RangeWriter (show _ ∉ (["sent", "state"] : List Str) by decide) M_RangeWriter_code_so_far (hr.mono (by omega))) (pds_cons (pd_str [49]) pds_nil))))))))) (psd_one (psd_ret (W := WF) pd_bl)) psd_nil)) PassesOwn.never rfl)
    (psd_cons (psd_if (pmb_strict (W := WF) (pdb_bool (pdw_or (pdb_not (pdb_tru (pd_call F__law_is (hr.mono (by omega)) (by rfl) (pds_cons (pd_call F_code_of_steps (hr.mono (by omega)) (by rfl) (pds_cons (pd_var 3) pds_nil)) (pds_cons (pd_str [49]) pds_nil))))) (pdw_or1 (pdb_not (pdb_tru (pd_call F__law_is (hr.mono (by omega)) (by rfl) (pds_cons (pd_call F_settled_bytes (hr.mono (by omega)) (by rfl) (pds_cons (pd_var 3) pds_nil)) (pds_cons (pd_tup pds_nil) pds_nil))))))))) (psd_one (psd_ret (W := WF) pd_bl)) psd_nil)
    (psd_cons (psd_set (i := 5) (pm_strict (W := WF) (pd_ix (pd_tup (pds_cons (pd_tup (pds_cons pd_int (pds_cons pd_int (pds_cons pd_int pds_nil)))) (pds_cons (pd_tup (pds_cons pd_int (pds_cons pd_int (pds_cons pd_int pds_nil)))) pds_nil))) (pd_var 1) (by intro _ _; rfl))) nd rfl (by first | exact Or.inl rfl | exact Or.inr rfl) (by rfl) (by first | exact Or.inl rfl | exact Or.inr rfl))
    (psd_cons (psd_set (i := 6) (pm_strict (W := WF) (pd_ix (pd_tup (pds_cons (pd_bin os_add (pd_str [48]) (pd_bin os_mul (pd_str [49]) (pd_var 0))) (pds_cons (pd_bin os_add (pd_str [49]) (pd_bin os_mul (pd_str [48]) (pd_var 0))) pds_nil))) (pd_var 1) (by intro _ _; rfl))) nd rfl (by first | exact Or.inl rfl | exact Or.inr rfl) (by rfl) (by first | exact Or.inl rfl | exact Or.inr rfl))
    (psd_cons (psd_set (i := 7) (pm_strict (W := WF) (pd_call F__law_bytes_in (hr.mono (by omega)) (by rfl) (pds_cons (pd_var 6) pds_nil))) nd rfl (by first | exact Or.inl rfl | exact Or.inr rfl) (by rfl) (by first | exact Or.inl rfl | exact Or.inr rfl))
    (psd_cons (psd_if (pmb_strict (W := WF) (pdb_bool (pdw_or (pdb_not (pdb_tru (pd_call F__law_is (hr.mono (by omega)) (by rfl) (pds_cons (pd_meth (c := 2) (cd := cd_RangeWriter K) (pd_var 2) rfl C_RangeWriter (show _ ∉ (["sent", "state"] : List Str) by decide) M_RangeWriter_put_step (hr.mono (by omega)) (pds_cons (pd_var 5) pds_nil)) (pds_cons (pd_var 7) pds_nil))))) (pdw_or1 (pdb_not (pdb_tru (pd_call F__law_is (hr.mono (by omega)) (by rfl) (pds_cons (pd_call F_settled_bytes (hr.mono (by omega)) (by rfl) (pds_cons (pd_bin os_add (pd_var 3) (pd_tup (pds_cons (pd_var 5) pds_nil))) pds_nil)) (pds_cons (pd_var 7) pds_nil))))))))) (psd_one (psd_ret (W := WF) pd_bl)) psd_nil)
    (psd_cons (psd_set (i := 8) (pm_strict (W := WF) (pd_ix (pd_tup (pds_cons (pd_var 6) (pds_cons (pd_str [49]) pds_nil))) (pd_var 1) (by intro _ _; rfl))) nd rfl (by first | exact Or.inl rfl | exact Or.inr rfl) (by rfl) (by first | exact Or.inl rfl | exact Or.inr rfl))
    (psd_cons (psd_if (pmb_strict (W := WF) (pdb_bool (pdw_or (pdb_not (pdb_tru (pd_call F__law_is (hr.mono (by omega)) (by rfl) (pds_cons (pd_meth0 (c := 2) (cd := cd_RangeWriter K) (pd_var 2) rfl C_RangeWriter (show _ ∉ (["sent", "state"] : List Str) by decide) M_RangeWriter_code_so_far (hr.mono (by omega))) (pds_cons (pd_var 8) pds_nil))))) (pdw_or1 (pdb_not (pdb_tru (pd_call F__law_is (hr.mono (by omega)) (by rfl) (pds_cons (pd_call F_code_of_steps (hr.mono (by omega)) (by rfl) (pds_cons (pd_bin os_add (pd_var 3) (pd_tup (pds_cons (pd_var 5) pds_nil))) pds_nil)) (pds_cons (pd_var 8) pds_nil))))))))) (psd_one (psd_ret (W := WF) pd_bl)) psd_nil)
    (psd_one (psd_ret (W := WF) (pd_call F__law_is (hr.mono (by omega)) (by rfl) (pds_cons (pd_call F_code_length (hr.mono (by omega)) (by rfl) (pds_cons (pd_bin os_add (pd_var 3) (pd_tup (pds_cons (pd_var 5) pds_nil))) pds_nil)) (pds_cons (pd_len (by rfl) B.len_ (pd_var 8)) pds_nil)))))))))))))))
abbrev N__law_goes_on : List Str := ["many", "side", "draws", "steps", "writer", "state", "before", "step", "settled"]
theorem sc__law_goes_on : FnScope N__law_goes_on ["many", "side", "draws"] (defScope (top 41)) := ⟨rfl, rfl, rfl, by decide +kernel, rfl, by decide +kernel, by decide +kernel⟩
theorem ok__law_goes_on {P : Program} {w : World} {K : PySem.W.Frag} {mg : Str → Option Value} {base : Heap} {f : Addr} {fd : FuncData} (B : BX mg) (C_RangeWriter : CDok K (cd_RangeWriter K)) (N_RangeWriter : NI P w K mg base (ct K) 2 "RangeWriter" (cd_RangeWriter K).C s_RangeWriter___init__) (M_RangeWriter_code_so_far : MI P w K mg base (ct K) 4 (cd_RangeWriter K).C "code_so_far" s_RangeWriter_code_so_far) (M_RangeWriter_put_step : MI P w K mg base (ct K) 2 (cd_RangeWriter K).C "put_step" s_RangeWriter_put_step) (F__law_coded : FI P w K mg base (ct K) 1 "_law_coded" s__law_coded) (F__law_is : FI P w K mg base (ct K) 10 "_law_is" (s__law_is 8)) (F__law_made_steps : FI P w K mg base (ct K) 1 "_law_made_steps" s__law_made_steps) (F__law_settled : FI P w K mg base (ct K) 1 "_law_settled" s__law_settled) (F__law_state_code : FI P w K mg base (ct K) 2 "_law_state_code" s__law_state_code) (F_settled_bytes : FI P w K mg base (ct K) 3 "settled_bytes" s_settled_bytes) (F_state_of_steps : FI P w K mg base (ct K) 2 "state_of_steps" s_state_of_steps) (F : FunD K "_law_goes_on" "_law_goes_on" (defArgs (top 41)) (defBody (top 41)) (defScope (top 41)) [] [] f fd) : FA P w K mg base (ct K) 12 f s__law_goes_on := by
  refine FA.mk' (N := N__law_goes_on) (ps := ["many", "side", "draws"]) (k := 11) F sc__law_goes_on (F.bindsN fun _ _ _ _ _ _ us hl => match us, hl with | [_, _, _], _ => rfl) rfl rfl fun cdv A outer s H E hr => ?_
  have nd := sc__law_goes_on.nd
  have hu := hr.units
  exact (psd_cons (psd_set (i := 3) (pm_strict (W := WF) (pd_bin os_add (pd_bin os_add (pd_bin os_mul (pd_lst (pds_cons (pd_tup (pds_cons pd_int (pds_cons pd_int (pds_cons pd_int pds_nil)))) pds_nil)) (pd_var 0)) (pd_lst (pds_cons (pd_ix (pd_tup (pds_cons (pd_tup (pds_cons pd_int (pds_cons pd_int (pds_cons pd_int pds_nil)))) (pds_cons (pd_tup (pds_cons pd_int (pds_cons pd_int (pds_cons pd_int pds_nil)))) pds_nil))) (pd_var 1) (by intro _ _; rfl)) pds_nil))) (pd_callT cs_list (by rfl) B.list_ (by decide +kernel) (pds_cons (pd_call F__law_made_steps (hr.mono (by omega)) (by rfl) (pds_cons (pd_var 2) (pds_cons pd_int pds_nil))) pds_nil)))) nd rfl (by first | exact Or.inl rfl | exact Or.inr rfl) (by rfl) (by first | exact Or.inl rfl | exact Or.inr rfl))
    (psd_cons (psd_set (i := 3) (pm_strict (W := WF) (pd_bin os_add (pd_bin os_add (pd_var 3) (pd_bin os_mul (pd_lst (pds_cons (pd_tup (pds_cons pd_int (pds_cons pd_int (pds_cons pd_int pds_nil)))) pds_nil)) (pd_bin os_mod (pd_var 0) pd_int))) (pd_callT cs_list (by rfl) B.list_ (by decide +kernel) (pds_cons (pd_call F__law_made_steps (hr.mono (by omega)) (by rfl) (pds_cons (pd_cut (pd_var 2) (pdo_some pd_int) pdo_none) (pds_cons pd_int pds_nil))) pds_nil)))) nd rfl (by first | exact Or.inl rfl | exact Or.inr rfl) (by rfl) (by first | exact Or.inl rfl | exact Or.inr rfl))
    (psd_cons (psd_par3 (i := 4) (j := 5) (l := 6) (pms_strict (W := WF) (pds_cons (pd_new0 (c := 2) (cd := cd_RangeWriter K) rfl N_RangeWriter (hr.mono (by omega)) (by rfl) rfl) (pds_cons (pd_tup (pds_cons pd_int (pds_cons pd_int (pds_cons pd_int pds_nil)))) (pds_cons (pd_tup pds_nil) pds_nil)))) rfl nd rfl rfl rfl (by decide) (by decide) (by decide) (by rfl) (by rfl) (by rfl) (by rfl) (by rfl))
    (psd_cons (psd_for (pmi_strict (W := WF) (pdi_seq (pd_var 3))) (pgd_name (i := 7) nd rfl (by first | exact Or.inl rfl | exact Or.inr rfl) (by first | exact Or.inl rfl | exact Or.inr rfl)) (psd_cons (psd_set (i := 5) (pm_strict (W := WF) (pd_call F__law_coded (hr.mono (by omega)) (by rfl) (pds_cons (pd_var 5) (pds_cons (pd_var 7) pds_nil)))) nd rfl (by first | exact Or.inl rfl | exact Or.inr rfl) (by rfl) (by first | exact Or.inl rfl | exact Or.inr rfl))
    (psd_cons (psd_set (i := 8) (pm_strict (W := WF) (pd_call F__law_settled (hr.mono (by omega)) (by rfl) (pds_cons (pd_var 5) pds_nil))) nd rfl (by first | exact Or.inl rfl | exact Or.inr rfl) (by rfl) (by first | exact Or.inl rfl | exact Or.inr rfl))
    (psd_cons (psd_if (pmb_strict (W := WF) (pdb_bool (pdw_or (pdb_not (pdb_tru (pd_call F__law_is (hr.mono (by omega)) (by rfl) (pds_cons (pd_meth (c := 2) (cd := cd_RangeWriter K) (pd_var 4) rfl C_RangeWriter (show _ ∉ (["sent", "state"] : List Str) by decide) M_RangeWriter_put_step (hr.mono (by omega)) (pds_cons (pd_var 7) pds_nil)) (pds_cons (pd_cut (pd_var 8) (pdo_some (pd_len (by rfl) B.len_ (pd_var 6))) pdo_none) pds_nil))))) (pdw_or1 (pdb_cmp (os_ne hu) (pd_cut (pd_var 8) pdo_none (pdo_some (pd_len (by rfl) B.len_ (pd_var 6)))) (pd_var 6) (by rfl)))))) (psd_one (psd_ret (W := WF) pd_bl)) psd_nil)
    (psd_one (psd_set (i := 6) (pm_strict (W := WF) (pd_var 8)) nd rfl (by first | exact Or.inl rfl | exact Or.inr rfl) (by rfl) (by first | exact Or.inl rfl | exact Or.inr rfl)))))) PassesOwn.never rfl)
    (psd_cons (psd_if (pmb_strict (W := WF) (pdb_not (pdb_tru (pd_call F__law_is (hr.mono (by omega)) (by rfl) (pds_cons (pd_meth0 (c := 2) (cd := cd_RangeWriter K) (pd_var 4) rfl C_RangeWriter (show _ ∉ (["sent", "state"] : List Str) by decide) M_RangeWriter_code_so_far (hr.mono (by omega))) (pds_cons (pd_call F__law_state_code (hr.mono (by omega)) (by rfl) (pds_cons (pd_var 5) pds_nil)) pds_nil)))))) (psd_one (psd_ret (W := WF) pd_bl)) psd_nil)
    (psd_one (psd_ret (W := WF) (pd_and (pd_call F__law_is (hr.mono (by omega)) (by rfl) (pds_cons (pd_call F_state_of_steps (hr.mono (by omega)) (by rfl) (pds_cons (pd_callT cs_tuple (by rfl) B.tuple_ (by decide +kernel) (pds_cons (pd_var 3) pds_nil)) pds_nil)) (pds_cons (pd_var 5) pds_nil))) (pd_one (pd_call F__law_is (hr.mono (by omega)) (by rfl) (pds_cons (pd_call F_settled_bytes (hr.mono (by omega)) (by rfl) (pds_cons (pd_callT cs_tuple (by rfl) B.tuple_ (by decide +kernel) (pds_cons (pd_var 3) pds_nil)) pds_nil)) (pds_cons (pd_var 6) pds_nil))))))))))))
abbrev N__law_found_again : List Str := ["many", "draws", "tally", "last", "symbols", "steps", "numbers", "code", "reader", "one", "number", "at"]
theorem sc__law_found_again : FnScope N__law_found_again ["many", "draws"] (defScope (top 42)) := ⟨rfl, rfl, rfl, by decide +kernel, rfl, by decide +kernel, by decide +kernel⟩
theorem ok__law_found_again {P : Program} {w : World} {K : PySem.W.Frag} {mg : Str → Option Value} {base : Heap} {f : Addr} {fd : FuncData} (B : BX mg) (C_RangeReader : CDok K (cd_RangeReader K)) (N_RangeReader : NI P w K mg base (ct K) 2 "RangeReader" (cd_RangeReader K).C s_RangeReader___init__) (M_RangeReader_find_figures : MI P w K mg base (ct K) 2 (cd_RangeReader K).C "find_figures" s_RangeReader_find_figures) (M_RangeReader_find_symbol : MI P w K mg base (ct K) 2 (cd_RangeReader K).C "find_symbol" s_RangeReader_find_symbol) (M_RangeReader_is_ended : MI P w K mg base (ct K) 4 (cd_RangeReader K).C "is_ended" s_RangeReader_is_ended) (F__law_code : FI P w K mg base (ct K) 3 "_law_code" s__law_code) (F__law_is : FI P w K mg base (ct K) 10 "_law_is" (s__law_is 8)) (F_code_of_steps : FI P w K mg base (ct K) 4 "code_of_steps" s_code_of_steps) (F : FunD K "_law_found_again" "_law_found_again" (defArgs (top 42)) (defBody (top 42)) (defScope (top 42)) [] [] f fd) : FA P w K mg base (ct K) 12 f s__law_found_again := by
  refine FA.mk' (N := N__law_found_again) (ps := ["many", "draws"]) (k := 11) F sc__law_found_again (F.bindsN fun _ _ _ _ _ _ us hl => match us, hl with | [_, _], _ => rfl) rfl rfl fun cdv A outer s H E hr => ?_
  have nd := sc__law_found_again.nd
  have hu := hr.units
  exact (psd_cons (psd_par (i := 2) (j := 3) (pms_strict (W := WF) (pds_cons (pd_tup (pds_cons pd_int (pds_cons pd_int (pds_cons pd_int pds_nil)))) (pds_cons (pd_bin os_mod (pd_callT cs_int (by rfl) B.int_ (by decide +kernel) (pds_cons (pd_ix (pd_var 1) pd_int (by intro _ _; rfl)) pds_nil)) pd_int) pds_nil))) rfl nd rfl rfl (by decide) (by rfl) (by rfl) (by rfl) (by rfl))
    (psd_cons (psd_set (i := 4) (pm_strict (W := WF) (pd_bin os_add (pd_bin os_mul (pd_lst (pds_cons pd_int pds_nil)) (pd_var 0)) (pd_lst (pds_cons (pd_var 3) (pds_cons (pd_bin os_sub pd_int (pd_var 3)) (pds_cons pd_int pds_nil)))))) nd rfl (by first | exact Or.inl rfl | exact Or.inr rfl) (by rfl) (by first | exact Or.inl rfl | exact Or.inr rfl))
    (psd_cons (psd_setLc (i := 5) (fun h => tM_strict h) (X := XB P w K mg base N__law_found_again "_law_found_again" (defScope (top 42)) f cdv A outer s H E) (own := [("one", 9)]) (W' := WF) (pdi_seq (pd_var 4)) rfl nd (blkOk_by (N := N__law_found_again) (sc := defScope (top 42)) (by decide +kernel)) (fun _ _ _ _ _ => (pge_name (i := 9) nd rfl (by first | exact Or.inl rfl | exact Or.inr rfl) (by first | exact Or.inl rfl | exact Or.inr rfl))) (fun _ _ _ _ _ => ptd_nil) (fun _ _ _ _ _ => (pd_ix (pd_tup (pds_cons (pd_tup (pds_cons pd_int (pds_cons pd_int (pds_cons pd_int pds_nil)))) (pds_cons (pd_tup (pds_cons pd_int (pds_cons pd_int (pds_cons pd_int pds_nil)))) (pds_cons (pd_tup (pds_cons pd_int (pds_cons pd_int (pds_cons pd_int pds_nil)))) pds_nil)))) (pd_var 9) (by intro _ _; rfl))) (vs := [9]) rfl (by decide) rfl rfl (by rfl))
    (psd_cons (psd_setLc (i := 6) (fun h => tM_strict h) (X := XB P w K mg base N__law_found_again "_law_found_again" (defScope (top 42)) f cdv A outer s H E) (own := [("at", 11)]) (W' := WF) (pdi_range1 (by rfl) B.range_ (pds_cons pd_int pds_nil)) rfl nd (blkOk_by (N := N__law_found_again) (sc := defScope (top 42)) (by decide +kernel)) (fun _ _ _ _ _ => (pge_name (i := 11) nd rfl (by first | exact Or.inl rfl | exact Or.inr rfl) (by first | exact Or.inl rfl | exact Or.inr rfl))) (fun _ _ _ _ _ => ptd_nil) (fun _ _ _ _ _ => (pd_bin os_and (pd_callT cs_int (by rfl) B.int_ (by decide +kernel) (pds_cons (pd_ix (pd_var 1) (pd_bin os_add pd_int (pd_var 11)) (by intro _ _; rfl)) pds_nil)) pd_int)) (vs := [11]) rfl (by decide) rfl rfl (by rfl))
    (psd_cons (psd_set (i := 7) (pm_strict (W := WF) (pd_call F__law_code (hr.mono (by omega)) (by rfl) (pds_cons (pd_bin os_add (pd_var 5) (pd_lc (X := XB P w K mg base N__law_found_again "_law_found_again" (defScope (top 42)) f cdv A outer s H E) (own := [("number", 10)]) (W' := WF) (pdi_seq (pd_var 6)) rfl nd (blkOk_by (N := N__law_found_again) (sc := defScope (top 42)) (by decide +kernel)) (fun _ _ _ _ _ => (pge_name (i := 10) nd rfl (by first | exact Or.inl rfl | exact Or.inr rfl) (by first | exact Or.inl rfl | exact Or.inr rfl))) (fun _ _ _ _ _ => ptd_nil) (fun _ _ _ _ _ => (pd_tup (pds_cons (pd_var 10) (pds_cons pd_int (pds_cons pd_int pds_nil))))) (vs := [10]) rfl (by decide))) pds_nil))) nd rfl (by first | exact Or.inl rfl | exact Or.inr rfl) (by rfl) (by first | exact Or.inl rfl | exact Or.inr rfl))
    (psd_cons (psd_if (pmb_strict (W := WF) (pdb_not (pdb_tru (pd_call F__law_is (hr.mono (by omega)) (by rfl) (pds_cons (pd_call F_code_of_steps (hr.mono (by omega)) (by rfl) (pds_cons (pd_bin os_add (pd_callT cs_tuple (by rfl) B.tuple_ (by decide +kernel) (pds_cons (pd_var 5) pds_nil)) (pd_callT cs_tuple (by rfl) B.tuple_ (by decide +kernel) (pds_cons (pd_lc (X := XB P w K mg base N__law_found_again "_law_found_again" (defScope (top 42)) f cdv A outer s H E) (own := [("number", 10)]) (W' := WF) (pdi_seq (pd_var 6)) rfl nd (blkOk_by (N := N__law_found_again) (sc := defScope (top 42)) (by decide +kernel)) (fun _ _ _ _ _ => (pge_name (i := 10) nd rfl (by first | exact Or.inl rfl | exact Or.inr rfl) (by first | exact Or.inl rfl | exact Or.inr rfl))) (fun _ _ _ _ _ => ptd_nil) (fun _ _ _ _ _ => (pd_tup (pds_cons (pd_var 10) (pds_cons pd_int (pds_cons pd_int pds_nil))))) (vs := [10]) rfl (by decide)) pds_nil))) pds_nil)) (pds_cons (pd_var 7) pds_nil)))))) (psd_one (psd_ret (W := WF) pd_bl)) psd_nil)
    (psd_cons (psd_set (i := 8) (pm_strict (W := WF) (pd_new (c := 3) (cd := cd_RangeReader K) rfl N_RangeReader (hr.mono (by omega)) (by rfl) (pds_cons (pd_var 7) pds_nil) rfl)) nd rfl (by first | exact Or.inl rfl | exact Or.inr rfl) (by rfl) (by first | exact Or.inl rfl | exact Or.inr rfl))
    (psd_cons (psd_for (pmi_strict (W := WF) (pdi_seq (pd_var 4))) (pgd_name (i := 9) nd rfl (by first | exact Or.inl rfl | exact Or.inr rfl) (by first | exact Or.inl rfl | exact Or.inr rfl)) (psd_one (psd_if (pmb_strict (W := WF) (pdb_not (pdb_tru (pd_call F__law_is (hr.mono (by omega)) (by rfl) (pds_cons (pd_meth (c := 3) (cd := cd_RangeReader K) (pd_var 8) rfl C_RangeReader (show _ ∉ (["bits", "state"] : List Str) by decide) M_RangeReader_find_symbol (hr.mono (by omega)) (pds_cons (pd_var 2) pds_nil)) (pds_cons (pd_var 9) pds_nil)))))) (psd_one (psd_ret (W := WF) pd_bl)) psd_nil)) PassesOwn.never rfl)
    (psd_cons (psd_for (pmi_strict (W := WF) (pdi_seq (pd_var 6))) (pgd_name (i := 10) nd rfl (by first | exact Or.inl rfl | exact Or.inr rfl) (by first | exact Or.inl rfl | exact Or.inr rfl)) (psd_one (psd_if (pmb_strict (W := WF) (pdb_not (pdb_tru (pd_call F__law_is (hr.mono (by omega)) (by rfl) (pds_cons (pd_meth (c := 3) (cd := cd_RangeReader K) (pd_var 8) rfl C_RangeReader (show _ ∉ (["bits", "state"] : List Str) by decide) M_RangeReader_find_figures (hr.mono (by omega)) (pds_cons pd_int pds_nil)) (pds_cons (pd_var 10) pds_nil)))))) (psd_one (psd_ret (W := WF) pd_bl)) psd_nil)) PassesOwn.never rfl)
    (psd_one (psd_ret (W := WF) (pd_and (pd_call F__law_is (hr.mono (by omega)) (by rfl) (pds_cons (pd_meth0 (c := 3) (cd := cd_RangeReader K) (pd_var 8) rfl C_RangeReader (show _ ∉ (["bits", "state"] : List Str) by decide) M_RangeReader_is_ended (hr.mono (by omega))) (pds_cons pd_bl pds_nil))) (pd_one (pd_call F__law_is (hr.mono (by omega)) (by rfl) (pds_cons (pd_meth0 (c := 3) (cd := cd_RangeReader K) (pd_new (c := 3) (cd := cd_RangeReader K) rfl N_RangeReader (hr.mono (by omega)) (by rfl) (pds_cons (pd_bin os_add (pd_var 7) (pd_str [49])) pds_nil) rfl) rfl C_RangeReader (show _ ∉ (["bits", "state"] : List Str) by decide) M_RangeReader_is_ended (hr.mono (by omega))) (pds_cons pd_bl pds_nil))))))))))))))))
abbrev N_law : List Str := ["script", "k", "draws", "many", "side"]
theorem sc_law : FnScope N_law ["script"] (defScope (top 43)) := ⟨rfl, rfl, rfl, by decide +kernel, rfl, by decide +kernel, by decide +kernel⟩
theorem okE_law {P : Program} {w : World} {K : PySem.W.Frag} {mg : Str → Option Value} {base : Heap} {f : Addr} {fd : FuncData} (B : BX mg) (F__law_cell : FI P w K mg base (ct K) 1 "_law_cell" s__law_cell) (F__law_draws : FI P w K mg base (ct K) 1 "_law_draws" s__law_draws) (F__law_found_again : FI P w K mg base (ct K) 12 "_law_found_again" s__law_found_again) (F__law_goes_on : FI P w K mg base (ct K) 12 "_law_goes_on" s__law_goes_on) (F__law_waits : FI P w K mg base (ct K) 12 "_law_waits" s__law_waits) (F : FunD K "law" "law" (defArgs (top 43)) (defBody (top 43)) (defScope (top 43)) [] [] f fd) : FnOk P w K mg base CX0 13 f fd ["script"] (spD K (ct K) s_law) := by
  refine FA.mkE (N := N_law) (ps := ["script"]) (k := 12) F sc_law rfl rfl fun cdv A outer s H E hr => ?_
  have nd := sc_law.nd
  have hu := hr.units
  exact (psd_cons (psd_for (pmi_strict (W := WF) (pdi_range1 (by rfl) B.range_ (pds_cons pd_int pds_nil))) (pgd_name (i := 1) nd rfl (by first | exact Or.inl rfl | exact Or.inr rfl) (by first | exact Or.inl rfl | exact Or.inr rfl)) (psd_cons (psd_set (i := 2) (pm_strict (W := WF) (pd_call F__law_draws (hr.mono (by omega)) (by rfl) (pds_cons (pd_call F__law_cell (hr.mono (by omega)) (by rfl) (pds_cons (pd_var 0) (pds_cons (pd_var 1) pds_nil))) (pds_cons pd_int pds_nil)))) nd rfl (by first | exact Or.inl rfl | exact Or.inr rfl) (by rfl) (by first | exact Or.inl rfl | exact Or.inr rfl))
    (psd_cons (psd_par (i := 3) (j := 4) (pms_strict (W := WF) (pds_cons (pd_bin os_add pd_int (pd_bin os_mod (pd_callT cs_int (by rfl) B.int_ (by decide +kernel) (pds_cons (pd_ix (pd_var 2) pd_int (by intro _ _; rfl)) pds_nil)) pd_int)) (pds_cons (pd_bin os_mod (pd_callT cs_int (by rfl) B.int_ (by decide +kernel) (pds_cons (pd_ix (pd_var 2) pd_int (by intro _ _; rfl)) pds_nil)) pd_int) pds_nil))) rfl nd rfl rfl (by decide) (by rfl) (by rfl) (by rfl) (by rfl))
    (psd_cons (psd_if (pmb_strict (W := WF) (pdb_bool (pdw_or (pdb_not (pdb_tru (pd_call F__law_waits (hr.mono (by omega)) (by rfl) (pds_cons (pd_var 3) (pds_cons (pd_var 4) pds_nil))))) (pdw_or1 (pdb_not (pdb_tru (pd_call F__law_goes_on (hr.mono (by omega)) (by rfl) (pds_cons (pd_var 3) (pds_cons (pd_var 4) (pds_cons (pd_cut (pd_var 2) (pdo_some pd_int) pdo_none) pds_nil)))))))))) (psd_one (psd_ret (W := WF) pd_bl)) psd_nil)
    (psd_one (psd_if (pmb_strict (W := WF) (pdb_not (pdb_tru (pd_call F__law_found_again (hr.mono (by omega)) (by rfl) (pds_cons (pd_var 3) (pds_cons (pd_cut (pd_var 2) (pdo_some pd_int) pdo_none) pds_nil)))))) (psd_one (psd_ret (W := WF) pd_bl)) psd_nil))))) PassesOwn.never rfl)
    (psd_one (psd_ret (W := WF) pd_bl)))
end DL
end
section
set_option maxRecDepth 100000
set_option maxHeartbeats 1000000
/-! The helpers that every law has. -/
namespace DL
theorem lawis_int (n : Nat) (i : Int) (S : Store) : s__law_is (n + 1) [.int i, .int i] S = .ok (.bl true) S := by
  simp [s__law_is, b__law_is, s__law_is_integer, b__law_is_integer, R.bind, opIs, D.isNon, D.isT]
theorem lawis_bool (n : Nat) (i : Bool) (S : Store) : s__law_is (n + 1) [.bl i, .bl i] S = .ok (.bl true) S := by
  cases i <;> simp [s__law_is, b__law_is, R.bind, opIs, D.isNon, D.isT, opEq, D.scl, D.eq]
theorem lawis_str (n : Nat) (s : List Nat) (S : Store) : s__law_is (n + 1) [.str s, .str s] S = .ok (.bl true) S := by
  simp [s__law_is, b__law_is, R.bind, opIs, D.isNon, D.isT, eq_str]
theorem lawis_non (n : Nat) (S : Store) : s__law_is (n + 1) [.non, .non] S = .ok (.bl true) S := by
  simp [s__law_is, b__law_is, R.bind, opIs, D.isNon, D.isT]
theorem fAll_true (n : Nat) : fAll [.lst (List.replicate n (.bl true))] = some (.bl true) := by
  have : D.bls (List.replicate n (.bl true)) = some (List.replicate n true) := by
    induction n with
    | zero => rfl
    | succ n ih => rw [List.replicate_succ]; show (D.bls _).map _ = _; rw [ih]; rfl
  show (D.bls _).map _ = _
  rw [this]
  simp
theorem lawis_tup (n : Nat) (xs : List D) (S : Store) (hl : xs.length ≤ 16777216) (h : ∀ d ∈ xs, s__law_is n [d, d] S = .ok (.bl true) S) : s__law_is (n + 1) [.tup xs, .tup xs] S = .ok (.bl true) S := by
  have lc : runLc (.nm 2) tyes (ecall (s__law_is n) (econs (eix (evar 0) (evar 2)) (econs (eix (evar 1) (evar 2)) enil))) [.val (.tup xs), .val (.tup xs), .no] ((List.range xs.length).map nI) S = .ok (List.replicate xs.length (.bl true)) S := by
    rw [runLc_to nI (fun _ => D.bl true) _ fun i hi => ⟨_, rfl, ?_⟩]
    · rw [List.map_const', List.length_range]
    · have lt : i < xs.length := List.mem_range.mp hi
      have e : opIx (.tup xs) (nI i) = some xs[i] := by rw [ix_tup]; simp [lt]
      generalize s__law_is n = F at h ⊢
      simp [R.bind, e, h xs[i] (List.getElem_mem lt)]
  have rg : irng1 (econs (elen (evar 1)) enil) [.val (.tup xs), .val (.tup xs), .no] S = .ok ((List.range xs.length).map nI) S := irng1_nat (by simp [R.bind]) hl
  generalize hF : s__law_is n = F at lc
  have u : s__law_is (n + 1) = mkFn 2 3 (b__law_is F) := by rw [← hF]; rfl
  rw [u]
  simp [b__law_is, R.bind, opIs, D.isNon, D.isT, wipeG, rg, lc, fAll_true, hl]
theorem lawis_n : ∀ (n : Nat) (d : D) (S : Store), D.plain n d = true → s__law_is (n + 1) [d, d] S = .ok (.bl true) S
  | n, .non, S, _ => lawis_non n S
  | n, .bl b, S, _ => lawis_bool n b S
  | n, .int i, S, _ => lawis_int n i S
  | n, .str s, S, _ => lawis_str n s S
  | n + 1, .tup xs, S, h => by
    have h : (decide (xs.length ≤ 16777216) && D.plains n xs) = true := h
    rw [Bool.and_eq_true, decide_eq_true_eq] at h
    exact lawis_tup (n + 1) xs S h.1 fun d hd => lawis_n n d S (plains_mem h.2 d hd)
/-- a value is what is due -/
theorem lawis (d : D) (S : Store) (h : D.plain 7 d = true) : s__law_is 8 [d, d] S = .ok (.bl true) S := lawis_n 7 d S h
/-! ### the script's numbers -/
theorem cell_eq (ns : List Int) (k : Nat) (S : Store) : ∃ x : Int, s__law_cell [.scr ns, nI k] S = .ok (.int x) S := by
  by_cases h : k < ns.length
  · have e : opIx (.scr ns) (nI k) = some (.int ns[k]) := by
      show (L2.atI ns (k : Int)).map D.int = _
      rw [atI_nat']; simp [h]
    refine ⟨ns[k], ?_⟩
    simp [s__law_cell, b__law_cell, R.bind, h, e]
  · have m : mulOk 5 (k : Int) = true := mulOk_l _ _ (by decide)
    refine ⟨5 * k + 3, ?_⟩
    simp [s__law_cell, b__law_cell, R.bind, h, m]
def okD (ds : List Nat) : Prop := ∀ d ∈ ds, d < 5040
theorem draws_eq (x : Int) (n : Nat) (S : Store) (hS : Store.flat S = true) (hn : n ≤ 90000) : ∃ ds : List Nat, s__law_draws [.int x, nI n] S = .ok (.lst (ds.map nI)) S ∧ ds.length = n ∧ okD ds := by
  generalize hy : (if x < 0 then -x else x) = y
  have rg : irng1 (econs (evar 1) enil) (hide [.val (.int x), .val (nI n), .val (.int y), .val (.bl (decide (10 ^ 18 ≤ y))), .val (.int y), .own [], .no, .no]) S = .ok ((List.range n).map nI) S := irng1_nat (by simp [R.bind]) (by omega)
  have pw : opPow (.int 10) (.int 18) = some (.int (10 ^ 18)) := rfl
  generalize hE : (10 : Int) ^ 18 = E at *
  generalize hdg : decide (E ≤ y) = dg at *
  have m1 : ∀ z : Int, mulOk z 48271 = true := fun z => mulOk_r _ _ (by decide)
  have m2 : ∀ z : Int, mulOk z 69621 = true := fun z => mulOk_r _ _ (by decide)
  have m3 : ∀ z : Int, mulOk 40692 z = true := fun z => mulOk_l _ _ (by decide)
  have l1 : Nat.log2 5040 < 9000 := by decide
  have l2 : Nat.log2 64 < 9000 := by decide
  obtain ⟨G', S', e, P⟩ := runFor_range (g := .nm 6) (u := (sif (strict (band (tru (evar 3)) (tst (ebin opGt (evar 2) (ec (.int 0)))))) (sseq (sadd 5 addOne (strict (ebin opMod (ecal fInt (econs (evar 2) enil)) (ec (.int 5040)))))
    (sset 2 (strict (ebin opDiv (evar 2) (ec (.int 5040)))))) (sseq (sset 7 (strict (ebin opMod (ecal fInt (econs (ebin opAdd (ebin opAdd (ebin opMul (evar 4) (ec (.int 48271))) (ebin opMul (ebin opAdd (evar 6) (ec (.int 1))) (ec (.int 69621)))) (ec (.int 11))) enil)) (ec (.int 2147483647)))))
    (sseq (sset 7 (strict (ebin opMod (ecal fInt (econs (ebin opAdd (ebin opMul (evar 7) (evar 7)) (ebin opMul (ec (.int 40692)) (ebin opAdd (evar 6) (ec (.int 3))))) enil)) (ec (.int 2147483399)))))
    (sadd 5 addOne (strict (ebin opMod (ecal fInt (econs (ebin opDiv (evar 7) (ec (.int 64))) enil)) (ec (.int 5040))))))))) n
    (fun i G S' => S' = S ∧ ∃ (rest : Int) (ds : List Nat) (a b : Slot), G = [.val (.int x), .val (nI n), .val (.int rest), .val (.bl dg), .val (.int y), .own (ds.map nI), a, b] ∧ ds.length = i ∧ okD ds)
    (G := [.val (.int x), .val (nI n), .val (.int y), .val (.bl dg), .val (.int y), .own [], .no, .no]) (S := S)
    ⟨rfl, y, [], .no, .no, rfl, rfl, fun d hd => by cases hd⟩ (fun k G S1 hkn ⟨e1, rest, ds, a, b, e2, e3, e4⟩ => by
      subst e1 e2
      have snoc : ∀ z : Int, okD (ds ++ [(z % 5040).toNat]) := fun z d hd => by
        rcases List.mem_append.mp hd with q | q
        · exact e4 d q
        · rw [List.mem_singleton.mp q]; omega
      have sn : ∀ z : Int, D.int (z % 5040) = nI (z % 5040).toNat := fun z => by show D.int _ = D.int _; congr 1; omega
      have hz : ds.length + 1 ≤ 16777216 := by omega
      by_cases c : dg = true ∧ 0 < rest
      · obtain ⟨c1, c2⟩ := c
        subst c1
        refine ⟨_, [.val (.int x), .val (nI n), .val (.int (rest / 5040)), .val (.bl true), .val (.int y), .own ((ds ++ [(rest % 5040).toNat]).map nI), .val (nI k), b], _, rfl, .inl ?_, rfl, rest / 5040, ds ++ [(rest % 5040).toNat], .val (nI k), b, rfl, by simp [e3], snoc rest⟩
        simp [R.bind, c2, l1, hz]
        omega
      · generalize hM : (y * 48271 + ((k : Int) + 1) * 69621 + 11) % 2147483647 = M
        have bM : 0 ≤ M ∧ M < 2147483647 := by rw [← hM]; omega
        have mM : mulOk M M = true := mulOk_r _ _ (by omega)
        generalize hN : (M * M + 40692 * ((k : Int) + 3)) % 2147483399 = N
        refine ⟨_, [.val (.int x), .val (nI n), .val (.int rest), .val (.bl dg), .val (.int y), .own ((ds ++ [(N / 64 % 5040).toNat]).map nI), .val (nI k), .val (.int N)], _, rfl, .inl ?_, rfl, rest, ds ++ [(N / 64 % 5040).toNat], .val (nI k), .val (.int N), rfl, by simp [e3], snoc (N / 64)⟩
        cases dg with
        | true =>
          have c2 : ¬ 0 < rest := fun q => c ⟨rfl, q⟩
          simp [R.bind, c2, l2, hz, m1, m2, m3, hM, mM, hN]
          omega
        | false =>
          simp [R.bind, l2, hz, m1, m2, m3, hM, mM, hN]
          omega)
  obtain ⟨e1, rest, ds, a, b, e2, e3, e4⟩ := P
  subst e1 e2
  refine ⟨ds, ?_, by simpa using e3, e4⟩
  simp only [ev_hideV, ev_hideO, ev_hideN, ev_hide0] at rg
  simp [s__law_draws, b__law_draws, R.bind, hy, pw, hS, D.flats, hdg, rg, e]
/-- as a test -/
theorem is_tru {A B : Ex} {G : Env} {S S1 S2 : Store} {d : D} (h1 : A G S = .ok d S1) (h2 : B G S1 = .ok d S2) (hp : D.plain 7 d = true) : tru (ecall (s__law_is 8) (econs A (econs B enil))) G S = .ok true S2 := by
  have := lawis d S2 hp
  generalize s__law_is 8 = F at this ⊢
  simp [R.bind, h1, h2, this]
theorem is_val {A B : Ex} {G : Env} {S S1 S2 : Store} {d : D} (h1 : A G S = .ok d S1) (h2 : B G S1 = .ok d S2) (hp : D.plain 7 d = true) : ecall (s__law_is 8) (econs A (econs B enil)) G S = .ok (.bl true) S2 := by
  have := lawis d S2 hp
  generalize s__law_is 8 = F at this ⊢
  simp [R.bind, h1, h2, this]
theorem not_is {A B : Ex} {G : Env} {S S1 S2 : Store} {d : D} (h1 : A G S = .ok d S1) (h2 : B G S1 = .ok d S2) (hp : D.plain 7 d = true) : bnot (tru (ecall (s__law_is 8) (econs A (econs B enil)))) G S = .ok false S2 := not_tru (is_tru h1 h2 hp)
theorem not_is1 {A B : Ex} {G : Env} {S S1 : Store} {d : D} (h1 : A G S = .ok d S1) (h2 : B G S1 = .ok d S1) (hp : D.plain 7 d = true) : bnot (tru (ecall (s__law_is 8) (econs A (econs B enil)))) G S = .ok false S1 := not_is h1 h2 hp
theorem is_val1 {A B : Ex} {G : Env} {S S1 : Store} {d : D} (h1 : A G S = .ok d S1) (h2 : B G S1 = .ok d S1) (hp : D.plain 7 d = true) : ecall (s__law_is 8) (econs A (econs B enil)) G S = .ok (.bl true) S1 := is_val h1 h2 hp
end DL

end
section
/-! Range coding in plain numbers: states, steps, their codes. -/
namespace RC
structure RS where
  l : Nat
  w : Nat
  s : Nat
structure Sp where
  a : Nat
  b : Nat
  T : Nat
def sh (w : Nat) : Nat := if 16777216 ≤ w then 0 else if 65536 ≤ w then 1 else if 256 ≤ w then 2 else 3
def cod (st : RS) (t : Sp) : RS := ⟨(st.l + st.w / t.T * t.a) * 256 ^ sh (st.w / t.T * t.b), st.w / t.T * t.b * 256 ^ sh (st.w / t.T * t.b), st.s + 8 * sh (st.w / t.T * t.b)⟩
structure Ok (st : RS) : Prop where
  w : 16777216 ≤ st.w
  le : st.l + st.w ≤ 2 ^ st.s
structure Good (t : Sp) : Prop where
  b : 1 ≤ t.b
  ab : t.a + t.b ≤ t.T
  T : t.T ≤ 4096
theorem sh_ge {w : Nat} (h : 1 ≤ w) : 16777216 ≤ w * 256 ^ sh w := by
  unfold sh
  split
  · omega
  · split
    · omega
    · split <;> omega
theorem p256 (k : Nat) : 256 ^ k = 2 ^ (8 * k) := by rw [Nat.pow_mul]
theorem unit_pos {st : RS} {t : Sp} (o : Ok st) (g : Good t) : 4096 ≤ st.w / t.T := by
  have h1 := g.b; have h2 := g.ab; have h3 := g.T; have h4 := o.w
  have : 16777216 / 4096 ≤ st.w / t.T := Nat.le_trans (Nat.div_le_div_left h3 (by omega)) (Nat.div_le_div_right h4)
  omega
theorem cod_ok {st : RS} {t : Sp} (o : Ok st) (g : Good t) : Ok (cod st t) := by
  have hu := unit_pos o g
  have h1 := g.b; have h2 := g.ab
  have hw : 1 ≤ st.w / t.T * t.b := Nat.mul_pos (by omega) h1
  refine ⟨sh_ge hw, ?_⟩
  show (st.l + st.w / t.T * t.a) * 256 ^ sh (st.w / t.T * t.b) + st.w / t.T * t.b * 256 ^ sh (st.w / t.T * t.b) ≤ 2 ^ (st.s + 8 * sh (st.w / t.T * t.b))
  rw [← Nat.add_mul, Nat.pow_add, p256]
  refine Nat.mul_le_mul_right _ ?_
  have a1 : st.w / t.T * t.a + st.w / t.T * t.b ≤ st.w := by
    rw [← Nat.mul_add]
    exact Nat.le_trans (Nat.mul_le_mul_left _ h2) (Nat.div_mul_le_self _ _)
  have := o.le
  omega
theorem cod_size {st : RS} {t : Sp} (o : Ok st) (g : Good t) : (cod st t).s ≤ st.s + 16 := by
  have hu := unit_pos o g
  have h1 := g.b
  have hw : 4096 ≤ st.w / t.T * t.b := Nat.le_trans hu (Nat.le_mul_of_pos_right _ h1)
  show st.s + 8 * sh _ ≤ _
  unfold sh
  split
  · omega
  · split
    · omega
    · split <;> omega
theorem cod_size8 {st : RS} {t : Sp} (o : Ok st) (g : Good t) (hT : t.T ≤ 256) : (cod st t).s ≤ st.s + 8 := by
  have h1 := g.b; have h2 := g.ab; have h4 := o.w
  have hu : 16777216 / 256 ≤ st.w / t.T := Nat.le_trans (Nat.div_le_div_left hT (by omega)) (Nat.div_le_div_right h4)
  have hw : 65536 ≤ st.w / t.T * t.b := Nat.le_trans (by omega) (Nat.le_mul_of_pos_right _ h1)
  show st.s + 8 * sh _ ≤ _
  have : sh (st.w / t.T * t.b) ≤ 1 := by
    unfold sh
    split
    · omega
    · exact Nat.le_refl _
  omega
theorem cod_size_ge (st : RS) (t : Sp) : st.s ≤ (cod st t).s := Nat.le_add_right _ _
def first : RS := ⟨0, 4294967296, 32⟩
theorem first_ok : Ok first := ⟨by decide, by decide⟩
def run (st : RS) (ts : List Sp) : RS := ts.foldl cod st
theorem run_ok : ∀ (ts : List Sp) (st : RS), Ok st → (∀ t ∈ ts, Good t) → Ok (run st ts)
  | [], _, o, _ => o
  | t :: r, st, o, h => run_ok r _ (cod_ok o (h t List.mem_cons_self)) fun x hx => h x (List.mem_cons_of_mem _ hx)
theorem run_size : ∀ (ts : List Sp) (st : RS), Ok st → (∀ t ∈ ts, Good t) → (run st ts).s ≤ st.s + 16 * ts.length
  | [], _, o, _ => Nat.le_refl _
  | t :: r, st, o, h => by
    have g := h t List.mem_cons_self
    have := run_size r _ (cod_ok o g) fun x hx => h x (List.mem_cons_of_mem _ hx)
    have := cod_size o g
    rw [List.length_cons]
    show (run (cod st t) r).s ≤ _
    omega
theorem run_size8 : ∀ (ts : List Sp) (st : RS), Ok st → (∀ t ∈ ts, Good t ∧ t.T ≤ 256) → (run st ts).s ≤ st.s + 8 * ts.length
  | [], _, o, _ => Nat.le_refl _
  | t :: r, st, o, h => by
    have g := h t List.mem_cons_self
    have := run_size8 r _ (cod_ok o g.1) fun x hx => h x (List.mem_cons_of_mem _ hx)
    have := cod_size8 o g.1 g.2
    rw [List.length_cons]
    show (run (cod st t) r).s ≤ _
    omega
/-! ### the greatest power that divides a number of the state -/
/-- l over 2 ^ k, rounded up -/
def cd (l k : Nat) : Nat := (l + 2 ^ k - 1) / 2 ^ k
def hm (l w k : Nat) : Bool := decide (cd l k * 2 ^ k < l + w)
theorem cd_ge (l k : Nat) : l ≤ cd l k * 2 ^ k := by
  have p := Nat.two_pow_pos k
  have := Nat.div_add_mod (l + 2 ^ k - 1) (2 ^ k)
  have := Nat.mod_lt (l + 2 ^ k - 1) p
  unfold cd
  rw [Nat.mul_comm]
  omega
theorem cd_lt (l k : Nat) : cd l k * 2 ^ k < l + 2 ^ k := by
  have p := Nat.two_pow_pos k
  have := Nat.div_mul_le_self (l + 2 ^ k - 1) (2 ^ k)
  unfold cd
  omega
theorem cd_least {l k m : Nat} (h : l ≤ m * 2 ^ k) : cd l k ≤ m := by
  have p := Nat.two_pow_pos k
  unfold cd
  refine Nat.le_of_lt_succ ((Nat.div_lt_iff_lt_mul p).mpr ?_)
  rw [Nat.succ_mul]
  omega
theorem cd_uniq {l k m : Nat} (h : l ≤ m * 2 ^ k) (h2 : m * 2 ^ k < l + 2 ^ k) : cd l k = m := by
  refine Nat.le_antisymm (cd_least h) ?_
  have h3 := cd_ge l k
  refine Nat.le_of_lt_succ (Nat.lt_of_mul_lt_mul_right (a := 2 ^ k) ?_)
  rw [Nat.succ_mul]
  omega
theorem hm_iff {l w k : Nat} : hm l w k = true ↔ ∃ m, l ≤ m * 2 ^ k ∧ m * 2 ^ k < l + w := by
  unfold hm
  rw [decide_eq_true_eq]
  refine ⟨fun h => ⟨_, cd_ge l k, h⟩, fun ⟨m, h1, h2⟩ => Nat.lt_of_le_of_lt (Nat.mul_le_mul_right _ (cd_least h1)) h2⟩
theorem hm_down {l w k : Nat} (h : hm l w (k + 1) = true) : hm l w k = true := by
  obtain ⟨m, h1, h2⟩ := hm_iff.mp h
  refine hm_iff.mpr ⟨m * 2, ?_, ?_⟩ <;> rw [Nat.mul_assoc, ← Nat.pow_succ'] <;> assumption
theorem hm_low {l w k : Nat} (h : 2 ^ k ≤ w) : hm l w k = true := by
  have := cd_lt l k
  exact decide_eq_true (by omega)
theorem hm_le {l w : Nat} : ∀ {j k : Nat}, k ≤ j → hm l w j = true → hm l w k = true
  | 0, k, h, e => by rw [Nat.le_zero.mp h]; exact e
  | j + 1, k, h, e => by
    rcases Nat.lt_or_eq_of_le h with q | q
    · exact hm_le (Nat.le_of_lt_succ q) (hm_down e)
    · rw [q]; exact e
def climb (p : Nat → Bool) (s : Nat) : Nat → Nat → Nat
  | 0, k => k
  | n + 1, k => if k < s ∧ p (k + 1) = true then climb p s n (k + 1) else k
theorem climb_eq {p : Nat → Bool} {s F : Nat} : ∀ (n k : Nat), k ≤ F → F ≤ s → (∀ j, k < j → j ≤ F → p j = true) → (F = s ∨ p (F + 1) = false) → F - k ≤ n → climb p s n k = F
  | 0, k, h1, _, _, _, h5 => by show k = F; omega
  | n + 1, k, h1, h2, h3, h4, h5 => by
    unfold climb
    rcases Nat.lt_or_eq_of_le h1 with q | q
    · rw [if_pos ⟨by omega, h3 (k + 1) (by omega) (by omega)⟩]
      exact climb_eq n (k + 1) (by omega) h2 (fun j a b => h3 j (by omega) b) h4 (by omega)
    · subst q
      rw [if_neg]
      rintro ⟨a, b⟩
      rcases h4 with h4 | h4
      · omega
      · rw [h4] at b; cases b
theorem climb_ok (p : Nat → Bool) (s : Nat) : ∀ (n k : Nat), k ≤ s → s - k ≤ n → k ≤ climb p s n k ∧ climb p s n k ≤ s ∧ (∀ j, k < j → j ≤ climb p s n k → p j = true) ∧ (climb p s n k = s ∨ p (climb p s n k + 1) = false)
  | 0, k, h1, h2 => ⟨Nat.le_refl _, h1, fun j a b => absurd (Nat.lt_of_lt_of_le a b) (Nat.lt_irrefl _), .inl (by show k = s; omega)⟩
  | n + 1, k, h1, h2 => by
    unfold climb
    by_cases c : k < s ∧ p (k + 1) = true
    · rw [if_pos c]
      obtain ⟨a1, a2, a3, a4⟩ := climb_ok p s n (k + 1) (by omega) (by omega)
      refine ⟨by omega, a2, fun j x y => ?_, a4⟩
      rcases Nat.lt_or_eq_of_le (Nat.succ_le_of_lt x) with q | q
      · exact a3 j q y
      · rw [← q]; exact c.2
    · rw [if_neg c]
      refine ⟨Nat.le_refl _, h1, fun j a b => absurd (Nat.lt_of_lt_of_le a b) (Nat.lt_irrefl _), ?_⟩
      rcases Nat.lt_or_eq_of_le h1 with q | q
      · right
        cases e : p (k + 1) with
        | true => exact absurd ⟨q, e⟩ c
        | false => rfl
      · exact .inl q
/-- how far it goes -/
def fig (st : RS) : Nat := climb (hm st.l st.w) st.s st.s 0
theorem fig_le (st : RS) : fig st ≤ st.s := (climb_ok _ _ _ _ (Nat.zero_le _) (by omega)).2.1
theorem fig_hm {st : RS} (h : 0 < st.w) {k : Nat} (hk : k ≤ fig st) : hm st.l st.w k = true := by
  cases k with
  | zero => exact hm_low h
  | succ k => exact (climb_ok (hm st.l st.w) st.s st.s 0 (Nat.zero_le _) (by omega)).2.2.1 _ (by omega) hk
theorem fig_top {st : RS} (h : fig st < st.s) : hm st.l st.w (fig st + 1) = false := by
  rcases (climb_ok (hm st.l st.w) st.s st.s 0 (Nat.zero_le _) (by omega)).2.2.2 with q | q
  · exact absurd q (Nat.ne_of_lt h)
  · exact q
theorem fig_uniq {st : RS} {F : Nat} (h1 : F ≤ st.s) (h2 : hm st.l st.w F = true) (h3 : F = st.s ∨ hm st.l st.w (F + 1) = false) : fig st = F :=
  climb_eq _ _ (Nat.zero_le _) h1 (fun j _ b => hm_le b h2) h3 (by omega)
/-- from any place on that is not too far -/
theorem climb_from {st : RS} {k n : Nat} (h : 0 < st.w) (hk : 2 ^ k ≤ st.w) (hw : st.w ≤ 2 ^ st.s) (hn : st.s - k ≤ n) : climb (hm st.l st.w) st.s n k = fig st := by
  have ks : k ≤ st.s := (Nat.pow_le_pow_iff_right (by decide)).mp (Nat.le_trans hk hw)
  obtain ⟨a1, a2, a3, a4⟩ := climb_ok (hm st.l st.w) st.s n k ks hn
  refine (fig_uniq a2 ?_ a4).symm
  rcases Nat.lt_or_eq_of_le a1 with q | q
  · exact a3 _ q (Nat.le_refl _)
  · rw [← q]; exact hm_low hk
/-! ### bits -/
/-- the n bits of v -/
def bitsOf (v n : Nat) : List Nat := (List.range n).reverse.map fun i => if v / 2 ^ i % 2 = 1 then 49 else 48
theorem bitsOf_len (v n : Nat) : (bitsOf v n).length = n := by simp [bitsOf]
theorem bitsOf_zero (v : Nat) : bitsOf v 0 = [] := rfl
theorem bitsOf_succ (v n : Nat) : bitsOf v (n + 1) = (if v / 2 ^ n % 2 = 1 then 49 else 48) :: bitsOf v n := by
  unfold bitsOf
  rw [List.range_succ, List.reverse_append]
  rfl
theorem bitsOf_app (v n : Nat) : ∀ m, bitsOf v (m + n) = bitsOf (v / 2 ^ n) m ++ bitsOf v n
  | 0 => by rw [Nat.zero_add]; rfl
  | m + 1 => by
    rw [show m + 1 + n = (m + n) + 1 by omega, bitsOf_succ, bitsOf_succ, bitsOf_app v n m, Nat.div_div_eq_div_mul, ← Nat.pow_add, Nat.add_comm n m]
    rfl
theorem bitsOf_congr {u v : Nat} : ∀ n, u % 2 ^ n = v % 2 ^ n → bitsOf u n = bitsOf v n
  | 0, _ => rfl
  | n + 1, h => by
    have key : ∀ x : Nat, x / 2 ^ n % 2 = x % 2 ^ (n + 1) / 2 ^ n := fun x => by
      rw [Nat.pow_succ, Nat.mod_mul_right_div_self]
    have e1 : u / 2 ^ n % 2 = v / 2 ^ n % 2 := by rw [key u, key v, h]
    have e2 : u % 2 ^ n = v % 2 ^ n := by
      have : ∀ x : Nat, x % 2 ^ n = x % 2 ^ (n + 1) % 2 ^ n := fun x => by
        rw [Nat.pow_succ, Nat.mod_mul_right_mod]
      rw [this u, this v, h]
    rw [bitsOf_succ, bitsOf_succ, e1, bitsOf_congr n e2]
theorem bitsOf_nil (n : Nat) : bitsOf 0 n = List.replicate n 48 := by
  induction n with
  | zero => rfl
  | succ n ih => rw [bitsOf_succ, ih, Nat.zero_div]; rfl
theorem bitsOf_shift (d k n : Nat) (h : k ≤ n) : bitsOf (d * 2 ^ k) n = bitsOf d (n - k) ++ List.replicate k 48 := by
  have e := bitsOf_app (d * 2 ^ k) k (n - k)
  rw [Nat.sub_add_cancel h, Nat.mul_div_cancel _ (Nat.two_pow_pos k)] at e
  rw [e, bitsOf_congr (u := d * 2 ^ k) (v := 0) k (by rw [Nat.mul_mod_left, Nat.zero_mod]), bitsOf_nil]
theorem bitsOf_bit {v n c : Nat} (h : c ∈ bitsOf v n) : c = 48 ∨ c = 49 := by
  unfold bitsOf at h
  obtain ⟨i, _, rfl⟩ := List.mem_map.mp h
  split
  · exact .inr rfl
  · exact .inl rfl
/-- zeros behind are left out -/
def rs (x : List Nat) : List Nat := (x.reverse.dropWhile (· == 48)).reverse
theorem dropZ : ∀ (k : Nat) (y : List Nat), (List.replicate k 48 ++ y).dropWhile (· == 48) = y.dropWhile (· == 48)
  | 0, y => rfl
  | k + 1, y => by
    rw [List.replicate_succ, List.cons_append, List.dropWhile_cons]
    exact dropZ k y
theorem rs_zeros (x : List Nat) (k : Nat) : rs (x ++ List.replicate k 48) = rs x := by
  unfold rs
  rw [List.reverse_append, List.reverse_replicate, dropZ]
theorem rs_split (x : List Nat) : ∃ k, x = rs x ++ List.replicate k 48 := by
  have key : ∀ y : List Nat, ∃ k, y = List.replicate k 48 ++ y.dropWhile (· == 48) := fun y => by
    induction y with
    | nil => exact ⟨0, rfl⟩
    | cons a r ih =>
      rw [List.dropWhile_cons]
      by_cases h : a = 48
      · subst h
        obtain ⟨k, e⟩ := ih
        refine ⟨k + 1, ?_⟩
        rw [List.replicate_succ, List.cons_append]
        exact congrArg (48 :: ·) e
      · rw [if_neg (by simpa using h)]
        exact ⟨0, rfl⟩
  obtain ⟨k, e⟩ := key x.reverse
  refine ⟨k, ?_⟩
  have := congrArg List.reverse e
  rw [List.reverse_reverse, List.reverse_append, List.reverse_replicate] at this
  exact this
theorem rs_app (x y : List Nat) : rs (x ++ rs y) = rs (x ++ y) := by
  obtain ⟨k, e⟩ := rs_split y
  have e2 : rs (x ++ y) = rs (x ++ (rs y ++ List.replicate k 48)) := by rw [← e]
  rw [e2, ← List.append_assoc, rs_zeros]
theorem rs_odd (x : List Nat) : rs (x ++ [49]) = x ++ [49] := by
  unfold rs
  rw [List.reverse_append]
  show ((49 :: x.reverse).dropWhile _).reverse = _
  rw [List.dropWhile_cons, if_neg (by decide), List.reverse_cons, List.reverse_reverse]
theorem rs_bits_odd {d n : Nat} (h : d % 2 = 1) (hn : 0 < n) : rs (bitsOf d n) = bitsOf d n := by
  obtain ⟨m, rfl⟩ : ∃ m, n = m + 1 := ⟨n - 1, by omega⟩
  rw [bitsOf_app d 1 m]
  have : bitsOf d 1 = [49] := by
    rw [bitsOf_succ, Nat.pow_zero, Nat.div_one, if_pos h]; rfl
  rw [this, rs_odd]
/-! ### the code -/
def code (st : RS) : List Nat := bitsOf (cd st.l (fig st)) (st.s - fig st)
/-- the number of the state that the code tells -/
def best (st : RS) : Nat := cd st.l (fig st) * 2 ^ fig st
theorem best_in {st : RS} (o : Ok st) : st.l ≤ best st ∧ best st < st.l + st.w :=
  ⟨cd_ge _ _, by have := fig_hm (st := st) (by have := o.w; omega) (Nat.le_refl _); exact of_decide_eq_true this⟩
theorem best_lt {st : RS} (o : Ok st) : best st < 2 ^ st.s := Nat.lt_of_lt_of_le (best_in o).2 o.le
theorem fig_odd {st : RS} (o : Ok st) (h : fig st < st.s) : cd st.l (fig st) % 2 = 1 := by
  have b := best_in o
  have nt := fig_top h
  cases e : cd st.l (fig st) % 2 with
  | succ n => have := Nat.mod_lt (cd st.l (fig st)) (show 0 < 2 by decide); omega
  | zero =>
    have : hm st.l st.w (fig st + 1) = true := by
      refine hm_iff.mpr ⟨cd st.l (fig st) / 2, ?_⟩
      have e2 : cd st.l (fig st) / 2 * 2 ^ (fig st + 1) = best st := by
        unfold best
        rw [Nat.pow_succ', ← Nat.mul_assoc]
        congr 1
        omega
      rw [e2]
      exact b
    rw [nt] at this; cases this
theorem code_rs {st : RS} (o : Ok st) : code st = rs (bitsOf (best st) st.s) := by
  have hl := fig_le st
  unfold best
  rw [bitsOf_shift _ _ _ hl, rs_zeros]
  rcases Nat.lt_or_eq_of_le hl with q | q
  · rw [rs_bits_odd (fig_odd o q) (by omega)]; rfl
  · unfold code
    rw [q, Nat.sub_self]; rfl
end RC

end
section
/-! Range coding in plain numbers: settled bytes, a writer that leaves them out. -/
namespace RC
def num (xs : List Nat) : Nat := xs.foldl (fun a x => a * 256 + x) 0
theorem num_snoc (xs : List Nat) (x : Nat) : num (xs ++ [x]) = num xs * 256 + x := by unfold num; rw [List.foldl_append]; rfl
theorem num_from : ∀ (xs : List Nat) (a : Nat), xs.foldl (fun a x => a * 256 + x) a = a * 256 ^ xs.length + num xs
  | [], a => by show a = a * 256 ^ 0 + 0; omega
  | x :: r, a => by
    show r.foldl _ (a * 256 + x) = _
    rw [num_from r, show num (x :: r) = r.foldl (fun a x => a * 256 + x) (0 * 256 + x) from rfl, num_from r, List.length_cons, Nat.pow_succ', Nat.add_mul, Nat.add_mul, Nat.zero_mul, Nat.zero_add, Nat.mul_assoc]
    omega
theorem num_cons (x : Nat) (r : List Nat) : num (x :: r) = x * 256 ^ r.length + num r := by
  show r.foldl _ (0 * 256 + x) = _
  rw [num_from, Nat.zero_mul, Nat.zero_add]
theorem num_app (xs ys : List Nat) : num (xs ++ ys) = num xs * 256 ^ ys.length + num ys := by
  unfold num
  rw [List.foldl_append]
  exact num_from ys _
def Bytes (xs : List Nat) : Prop := ∀ x ∈ xs, x < 256
theorem num_lt : ∀ (xs : List Nat), Bytes xs → num xs < 256 ^ xs.length
  | [], _ => by decide
  | x :: r, h => by
    have h1 := h x List.mem_cons_self
    have h2 := num_lt r fun y hy => h y (List.mem_cons_of_mem _ hy)
    rw [num_cons, List.length_cons, Nat.pow_succ']
    have : x * 256 ^ r.length + 256 ^ r.length ≤ 256 * 256 ^ r.length := by
      rw [← Nat.succ_mul]
      exact Nat.mul_le_mul_right _ h1
    omega
/-- the bits of bytes -/
def bytesBits (xs : List Nat) : List Nat := (xs.map fun x => bitsOf x 8).flatten
theorem bytesBits_eq : ∀ (xs : List Nat), Bytes xs → bytesBits xs = bitsOf (num xs) (8 * xs.length)
  | [], _ => rfl
  | x :: r, h => by
    have h1 := h x List.mem_cons_self
    have hr : Bytes r := fun y hy => h y (List.mem_cons_of_mem _ hy)
    have h2 := num_lt r hr
    have p : (256 : Nat) ^ r.length = 2 ^ (8 * r.length) := p256 _
    rw [p] at h2
    rw [List.length_cons, show 8 * (r.length + 1) = 8 + 8 * r.length by omega, bitsOf_app, num_cons, p]
    rw [Nat.mul_comm x, Nat.mul_add_div (Nat.two_pow_pos _), Nat.div_eq_of_lt h2, Nat.add_zero]
    rw [bitsOf_congr (u := 2 ^ (8 * r.length) * x + num r) (v := num r) (8 * r.length) (by rw [Nat.mul_add_mod])]
    rw [← bytesBits_eq r hr]
    rfl
/-! ### what is settled -/
def setl (l e : Nat) : Nat → Nat → List Nat
  | 0, _ => []
  | n + 1, s => if 8 ≤ s ∧ l / 2 ^ (s - 8) = e / 2 ^ (s - 8) then l / 2 ^ (s - 8) % 256 :: setl l e n (s - 8) else []
theorem setl_succ (l e n s : Nat) : setl l e (n + 1) s = if 8 ≤ s ∧ l / 2 ^ (s - 8) = e / 2 ^ (s - 8) then l / 2 ^ (s - 8) % 256 :: setl l e n (s - 8) else [] := rfl
theorem setl_bytes (l e : Nat) : ∀ n s, Bytes (setl l e n s)
  | 0, _ => fun x hx => by cases hx
  | n + 1, s => fun x hx => by
    unfold setl at hx
    split at hx
    · rcases List.mem_cons.mp hx with q | q
      · rw [q]; exact Nat.mod_lt _ (by decide)
      · exact setl_bytes l e n (s - 8) x q
    · cases hx
/-- more turns change nothing -/
theorem setl_fuel (l e : Nat) : ∀ n m s, s ≤ n → s ≤ m → setl l e n s = setl l e m s
  | 0, 0, _, _, _ => rfl
  | 0, m + 1, s, h, _ => by
    unfold setl
    rw [if_neg (by omega)]
  | n + 1, 0, s, _, h => by
    unfold setl
    rw [if_neg (by omega)]
  | n + 1, m + 1, s, h1, h2 => by
    unfold setl
    split
    · rw [setl_fuel l e n m (s - 8) (by omega) (by omega)]
    · rfl
theorem setl_len (l e : Nat) : ∀ n s, 8 * (setl l e n s).length ≤ s
  | 0, _ => Nat.zero_le _
  | n + 1, s => by
    unfold setl
    split
    · rename_i h
      have := setl_len l e n (s - 8)
      rw [List.length_cons]
      omega
    · exact Nat.zero_le _
theorem setl_below (l e : Nat) : ∀ n s', l / 2 ^ s' = e / 2 ^ s' → setl l e n s' = setl (l % 2 ^ s') (e % 2 ^ s') n s' := by
    intro n s' h
    have gen : ∀ n k, k ≤ s' → setl l e n k = setl (l % 2 ^ s') (e % 2 ^ s') n k := by
      intro n
      induction n with
      | zero => intro k _; rfl
      | succ n ih =>
        intro k hk
        have cong : ∀ x : Nat, ∀ k, k ≤ s' → x / 2 ^ k = x / 2 ^ s' * 2 ^ (s' - k) + x % 2 ^ s' / 2 ^ k := fun x k hk => by
          have e1 : x = 2 ^ k * (x / 2 ^ s' * 2 ^ (s' - k)) + x % 2 ^ s' := by
            have : 2 ^ k * (x / 2 ^ s' * 2 ^ (s' - k)) = 2 ^ s' * (x / 2 ^ s') := by
              rw [Nat.mul_left_comm, ← Nat.pow_add, Nat.add_sub_cancel' hk, Nat.mul_comm]
            rw [this]
            exact (Nat.div_add_mod x _).symm
          calc x / 2 ^ k = (2 ^ k * (x / 2 ^ s' * 2 ^ (s' - k)) + x % 2 ^ s') / 2 ^ k := by rw [← e1]
            _ = _ := Nat.mul_add_div (Nat.two_pow_pos k) _ _
        unfold setl
        by_cases h8 : 8 ≤ k
        · have c1 := cong l (k - 8) (by omega)
          have c2 := cong e (k - 8) (by omega)
          have hm : l / 2 ^ (k - 8) % 256 = l % 2 ^ s' / 2 ^ (k - 8) % 256 := by
            rw [c1]
            have : 2 ^ (s' - (k - 8)) = 256 * 2 ^ (s' - k) := by
              rw [show s' - (k - 8) = 8 + (s' - k) by omega, Nat.pow_add]
            rw [this, Nat.mul_left_comm, Nat.mul_add_mod]
          have hi : (l / 2 ^ (k - 8) = e / 2 ^ (k - 8)) ↔ (l % 2 ^ s' / 2 ^ (k - 8) = e % 2 ^ s' / 2 ^ (k - 8)) := by
            rw [c1, c2, h]
            exact ⟨fun z => Nat.add_left_cancel z, fun z => by rw [z]⟩
          by_cases hc : l / 2 ^ (k - 8) = e / 2 ^ (k - 8)
          · rw [if_pos ⟨h8, hc⟩, if_pos ⟨h8, hi.mp hc⟩, hm, ih (k - 8) (by omega)]
          · rw [if_neg (fun z => hc z.2), if_neg (fun z => hc (hi.mpr z.2))]
        · rw [if_neg (fun z => h8 z.1), if_neg (fun z => h8 z.1)]
    exact gen n s' (Nat.le_refl _)
/-- the number of the bytes, then what is left -/
theorem setl_num (l e : Nat) : ∀ n s, l < 2 ^ s → e < 2 ^ s → l / 2 ^ (s - 8 * (setl l e n s).length) = num (setl l e n s) ∧ e / 2 ^ (s - 8 * (setl l e n s).length) = num (setl l e n s)
  | 0, s, h1, h2 => ⟨Nat.div_eq_of_lt (by simpa [setl] using h1), Nat.div_eq_of_lt (by simpa [setl] using h2)⟩
  | n + 1, s, h1, h2 => by
    unfold setl
    split
    · rename_i h
      obtain ⟨h8, he⟩ := h
      obtain ⟨s', rfl⟩ : ∃ s', s = s' + 8 := ⟨s - 8, by omega⟩
      rw [Nat.add_sub_cancel] at he ⊢
      have q1 : l / 2 ^ s' < 256 := (Nat.div_lt_iff_lt_mul (Nat.two_pow_pos _)).mpr (by rw [Nat.pow_add] at h1; omega)
      have m1 := Nat.mod_lt l (Nat.two_pow_pos s')
      have m2 := Nat.mod_lt e (Nat.two_pow_pos s')
      have len := setl_len l e n s'
      have cong : ∀ x : Nat, ∀ k, k ≤ s' → x / 2 ^ k = x / 2 ^ s' * 2 ^ (s' - k) + x % 2 ^ s' / 2 ^ k := fun x k hk => by
        have e1 : x = 2 ^ k * (x / 2 ^ s' * 2 ^ (s' - k)) + x % 2 ^ s' := by
          have : 2 ^ k * (x / 2 ^ s' * 2 ^ (s' - k)) = 2 ^ s' * (x / 2 ^ s') := by
            rw [Nat.mul_left_comm, ← Nat.pow_add, Nat.add_sub_cancel' hk, Nat.mul_comm]
          rw [this]
          exact (Nat.div_add_mod x _).symm
        calc x / 2 ^ k = (2 ^ k * (x / 2 ^ s' * 2 ^ (s' - k)) + x % 2 ^ s') / 2 ^ k := by rw [← e1]
          _ = _ := Nat.mul_add_div (Nat.two_pow_pos k) _ _
      have key := setl_below l e n s' he
      obtain ⟨i1, i2⟩ := setl_num (l % 2 ^ s') (e % 2 ^ s') n s' m1 m2
      rw [← key] at i1 i2
      generalize hr : setl l e n s' = r at *
      rw [List.length_cons, num_cons, Nat.mod_eq_of_lt q1]
      have z : s' + 8 - 8 * (r.length + 1) = s' - 8 * r.length := by omega
      have z2 : s' - (s' - 8 * r.length) = 8 * r.length := by omega
      rw [z, cong l _ (by omega), cong e _ (by omega), i1, i2, ← he, z2, p256]
      exact ⟨rfl, rfl⟩
    · rw [List.length_nil, Nat.mul_zero, Nat.sub_zero]
      exact ⟨Nat.div_eq_of_lt h1, Nat.div_eq_of_lt h2⟩
end RC

end
section
/-! Range coding in plain numbers: the writer. -/
namespace RC
theorem setl_ahead (l e s : Nat) (hl : l < 2 ^ s) (he : e < 2 ^ s) : ∀ (xs : List Nat) (n : Nat), Bytes xs → s + 8 * xs.length ≤ n →
    setl (num xs * 2 ^ s + l) (num xs * 2 ^ s + e) n (s + 8 * xs.length) = xs ++ setl l e s s
  | [], n, _, hn => by
    rw [show num [] = 0 from rfl, Nat.zero_mul, Nat.zero_add, Nat.zero_add]
    exact setl_fuel l e _ _ _ (by simpa using hn) (Nat.le_refl _)
  | x :: r, 0, _, hn => by rw [List.length_cons] at hn; omega
  | x :: r, n + 1, h, hn => by
    have hx := h x List.mem_cons_self
    have hr : Bytes r := fun y hy => h y (List.mem_cons_of_mem _ hy)
    have nr := num_lt r hr
    rw [p256] at nr
    rw [List.length_cons] at hn
    have top : ∀ y : Nat, y < 2 ^ s → num (x :: r) * 2 ^ s + y = 2 ^ (s + 8 * r.length) * x + (num r * 2 ^ s + y) ∧ num r * 2 ^ s + y < 2 ^ (s + 8 * r.length) := fun y hy => by
      refine ⟨?_, ?_⟩
      · rw [num_cons, p256, Nat.add_mul, Nat.add_assoc, Nat.mul_assoc, ← Nat.pow_add, Nat.mul_comm x, Nat.add_comm (8 * r.length)]
      · have : num r * 2 ^ s + 2 ^ s ≤ 2 ^ (8 * r.length) * 2 ^ s := by
          rw [← Nat.succ_mul]
          exact Nat.mul_le_mul_right _ nr
        rw [Nat.add_comm s, Nat.pow_add]
        omega
    obtain ⟨t1, t2⟩ := top l hl
    obtain ⟨t3, t4⟩ := top e he
    have d1 : (num (x :: r) * 2 ^ s + l) / 2 ^ (s + 8 * r.length) = x := by rw [t1, Nat.mul_add_div (Nat.two_pow_pos _), Nat.div_eq_of_lt t2]; rfl
    have d2 : (num (x :: r) * 2 ^ s + e) / 2 ^ (s + 8 * r.length) = x := by rw [t3, Nat.mul_add_div (Nat.two_pow_pos _), Nat.div_eq_of_lt t4]; rfl
    have m1 : (num (x :: r) * 2 ^ s + l) % 2 ^ (s + 8 * r.length) = num r * 2 ^ s + l := by rw [t1, Nat.mul_add_mod, Nat.mod_eq_of_lt t2]
    have m2 : (num (x :: r) * 2 ^ s + e) % 2 ^ (s + 8 * r.length) = num r * 2 ^ s + e := by rw [t3, Nat.mul_add_mod, Nat.mod_eq_of_lt t4]
    rw [List.length_cons, setl_succ]
    have z : s + 8 * (r.length + 1) - 8 = s + 8 * r.length := by omega
    rw [z, d1, d2, if_pos ⟨by omega, rfl⟩, Nat.mod_eq_of_lt hx, setl_below _ _ n _ (by rw [d1, d2]), m1, m2, setl_ahead l e s hl he r n hr (by omega)]
    rfl
/-- it stops where the tops differ -/
theorem setl_stop {l e s n : Nat} (h : s < 8 ∨ l / 2 ^ (s - 8) ≠ e / 2 ^ (s - 8)) : setl l e n s = [] := by
  cases n with
  | zero => rfl
  | succ n =>
    unfold setl
    rw [if_neg]
    rintro ⟨a, b⟩
    rcases h with h | h
    · omega
    · exact h b
/-- what is settled in a state -/
def settled (st : RS) : List Nat := setl st.l (st.l + st.w - 1) st.s st.s
theorem settled_bytes (st : RS) : Bytes (settled st) := setl_bytes _ _ _ _
/-- without what is settled -/
def trim (st : RS) : RS := ⟨st.l % 2 ^ (st.s - 8 * (settled st).length), st.w, st.s - 8 * (settled st).length⟩
theorem trim_num {st : RS} (o : Ok st) : st.l = num (settled st) * 2 ^ (trim st).s + (trim st).l ∧ (trim st).l + st.w ≤ 2 ^ (trim st).s ∧ st.s = (trim st).s + 8 * (settled st).length := by
  have hw := o.w
  have hle := o.le
  obtain ⟨h1, h2⟩ := setl_num st.l (st.l + st.w - 1) st.s st.s (by omega) (by omega)
  have hlen := setl_len st.l (st.l + st.w - 1) st.s st.s
  have e1 := Nat.div_add_mod st.l (2 ^ (st.s - 8 * (settled st).length))
  have e2 := Nat.div_add_mod (st.l + st.w - 1) (2 ^ (st.s - 8 * (settled st).length))
  have m2 := Nat.mod_lt (st.l + st.w - 1) (Nat.two_pow_pos (st.s - 8 * (settled st).length))
  rw [show st.l / 2 ^ (st.s - 8 * (settled st).length) = num (settled st) from h1] at e1
  rw [show (st.l + st.w - 1) / 2 ^ (st.s - 8 * (settled st).length) = num (settled st) from h2] at e2
  refine ⟨?_, ?_, ?_⟩
  · show st.l = _ * 2 ^ (st.s - 8 * (settled st).length) + st.l % 2 ^ (st.s - 8 * (settled st).length)
    rw [Nat.mul_comm]; exact e1.symm
  · show st.l % 2 ^ (st.s - 8 * (settled st).length) + st.w ≤ 2 ^ (st.s - 8 * (settled st).length)
    omega
  · show st.s = st.s - 8 * (settled st).length + 8 * (settled st).length
    have : 8 * (settled st).length ≤ st.s := hlen
    omega
/-- tr is full without the bytes -/
structure Tr (xs : List Nat) (tr full : RS) : Prop where
  b : Bytes xs
  l : full.l = num xs * 2 ^ tr.s + tr.l
  w : full.w = tr.w
  s : full.s = tr.s + 8 * xs.length
  le : tr.l + tr.w ≤ 2 ^ tr.s
  ok : 16777216 ≤ tr.w
theorem Tr.okT {xs : List Nat} {tr full : RS} (h : Tr xs tr full) : Ok tr := ⟨h.ok, h.le⟩
theorem Tr.okF {xs : List Nat} {tr full : RS} (h : Tr xs tr full) : Ok full := by
  refine ⟨by rw [h.w]; exact h.ok, ?_⟩
  have := num_lt xs h.b
  have e : num xs * 2 ^ tr.s + 2 ^ tr.s ≤ 256 ^ xs.length * 2 ^ tr.s := by
    rw [← Nat.succ_mul]
    exact Nat.mul_le_mul_right _ this
  rw [h.l, h.w, h.s, Nat.pow_add, ← p256, Nat.mul_comm (2 ^ tr.s)]
  have := h.le
  omega
theorem Tr.cod {xs : List Nat} {tr full : RS} (h : Tr xs tr full) {t : Sp} (g : Good t) : Tr xs (cod tr t) (cod full t) := by
  have o := cod_ok h.okT g
  refine ⟨h.b, ?_, ?_, ?_, o.le, o.w⟩
  · show (full.l + full.w / t.T * t.a) * 256 ^ sh (full.w / t.T * t.b) = num xs * 2 ^ (tr.s + 8 * sh (tr.w / t.T * t.b)) + (tr.l + tr.w / t.T * t.a) * 256 ^ sh (tr.w / t.T * t.b)
    rw [h.w, h.l, Nat.add_assoc, Nat.add_mul, Nat.pow_add, p256, Nat.mul_assoc]
  · show full.w / t.T * t.b * 256 ^ sh (full.w / t.T * t.b) = tr.w / t.T * t.b * 256 ^ sh (tr.w / t.T * t.b)
    rw [h.w]
  · show full.s + 8 * sh (full.w / t.T * t.b) = tr.s + 8 * sh (tr.w / t.T * t.b) + 8 * xs.length
    rw [h.w, h.s]
    omega
theorem Tr.settled {xs : List Nat} {tr full : RS} (h : Tr xs tr full) : settled full = xs ++ settled tr := by
  have hw := h.ok
  have hle := h.le
  show setl full.l (full.l + full.w - 1) full.s full.s = _
  rw [h.l, h.w, h.s]
  have e : num xs * 2 ^ tr.s + tr.l + tr.w - 1 = num xs * 2 ^ tr.s + (tr.l + tr.w - 1) := by omega
  rw [e, setl_ahead tr.l (tr.l + tr.w - 1) tr.s (by omega) (by omega) xs _ h.b (Nat.le_refl _)]
  rfl
theorem Tr.trim {xs : List Nat} {tr full : RS} (h : Tr xs tr full) : Tr (xs ++ RC.settled tr) (trim tr) full := by
  obtain ⟨h1, h2, h3⟩ := trim_num h.okT
  refine ⟨fun x hx => ?_, ?_, h.w, ?_, h2, h.ok⟩
  · rcases List.mem_append.mp hx with q | q
    · exact h.b x q
    · exact settled_bytes tr x q
  · rw [num_app, p256, Nat.add_mul, Nat.mul_assoc, ← Nat.pow_add, Nat.add_comm (8 * _), ← h3, Nat.add_assoc, ← h1]
    exact h.l
  · rw [List.length_append, h.s]
    omega
/-- the code of both -/
theorem Tr.best {xs : List Nat} {tr full : RS} (h : Tr xs tr full) : RC.best full = num xs * 2 ^ tr.s + RC.best tr := by
  have oT := h.okT
  have oF := h.okF
  have hw := h.ok
  have hle := h.le
  have bT := best_in oT
  have bF := best_in oF
  have hmk : ∀ k, k ≤ tr.s → hm full.l full.w k = hm tr.l tr.w k := fun k hk => by
    have e : ∀ m : Nat, (num xs * 2 ^ (tr.s - k) + m) * 2 ^ k = num xs * 2 ^ tr.s + m * 2 ^ k := fun m => by
      rw [Nat.add_mul, Nat.mul_assoc, ← Nat.pow_add, Nat.sub_add_cancel hk]
    rw [Bool.eq_iff_iff, hm_iff, hm_iff, h.l, h.w]
    constructor
    · rintro ⟨m, a, b⟩
      have ge : num xs * 2 ^ (tr.s - k) ≤ m := by
        refine Nat.le_of_mul_le_mul_right (c := 2 ^ k) ?_ (Nat.two_pow_pos k)
        rw [Nat.mul_assoc, ← Nat.pow_add, Nat.sub_add_cancel hk]
        omega
      have e2 := e (m - num xs * 2 ^ (tr.s - k))
      rw [Nat.add_sub_cancel' ge] at e2
      exact ⟨m - num xs * 2 ^ (tr.s - k), by omega, by omega⟩
    · rintro ⟨m, a, b⟩
      exact ⟨num xs * 2 ^ (tr.s - k) + m, by rw [e]; omega, by rw [e]; omega⟩
  rcases Nat.lt_or_eq_of_le (fig_le tr) with q | q
  · have hF : fig full = fig tr := fig_uniq (by rw [h.s]; omega) (by rw [hmk _ (by omega)]; exact fig_hm (by omega) (Nat.le_refl _)) (.inr (by rw [hmk _ (by omega)]; exact fig_top q))
    unfold RC.best
    rw [hF]
    have : cd full.l (fig tr) = num xs * 2 ^ (tr.s - fig tr) + cd tr.l (fig tr) := by
      have g1 := cd_ge tr.l (fig tr)
      have g2 := cd_lt tr.l (fig tr)
      have e : (num xs * 2 ^ (tr.s - fig tr) + cd tr.l (fig tr)) * 2 ^ fig tr = num xs * 2 ^ tr.s + cd tr.l (fig tr) * 2 ^ fig tr := by
        rw [Nat.add_mul, Nat.mul_assoc, ← Nat.pow_add, Nat.sub_add_cancel (Nat.le_of_lt q)]
      refine cd_uniq ?_ ?_ <;> rw [e, h.l] <;> omega
    rw [this, Nat.add_mul, Nat.mul_assoc, ← Nat.pow_add, Nat.sub_add_cancel (Nat.le_of_lt q)]
  · have b0 : RC.best tr = 0 := by
      have lt : RC.best tr < 2 ^ tr.s := by omega
      unfold RC.best at lt ⊢
      rw [q] at lt ⊢
      cases hz : cd tr.l tr.s with
      | zero => exact Nat.zero_mul _
      | succ n => rw [hz, Nat.succ_mul] at lt; omega
    have l0 : tr.l = 0 := by omega
    have hs : tr.s ≤ fig full := by
      rcases Nat.lt_or_ge (fig full) tr.s with z | z
      · have t := fig_top (st := full) (by rw [h.s]; omega)
        rw [hmk _ (by omega), fig_hm (st := tr) (by omega) (by omega)] at t
        cases t
      · exact z
    rw [b0, Nat.add_zero]
    obtain ⟨d, hd⟩ : ∃ d, RC.best full = d * 2 ^ tr.s := ⟨cd full.l (fig full) * 2 ^ (fig full - tr.s), by unfold RC.best; rw [Nat.mul_assoc, ← Nat.pow_add, Nat.sub_add_cancel hs]⟩
    rw [h.l, h.w, l0, Nat.add_zero] at bF
    rw [hd] at bF ⊢
    have hlt : d * 2 ^ tr.s < num xs * 2 ^ tr.s + 2 ^ tr.s := by omega
    rw [← Nat.succ_mul] at hlt
    have := Nat.lt_of_mul_lt_mul_right hlt
    have := Nat.le_of_mul_le_mul_right bF.1 (Nat.two_pow_pos _)
    have : d = num xs := by omega
    rw [this]
theorem Tr.code {xs : List Nat} {tr full : RS} (h : Tr xs tr full) : rs (bytesBits xs ++ RC.code tr) = RC.code full := by
  have lt := best_lt h.okT
  rw [code_rs h.okF, code_rs h.okT, rs_app, bytesBits_eq _ h.b, h.best, h.s, Nat.add_comm tr.s, bitsOf_app, Nat.mul_comm (num xs), Nat.mul_add_div (Nat.two_pow_pos _), Nat.div_eq_of_lt lt, Nat.add_zero]
  rw [bitsOf_congr (u := 2 ^ tr.s * num xs + RC.best tr) (v := RC.best tr) tr.s (by rw [Nat.mul_add_mod])]
end RC

end
section
/-! Range coding in plain numbers: steps round the half; intervals that are a power of two. -/
namespace RC
/-- n steps round the half -/
def half (n r : Nat) : RS := ⟨(2 ^ n - 1) * 2 ^ (r - 1), 2 ^ r, n + r⟩
def dy (p m q : Nat) : RS := ⟨p * 2 ^ q, 2 ^ q, m + q⟩
theorem half_first : first = half 0 32 := rfl
theorem sh_pow {r : Nat} (h : 24 ≤ r) : sh (2 ^ r) = 0 := by
  have : 2 ^ 24 ≤ 2 ^ r := Nat.pow_le_pow_right (by decide) h
  unfold sh
  rw [if_pos (by omega)]
theorem sh_23 : sh (2 ^ 23) = 1 := by decide
theorem half_cod {n r : Nat} (h1 : 24 ≤ r) (h2 : r ≤ 32) : ∃ r', 24 ≤ r' ∧ r' ≤ 32 ∧ cod (half n r) ⟨1, 2, 4⟩ = half (n + 1) r' := by
  obtain ⟨q, rfl⟩ : ∃ q, r = q + 2 := ⟨r - 2, by omega⟩
  have pn := Nat.two_pow_pos n
  have u : 2 ^ (q + 2) / 4 = 2 ^ q := by rw [Nat.pow_add]; exact Nat.mul_div_cancel _ (by decide)
  have w2 : 2 ^ q * 2 = 2 ^ (q + 1) := (Nat.pow_succ ..).symm
  have l2 : (2 ^ n - 1) * 2 ^ (q + 1) + 2 ^ q * 1 = (2 ^ (n + 1) - 1) * 2 ^ q := by
    rw [Nat.pow_succ, Nat.pow_succ, Nat.mul_one, Nat.mul_comm (2 ^ q) 2, ← Nat.mul_assoc, ← Nat.succ_mul]
    congr 1
    omega
  have e : cod (half n (q + 2)) ⟨1, 2, 4⟩ = ⟨(2 ^ (n + 1) - 1) * 2 ^ q * 256 ^ sh (2 ^ (q + 1)), 2 ^ (q + 1) * 256 ^ sh (2 ^ (q + 1)), n + (q + 2) + 8 * sh (2 ^ (q + 1))⟩ := by
    unfold cod half
    simp only [u, w2, show q + 2 - 1 = q + 1 from rfl, l2]
  rw [e]
  by_cases h : 24 ≤ q + 1
  · refine ⟨q + 1, h, by omega, ?_⟩
    unfold half
    rw [sh_pow h, Nat.pow_zero, Nat.mul_one, Nat.mul_one, Nat.add_sub_cancel]
    congr 1
    omega
  · have : q = 22 := by omega
    subst this
    refine ⟨31, by decide, by decide, ?_⟩
    have e1 : (2 : Nat) ^ 22 * 256 ^ 1 = 2 ^ (31 - 1) := by decide
    have e2 : (2 : Nat) ^ 23 * 256 ^ 1 = 2 ^ 31 := by decide
    unfold half
    rw [show (22 : Nat) + 1 = 23 from rfl, sh_23, Nat.mul_assoc, e1, e2, show n + (22 + 2) + 8 * 1 = n + 1 + 31 by omega]
theorem half_lo {n r : Nat} (h1 : 24 ≤ r) (h2 : r ≤ 32) : ∃ q, 24 ≤ q ∧ q ≤ 32 ∧ cod (half n r) ⟨0, 1, 2⟩ = dy (2 ^ n - 1) (n + 1) q := by
  obtain ⟨q, rfl⟩ : ∃ q, r = q + 1 := ⟨r - 1, by omega⟩
  have u : 2 ^ (q + 1) / 2 = 2 ^ q := by rw [Nat.pow_succ]; exact Nat.mul_div_cancel _ (by decide)
  have e : cod (half n (q + 1)) ⟨0, 1, 2⟩ = ⟨(2 ^ n - 1) * 2 ^ q * 256 ^ sh (2 ^ q), 2 ^ q * 256 ^ sh (2 ^ q), n + (q + 1) + 8 * sh (2 ^ q)⟩ := by
    unfold cod half
    simp only [u, Nat.mul_one, Nat.mul_zero, Nat.add_zero, Nat.add_sub_cancel]
  rw [e]
  by_cases h : 24 ≤ q
  · refine ⟨q, h, by omega, ?_⟩
    unfold dy
    rw [sh_pow h, Nat.pow_zero, Nat.mul_one, Nat.mul_one]
    congr 1
    omega
  · have : q = 23 := by omega
    subst this
    refine ⟨31, by decide, by decide, ?_⟩
    have e2 : (2 : Nat) ^ 23 * 256 ^ 1 = 2 ^ 31 := by decide
    unfold dy
    rw [sh_23, Nat.mul_assoc, e2, show n + (23 + 1) + 8 * 1 = n + 1 + 31 by omega]
theorem half_hi {n r : Nat} (h1 : 24 ≤ r) (h2 : r ≤ 32) : ∃ q, 24 ≤ q ∧ q ≤ 32 ∧ cod (half n r) ⟨1, 1, 2⟩ = dy (2 ^ n) (n + 1) q := by
  obtain ⟨q, rfl⟩ : ∃ q, r = q + 1 := ⟨r - 1, by omega⟩
  have pn := Nat.two_pow_pos n
  have u : 2 ^ (q + 1) / 2 = 2 ^ q := by rw [Nat.pow_succ]; exact Nat.mul_div_cancel _ (by decide)
  have l2 : (2 ^ n - 1) * 2 ^ q + 2 ^ q = 2 ^ n * 2 ^ q := by
    rw [← Nat.succ_mul]
    congr 1
    omega
  have e : cod (half n (q + 1)) ⟨1, 1, 2⟩ = ⟨2 ^ n * 2 ^ q * 256 ^ sh (2 ^ q), 2 ^ q * 256 ^ sh (2 ^ q), n + (q + 1) + 8 * sh (2 ^ q)⟩ := by
    unfold cod half
    simp only [u, Nat.mul_one, Nat.add_sub_cancel, l2]
  rw [e]
  by_cases h : 24 ≤ q
  · refine ⟨q, h, by omega, ?_⟩
    unfold dy
    rw [sh_pow h, Nat.pow_zero, Nat.mul_one, Nat.mul_one]
    congr 1
    omega
  · have : q = 23 := by omega
    subst this
    refine ⟨31, by decide, by decide, ?_⟩
    have e2 : (2 : Nat) ^ 23 * 256 ^ 1 = 2 ^ 31 := by decide
    unfold dy
    rw [sh_23, Nat.mul_assoc, e2, show n + (23 + 1) + 8 * 1 = n + 1 + 31 by omega]
theorem half_ok {n r : Nat} (h1 : 24 ≤ r) : Ok (half n r) := by
  have pn := Nat.two_pow_pos n
  refine ⟨?_, ?_⟩
  · show 16777216 ≤ 2 ^ r
    have : 2 ^ 24 ≤ 2 ^ r := Nat.pow_le_pow_right (by decide) h1
    omega
  · obtain ⟨q, rfl⟩ : ∃ q, r = q + 1 := ⟨r - 1, by omega⟩
    show (2 ^ n - 1) * 2 ^ q + 2 ^ (q + 1) ≤ 2 ^ (n + (q + 1))
    rw [Nat.pow_succ, ← Nat.add_assoc, Nat.pow_succ, Nat.pow_add, Nat.mul_comm (2 ^ q) 2, ← Nat.add_mul, Nat.mul_right_comm]
    refine Nat.mul_le_mul_right _ ?_
    omega
/-- the half lies within -/
theorem half_mid {n r : Nat} (h1 : 24 ≤ r) : (half n r).l < 2 ^ (n + r - 1) ∧ 2 ^ (n + r - 1) < (half n r).l + (half n r).w := by
  have pn := Nat.two_pow_pos n
  obtain ⟨q, rfl⟩ : ∃ q, r = q + 1 := ⟨r - 1, by omega⟩
  have pq := Nat.two_pow_pos q
  have e : 2 ^ (n + (q + 1) - 1) = 2 ^ n * 2 ^ q := by rw [← Nat.pow_add]; congr 1
  have e2 : (2 ^ n - 1) * 2 ^ q + 2 ^ q = 2 ^ n * 2 ^ q := by
    rw [← Nat.succ_mul]
    congr 1
    omega
  rw [e]
  show (2 ^ n - 1) * 2 ^ q < _ ∧ _ < (2 ^ n - 1) * 2 ^ q + 2 ^ (q + 1)
  rw [Nat.pow_succ]
  omega
theorem half_code {n r : Nat} (h1 : 24 ≤ r) (hn : 1 ≤ n) : code (half n r) = [49] := by
  have o := half_ok (n := n) h1
  obtain ⟨m1, m2⟩ := half_mid (n := n) h1
  have hs : (half n r).s = n + r := rfl
  have l0 : 0 < (half n r).l := by
    have : 2 ^ 1 ≤ 2 ^ n := Nat.pow_le_pow_right (by decide) hn
    exact Nat.mul_pos (by omega) (Nat.two_pow_pos _)
  have hF : fig (half n r) = n + r - 1 := by
    refine fig_uniq (by rw [hs]; omega) (hm_iff.mpr ⟨1, by rw [Nat.one_mul]; omega, by rw [Nat.one_mul]; omega⟩) (.inr ?_)
    cases e : hm (half n r).l (half n r).w (n + r - 1 + 1) with
    | false => rfl
    | true =>
      obtain ⟨m, a, b⟩ := hm_iff.mp e
      have le := o.le
      rw [hs] at le
      rw [show n + r - 1 + 1 = n + r by omega] at a b
      have : m * 2 ^ (n + r) < 1 * 2 ^ (n + r) := by omega
      have := Nat.lt_of_mul_lt_mul_right this
      have : m = 0 := by omega
      subst this
      omega
  have hc : cd (half n r).l (n + r - 1) = 1 := cd_uniq (by omega) (by omega)
  unfold code
  rw [hF, hc, hs, show n + r - (n + r - 1) = 1 by omega]
  rfl
theorem half_settled {n r : Nat} (h1 : 24 ≤ r) : settled (half n r) = [] := by
  obtain ⟨m1, m2⟩ := half_mid (n := n) h1
  refine setl_stop (.inr ?_)
  have hs : (half n r).s = n + r := rfl
  have e : 2 ^ (n + r - 1) = 128 * 2 ^ (n + r - 8) := by
    rw [show n + r - 1 = 7 + (n + r - 8) by omega, Nat.pow_add]
  rw [hs]
  have p := Nat.two_pow_pos (n + r - 8)
  have a1 : (half n r).l / 2 ^ (n + r - 8) < 128 := (Nat.div_lt_iff_lt_mul p).mpr (by omega)
  have a2 : 128 ≤ ((half n r).l + (half n r).w - 1) / 2 ^ (n + r - 8) := (Nat.le_div_iff_mul_le p).mpr (by omega)
  omega
/-! ### an interval of a power of two -/
theorem dy_ok {p m q : Nat} (h1 : 24 ≤ q) (hp : p < 2 ^ m) : Ok (dy p m q) := by
  refine ⟨?_, ?_⟩
  · show 16777216 ≤ 2 ^ q
    have : 2 ^ 24 ≤ 2 ^ q := Nat.pow_le_pow_right (by decide) h1
    omega
  · show p * 2 ^ q + 2 ^ q ≤ 2 ^ (m + q)
    rw [← Nat.succ_mul, Nat.pow_add]
    exact Nat.mul_le_mul_right _ hp
/-- the bytes of a number -/
def bytesN (v : Nat) : Nat → List Nat
  | 0 => []
  | j + 1 => v / 256 ^ j % 256 :: bytesN v j
theorem bytesN_len (v : Nat) : ∀ j, (bytesN v j).length = j
  | 0 => rfl
  | j + 1 => congrArg Nat.succ (bytesN_len v j)
theorem bytesN_bytes (v : Nat) : ∀ j, Bytes (bytesN v j)
  | 0 => fun x hx => by cases hx
  | j + 1 => fun x hx => by
    rcases List.mem_cons.mp hx with q | q
    · rw [q]; exact Nat.mod_lt _ (by decide)
    · exact bytesN_bytes v j x q
theorem bytesN_num (v : Nat) : ∀ j, num (bytesN v j) = v % 256 ^ j
  | 0 => by rw [Nat.pow_zero, Nat.mod_one]; rfl
  | j + 1 => by
    show num (v / 256 ^ j % 256 :: bytesN v j) = _
    rw [num_cons, bytesN_len, bytesN_num v j, Nat.pow_succ, Nat.mod_mul, Nat.mul_comm, Nat.add_comm]
theorem dy_tr {p m q : Nat} (h1 : 24 ≤ q) (hp : p < 2 ^ m) : Tr (bytesN (p / 2 ^ (m % 8)) (m / 8)) (dy (p % 2 ^ (m % 8)) (m % 8) q) (dy p m q) := by
  have o := dy_ok (p := p % 2 ^ (m % 8)) (m := m % 8) h1 (Nat.mod_lt _ (Nat.two_pow_pos _))
  have hd : p / 2 ^ (m % 8) < 256 ^ (m / 8) := by
    refine (Nat.div_lt_iff_lt_mul (Nat.two_pow_pos _)).mpr ?_
    rw [p256, ← Nat.pow_add, Nat.div_add_mod]
    exact hp
  refine ⟨bytesN_bytes _ _, ?_, rfl, ?_, o.le, o.w⟩
  · show p * 2 ^ q = num _ * 2 ^ (m % 8 + q) + p % 2 ^ (m % 8) * 2 ^ q
    rw [bytesN_num, Nat.mod_eq_of_lt hd, Nat.pow_add, ← Nat.mul_assoc, ← Nat.add_mul, Nat.mul_comm (p / _), Nat.div_add_mod]
  · show m + q = m % 8 + q + 8 * _
    rw [bytesN_len]
    have := Nat.div_add_mod m 8
    omega
theorem dy_small {p t q : Nat} (h1 : 24 ≤ q) (ht : t < 8) : settled (dy p t q) = [] := by
  refine setl_stop (.inr ?_)
  show p * 2 ^ q / 2 ^ (t + q - 8) ≠ (p * 2 ^ q + 2 ^ q - 1) / 2 ^ (t + q - 8)
  obtain ⟨d, hd⟩ : ∃ d, q = (t + q - 8) + (d + 1) := ⟨7 - t, by omega⟩
  have pp := Nat.two_pow_pos (t + q - 8)
  have pd := Nat.two_pow_pos d
  generalize t + q - 8 = k at *
  rw [hd, Nat.pow_add]
  have e1 : p * (2 ^ k * 2 ^ (d + 1)) = 2 ^ k * (p * 2 ^ (d + 1)) := Nat.mul_left_comm _ _ _
  have e2 : p * (2 ^ k * 2 ^ (d + 1)) + 2 ^ k * 2 ^ (d + 1) - 1 = 2 ^ k * (p * 2 ^ (d + 1) + (2 ^ (d + 1) - 1)) + (2 ^ k - 1) := by
    rw [e1, Nat.mul_add, Nat.mul_sub, Nat.mul_one]
    have : 2 ^ k ≤ 2 ^ k * 2 ^ (d + 1) := Nat.le_mul_of_pos_right _ (Nat.two_pow_pos _)
    omega
  rw [e1, Nat.mul_div_cancel_left _ pp, ← e1, e2, Nat.mul_add_div pp, Nat.div_eq_of_lt (by omega), Nat.add_zero, Nat.pow_succ]
  omega
theorem dy_settled {p m q : Nat} (h1 : 24 ≤ q) (hp : p < 2 ^ m) : settled (dy p m q) = bytesN (p / 2 ^ (m % 8)) (m / 8) := by
  rw [(dy_tr h1 hp).settled, dy_small h1 (Nat.mod_lt _ (by decide)), List.append_nil]
theorem dy_code_odd {p m q : Nat} (h1 : 24 ≤ q) (hp : p < 2 ^ m) (hm : 0 < m) (ho : p % 2 = 1) : code (dy p m q) = bitsOf p m := by
  have pq := Nat.two_pow_pos q
  have hF : fig (dy p m q) = q := by
    refine fig_uniq (Nat.le_add_left _ _) (hm_iff.mpr ⟨p, Nat.le_refl _, by show p * 2 ^ q < p * 2 ^ q + 2 ^ q; omega⟩) (.inr ?_)
    cases e : RC.hm (dy p m q).l (dy p m q).w (q + 1) with
    | false => rfl
    | true =>
      obtain ⟨k, a, b⟩ := hm_iff.mp e
      have a : p * 2 ^ q ≤ k * 2 ^ (q + 1) := a
      have b : k * 2 ^ (q + 1) < p * 2 ^ q + 2 ^ q := b
      rw [Nat.pow_succ', ← Nat.mul_assoc] at a b
      rw [← Nat.succ_mul] at b
      have := Nat.le_of_mul_le_mul_right a pq
      have := Nat.lt_of_mul_lt_mul_right b
      omega
  unfold code
  rw [hF, show (dy p m q).l = p * 2 ^ q from rfl, cd_uniq (l := p * 2 ^ q) (m := p) (Nat.le_refl _) (by omega), show (dy p m q).s - q = m from Nat.add_sub_cancel ..]
theorem dy_code_pow {n q : Nat} (h1 : 24 ≤ q) : code (dy (2 ^ n) (n + 1) q) = [49] := by
  have pq := Nat.two_pow_pos q
  have pn := Nat.two_pow_pos n
  have hl : (dy (2 ^ n) (n + 1) q).l = 2 ^ (n + q) := (Nat.pow_add ..).symm
  have hw : (dy (2 ^ n) (n + 1) q).w = 2 ^ q := rfl
  have hs : (dy (2 ^ n) (n + 1) q).s = n + q + 1 := by show n + 1 + q = _; omega
  have hle : 2 ^ q ≤ 2 ^ (n + q) := Nat.pow_le_pow_right (by decide) (by omega)
  have hF : fig (dy (2 ^ n) (n + 1) q) = n + q := by
    refine fig_uniq (by rw [hs]; omega) (hm_iff.mpr ⟨1, by rw [hl]; omega, by rw [hl, hw]; omega⟩) (.inr ?_)
    cases e : RC.hm (dy (2 ^ n) (n + 1) q).l (dy (2 ^ n) (n + 1) q).w (n + q + 1) with
    | false => rfl
    | true =>
      obtain ⟨k, a, b⟩ := hm_iff.mp e
      rw [hl, hw] at b
      rw [hl] at a
      rw [Nat.pow_succ] at a b
      cases k with
      | zero => omega
      | succ k => rw [Nat.succ_mul] at b; omega
  unfold code
  have hc : cd (2 ^ (n + q)) (n + q) = 1 := cd_uniq (by omega) (by have := Nat.two_pow_pos (n + q); omega)
  rw [hF, hl, hc, hs, show n + q + 1 - (n + q) = 1 by omega]
  rfl
end RC

end
section
/-! Range coding in plain numbers: found again. -/
namespace RC
/-- what is coded from a state on lies in it -/
theorem run_in : ∀ (ts : List Sp) (st : RS), Ok st → (∀ t ∈ ts, Good t) → st.s ≤ (run st ts).s ∧ st.l * 2 ^ ((run st ts).s - st.s) ≤ (run st ts).l ∧ (run st ts).l + (run st ts).w ≤ (st.l + st.w) * 2 ^ ((run st ts).s - st.s)
  | [], st, o, _ => by
    refine ⟨Nat.le_refl _, ?_, ?_⟩
    · show st.l * 2 ^ (st.s - st.s) ≤ st.l
      rw [Nat.sub_self, Nat.pow_zero, Nat.mul_one]; exact Nat.le_refl _
    · show st.l + st.w ≤ (st.l + st.w) * 2 ^ (st.s - st.s)
      rw [Nat.sub_self, Nat.pow_zero, Nat.mul_one]; exact Nat.le_refl _
  | t :: r, st, o, h => by
    have g := h t List.mem_cons_self
    obtain ⟨i1, i2, i3⟩ := run_in r (cod st t) (cod_ok o g) fun x hx => h x (List.mem_cons_of_mem _ hx)
    have hs : (cod st t).s = st.s + 8 * sh (st.w / t.T * t.b) := rfl
    have hd : (run (cod st t) r).s - st.s = 8 * sh (st.w / t.T * t.b) + ((run (cod st t) r).s - (cod st t).s) := by omega
    have hl : (cod st t).l = (st.l + st.w / t.T * t.a) * 2 ^ (8 * sh (st.w / t.T * t.b)) := by rw [← p256]; rfl
    have hw : (cod st t).l + (cod st t).w = (st.l + st.w / t.T * t.a + st.w / t.T * t.b) * 2 ^ (8 * sh (st.w / t.T * t.b)) := by rw [← p256, Nat.add_mul]; rfl
    refine ⟨by show st.s ≤ (run (cod st t) r).s; omega, ?_, ?_⟩
    · show st.l * 2 ^ ((run (cod st t) r).s - st.s) ≤ (run (cod st t) r).l
      refine Nat.le_trans ?_ i2
      rw [hd, Nat.pow_add, ← Nat.mul_assoc, hl]
      exact Nat.mul_le_mul_right _ (Nat.mul_le_mul_right _ (Nat.le_add_right _ _))
    · show (run (cod st t) r).l + (run (cod st t) r).w ≤ (st.l + st.w) * 2 ^ ((run (cod st t) r).s - st.s)
      refine Nat.le_trans i3 ?_
      rw [hd, Nat.pow_add, ← Nat.mul_assoc, hw]
      refine Nat.mul_le_mul_right _ (Nat.mul_le_mul_right _ ?_)
      have : st.w / t.T * t.a + st.w / t.T * t.b ≤ st.w := by
        rw [← Nat.mul_add]
        exact Nat.le_trans (Nat.mul_le_mul_left _ g.ab) (Nat.div_mul_le_self _ _)
      omega
/-- where a number of the end lies at a step -/
theorem place_in {st : RS} {t : Sp} {r : List Sp} {C : Nat} (o : Ok st) (h : ∀ x ∈ t :: r, Good x) (h1 : (run st (t :: r)).l ≤ C) (h2 : C < (run st (t :: r)).l + (run st (t :: r)).w) :
    t.a ≤ (C / 2 ^ ((run st (t :: r)).s - st.s) - st.l) / (st.w / t.T) ∧ (C / 2 ^ ((run st (t :: r)).s - st.s) - st.l) / (st.w / t.T) < t.a + t.b ∧ st.l ≤ C / 2 ^ ((run st (t :: r)).s - st.s) ∧ C / 2 ^ ((run st (t :: r)).s - st.s) < 2 ^ st.s := by
  have g := h t List.mem_cons_self
  obtain ⟨i1, i2, i3⟩ := run_in r (cod st t) (cod_ok o g) fun x hx => h x (List.mem_cons_of_mem _ hx)
  have hu := unit_pos o g
  have hs : (cod st t).s = st.s + 8 * sh (st.w / t.T * t.b) := rfl
  have h1 : (run (cod st t) r).l ≤ C := h1
  have h2 : C < (run (cod st t) r).l + (run (cod st t) r).w := h2
  show t.a ≤ (C / 2 ^ ((run (cod st t) r).s - st.s) - st.l) / (st.w / t.T) ∧ (C / 2 ^ ((run (cod st t) r).s - st.s) - st.l) / (st.w / t.T) < t.a + t.b ∧ st.l ≤ C / 2 ^ ((run (cod st t) r).s - st.s) ∧ C / 2 ^ ((run (cod st t) r).s - st.s) < 2 ^ st.s
  have hd : (run (cod st t) r).s - st.s = 8 * sh (st.w / t.T * t.b) + ((run (cod st t) r).s - (cod st t).s) := by omega
  have hl : (cod st t).l = (st.l + st.w / t.T * t.a) * 2 ^ (8 * sh (st.w / t.T * t.b)) := by rw [← p256]; rfl
  have hw : (cod st t).l + (cod st t).w = (st.l + st.w / t.T * t.a + st.w / t.T * t.b) * 2 ^ (8 * sh (st.w / t.T * t.b)) := by rw [← p256, Nat.add_mul]; rfl
  rw [hl, Nat.mul_assoc, ← Nat.pow_add, ← hd] at i2
  rw [hw, Nat.mul_assoc, ← Nat.pow_add, ← hd] at i3
  have pd := Nat.two_pow_pos ((run (cod st t) r).s - st.s)
  have a1 : st.l + st.w / t.T * t.a ≤ C / 2 ^ ((run (cod st t) r).s - st.s) := (Nat.le_div_iff_mul_le pd).mpr (by omega)
  have a2 : C / 2 ^ ((run (cod st t) r).s - st.s) < st.l + st.w / t.T * t.a + st.w / t.T * t.b := (Nat.div_lt_iff_lt_mul pd).mpr (by omega)
  have a3 : st.w / t.T * t.a + st.w / t.T * t.b ≤ st.w := by
    rw [← Nat.mul_add]
    exact Nat.le_trans (Nat.mul_le_mul_left _ g.ab) (Nat.div_mul_le_self _ _)
  have le := o.le
  refine ⟨(Nat.le_div_iff_mul_le (by omega)).mpr ?_, (Nat.div_lt_iff_lt_mul (by omega)).mpr ?_, by omega, by omega⟩
  · rw [Nat.mul_comm]; omega
  · rw [Nat.mul_comm, Nat.mul_add]; omega
/-- bits as a number -/
def valB (xs : List Nat) : Nat := xs.foldl (fun a c => a * 2 + (c - 48)) 0
theorem valB_from : ∀ (xs : List Nat) (a : Nat), xs.foldl (fun a c => a * 2 + (c - 48)) a = a * 2 ^ xs.length + valB xs
  | [], a => by show a = a * 2 ^ 0 + 0; omega
  | x :: r, a => by
    show r.foldl _ (a * 2 + (x - 48)) = _
    rw [valB_from r, show valB (x :: r) = r.foldl (fun a c => a * 2 + (c - 48)) (0 * 2 + (x - 48)) from rfl, valB_from r, List.length_cons, Nat.pow_succ', Nat.add_mul, Nat.zero_mul, Nat.zero_add, Nat.mul_assoc, Nat.add_assoc]
theorem valB_bits (v : Nat) : ∀ n, valB (bitsOf v n) = v % 2 ^ n
  | 0 => by rw [Nat.pow_zero, Nat.mod_one]; rfl
  | n + 1 => by
    rw [bitsOf_succ]
    show (bitsOf v n).foldl _ (0 * 2 + ((if v / 2 ^ n % 2 = 1 then 49 else 48) - 48)) = _
    rw [valB_from, bitsOf_len, valB_bits v n, Nat.pow_succ, Nat.mod_mul, Nat.zero_mul, Nat.zero_add, Nat.add_comm, Nat.mul_comm]
    congr 2
    have := Nat.mod_lt (v / 2 ^ n) (show 0 < 2 by decide)
    split <;> omega
/-- cut off, and filled up with zeros -/
def padded (x : List Nat) (k : Nat) : List Nat := x.take k ++ List.replicate (k - (x.take k).length) 48
theorem padded_rs {y : List Nat} {k : Nat} (hk : k ≤ y.length) : padded (rs y) k = y.take k := by
  obtain ⟨z, e⟩ := rs_split y
  have e2 : y.take k = (rs y ++ List.replicate z 48).take k := by rw [← e]
  have hl := congrArg List.length e
  rw [List.length_append, List.length_replicate] at hl
  unfold padded
  rw [e2, List.take_append, List.take_replicate, List.length_take]
  congr 2
  omega
theorem bitsOf_take (v n k : Nat) (h : k ≤ n) : (bitsOf v n).take k = bitsOf (v / 2 ^ (n - k)) k := by
  have e := bitsOf_app v (n - k) k
  rw [Nat.add_sub_cancel' h] at e
  rw [e, List.take_append_of_le_length (by rw [bitsOf_len]; exact Nat.le_refl _), List.take_of_length_le (by rw [bitsOf_len]; exact Nat.le_refl _)]
/-- what a reader of the code takes for its number at a state -/
theorem code_val {fn : RS} {k : Nat} (o : Ok fn) (h : k ≤ fn.s) : valB (padded (code fn) k) = best fn / 2 ^ (fn.s - k) := by
  rw [code_rs o, padded_rs (by rw [bitsOf_len]; exact h), bitsOf_take _ _ _ h, valB_bits, Nat.mod_eq_of_lt]
  refine (Nat.div_lt_iff_lt_mul (Nat.two_pow_pos _)).mpr ?_
  rw [← Nat.pow_add, Nat.add_sub_cancel' h]
  exact best_lt o
theorem code_first : code first = [] := by
  have hF : fig first = 32 := fig_uniq (Nat.le_refl _) (hm_iff.mpr ⟨0, by decide, by decide⟩) (.inl rfl)
  unfold code
  rw [hF]
  rfl
end RC

end
section
set_option maxRecDepth 100000
set_option maxHeartbeats 1000000
namespace DL
open RC
/-! ### fixed bits -/
theorem fixed_lc {S : Store} (v n : Nat) (x : Slot) (te : Ex) (hte : te = eite (tru (ebin opAnd (ebin opShr (evar 0) (evar 2)) (ec (.int 1)))) (ec (.str [49])) (ec (.str [48]))) :
    runLc (.nm 2) tyes te [.val (nI v), x, .no] ((List.range n).reverse.map nI) S = .ok (((bitsOf v n).map fun c => [c]).map D.str) S := by
  rw [runLc_to nI (fun i => D.str [if v / 2 ^ i % 2 = 1 then 49 else 48]) _ fun i hi => ⟨_, rfl, ?_⟩]
  · rw [List.map_map]
    unfold bitsOf
    rw [List.map_map]
    rfl
  · subst hte
    simp only [R.bind, ev_eite, ev_tru, ev_ebin, ev_evar, ev_ec, List.set_cons_succ, List.set_cons_zero, ev_look0, ev_lookS, ev_slook, shr_nat, and_one, D.truth]
    rcases Nat.mod_two_eq_zero_or_one (v / 2 ^ i) with h | h <;> rw [h] <;> rfl
theorem flat1 (xs : List Nat) : (xs.map fun c => [c]).flatten = xs := by
  induction xs with
  | nil => rfl
  | cons x r ih => rw [List.map_cons, List.flatten_cons, ih]; rfl
theorem fixed_eq (v n : Nat) (S : Store) (h : n ≤ 16777216) : s_fixed [nI v, nI n] S = .ok (.str (bitsOf v n)) S := by
  have rg : ∀ G, G = [.val (nI v), .val (nI n), .no] → irngS (econs (ebin opSub (evar 1) (ec (.int 1))) (econs (eun opNeg (ec (.int 1))) (econs (eun opNeg (ec (.int 1))) enil))) G S = .ok ((List.range n).reverse.map nI) S := fun G e => irngS_down (by subst e; simp [R.bind]) h
  have lc := fixed_lc (S := S) v n (.val (nI n)) _ rfl
  have jn := join_list ((bitsOf v n).map fun c => [c]) (by rw [flat1, bitsOf_len]; exact h)
  rw [flat1] at jn
  simp only [s_fixed, b_fixed, ev_mkFn, List.length_cons, List.length_nil, Nat.zero_add, if_true, List.map_cons, List.map_nil, List.replicate, List.cons_append, List.nil_append, ev_sret, ev_esm, ev_ec, R.bind, ev_elc, rg _ rfl, wipeG]
  simp only [List.foldl, List.set_cons_succ, List.set_cons_zero, lc]
  simp [h, jn, -List.map_map]
theorem law_fixed_eq (v n : Nat) (S : Store) (h : n ≤ 16777216) : s__law_fixed [nI v, nI n] S = .ok (.str (bitsOf v n)) S := by
  have rg : ∀ G, G = [.val (nI v), .val (nI n), .no] → irngS (econs (ebin opSub (evar 1) (ec (.int 1))) (econs (ebin opSub (ec (.int 0)) (ec (.int 1))) (econs (ebin opSub (ec (.int 0)) (ec (.int 1))) enil))) G S = .ok ((List.range n).reverse.map nI) S := fun G e => irngS_down (by subst e; simp [R.bind]) h
  have lc := fixed_lc (S := S) v n (.val (nI n)) _ rfl
  have jn := join_list ((bitsOf v n).map fun c => [c]) (by rw [flat1, bitsOf_len]; exact h)
  rw [flat1] at jn
  simp only [s__law_fixed, b__law_fixed, ev_mkFn, List.length_cons, List.length_nil, Nat.zero_add, if_true, List.map_cons, List.map_nil, List.replicate, List.cons_append, List.nil_append, ev_sret, ev_esm, ev_ec, R.bind, ev_elc, rg _ rfl, wipeG]
  simp only [List.foldl, List.set_cons_succ, List.set_cons_zero, lc]
  simp [h, jn, -List.map_map]
theorem bits_of_eq (xs : List Nat) (S : Store) (h : xs.length ≤ 1000000) : s_bits_of [tn xs] S = .ok (.str (bytesBits xs)) S := by
  have lc : runLc (.nm 1) tyes (ecall s_fixed (econs (evar 1) (econs (ec (.int 8)) enil))) [.val (tn xs), .no] (xs.map nI) S = .ok ((xs.map fun x => bitsOf x 8).map D.str) S := by
    rw [runLc_to nI (fun x => D.str (bitsOf x 8)) _ fun x hx => ⟨_, rfl, ?_⟩]
    · rw [List.map_map]; rfl
    · have : s_fixed [nI x, .int 8] S = .ok (.str (bitsOf x 8)) S := fixed_eq x 8 S (by decide)
      simp [R.bind, this]
  have hl : (xs.map fun x => bitsOf x 8).flatten.length ≤ 16777216 := by
    rw [List.length_flatten, List.map_map]
    have : (List.length ∘ fun x => bitsOf x 8) = fun _ => 8 := funext fun x => bitsOf_len x 8
    rw [this, List.map_const', List.sum_replicate_nat]
    omega
  have jn := join_list (xs.map fun x => bitsOf x 8) hl
  simp [s_bits_of, b_bits_of, R.bind, wipeG, lc, jn, show xs.length ≤ 16777216 by omega, bytesBits, -List.map_map]
/-! ### states -/
abbrev stD (st : RS) : D := .tup [nI st.l, nI st.w, nI st.s]
abbrev spD' (t : Sp) : D := .tup [nI t.a, nI t.b, nI t.T]
theorem size_eq (n : Nat) (S : Store) : s_size_of [nI n] S = .ok (nI (if n = 0 then 0 else n.log2 + 1)) S := by
  by_cases h : n = 0
  · subst h; rfl
  · simp [s_size_of, b_size_of, R.bind, PySem.Builtin.Int.intBits, h]
theorem first_eq (S : Store) : s_first_state [] S = .ok (stD first) S := by
  simp [s_first_state, b_first_state, R.bind, show Nat.log2 1 < 10000000 by decide, first]
theorem sh_zero {w : Nat} (h : sh w = 0) : 16777216 ≤ w := by
  unfold sh at h
  split at h
  · assumption
  · split at h
    · cases h
    · split at h <;> cases h
theorem sh_succ {w m : Nat} (h0 : 1 ≤ w) (h : sh w = m + 1) : w < 16777216 ∧ sh (w * 256) = m := by
  unfold sh at h ⊢
  split at h
  · cases h
  · refine ⟨by omega, ?_⟩
    split at h
    · rw [if_pos (by omega)]; omega
    · split at h
      · rw [if_neg (by omega), if_pos (by omega)]; omega
      · rw [if_neg (by omega), if_neg (by omega), if_pos (by omega)]; omega
/-- the turns of the renewal, however they are written -/
theorem shift_run (u : St) (st : RS) (t : Sp) (S : Store) (o : Ok st) (g : Good t) (hs : st.s ≤ 90000) (x8 : Slot)
    (hu : ∀ l w s : Nat, l.log2 < 10000000 → w.log2 < 10000000 → u [.val (stD st), .val (spD' t), .val (nI l), .val (nI w), .val (nI s), .val (nI t.a), .val (nI t.b), .val (nI t.T), x8] S = .nx [.val (stD st), .val (spD' t), .val (nI (l * 256)), .val (nI (w * 256)), .val (nI (s + 8)), .val (nI t.a), .val (nI t.b), .val (nI t.T), x8] S) :
    runWhile (strict (tst (ebin opLt (evar 3) (ec (.int 16777216))))) u FUEL [.val (stD st), .val (spD' t), .val (nI (st.l + st.w / t.T * t.a)), .val (nI (st.w / t.T * t.b)), .val (nI st.s), .val (nI t.a), .val (nI t.b), .val (nI t.T), x8] S
      = .nx [.val (stD st), .val (spD' t), .val (nI (cod st t).l), .val (nI (cod st t).w), .val (nI (cod st t).s), .val (nI t.a), .val (nI t.b), .val (nI t.T), x8] S := by
  have hw0 : 1 ≤ st.w / t.T * t.b := Nat.mul_pos (by have := unit_pos o g; omega) g.b
  have hle : st.l + st.w / t.T * t.a + st.w / t.T * t.b ≤ 2 ^ st.s := by
    have : st.w / t.T * t.a + st.w / t.T * t.b ≤ st.w := by
      rw [← Nat.mul_add]
      exact Nat.le_trans (Nat.mul_le_mul_left _ g.ab) (Nat.div_mul_le_self _ _)
    have := o.le
    omega
  have hsh : sh (st.w / t.T * t.b) < 4 := by
    unfold sh
    split
    · decide
    · split
      · decide
      · split <;> decide
  obtain ⟨G1, S1, h1, h2, l, w, s, h3, h4, h5, h6, h7⟩ := runWhile_run (c := strict (tst (ebin opLt (evar 3) (ec (.int 16777216))))) (u := u)
    (fun m G S' => S' = S ∧ ∃ l w s : Nat, G = [.val (stD st), .val (spD' t), .val (nI l), .val (nI w), .val (nI s), .val (nI t.a), .val (nI t.b), .val (nI t.T), x8] ∧ 1 ≤ w ∧ sh w = m ∧ (l + w ≤ 2 ^ s ∧ s + 8 * m ≤ 100000) ∧ (l * 256 ^ m = (cod st t).l ∧ w * 256 ^ m = (cod st t).w ∧ s + 8 * m = (cod st t).s))
    (fun G S' ⟨e, l, w, s, h3, h4, h5, h6, h7⟩ => by
      subst e h3
      have := sh_zero h5
      have c : ¬ ((w : Int) < 16777216) := by omega
      simp [R.bind, c])
    (fun m G S' ⟨e, l, w, s, h3, h4, h5, h6, h7, h8, h9⟩ => by
      subst e h3
      obtain ⟨a1, a2⟩ := sh_succ h4 h5
      have c : (w : Int) < 16777216 := by omega
      have z : ∀ y, y ≤ 2 ^ s → y.log2 < 10000000 := fun y hy => Nat.lt_trans (log2_of y (s + 1) (by rw [Nat.pow_succ]; have := Nat.two_pow_pos s; omega) (by omega)) (by omega)
      refine ⟨_, _, by simp [R.bind, c], hu l w s (z l (by omega)) (z w (by omega)), rfl, l * 256, w * 256, s + 8, rfl, by omega, a2, ⟨?_, by omega⟩, ?_, ?_, by omega⟩
      · rw [Nat.pow_add, ← Nat.add_mul]
        exact Nat.mul_le_mul_right _ h6.1
      · rw [← h7, Nat.pow_succ', Nat.mul_assoc]
      · rw [← h8, Nat.pow_succ', Nat.mul_assoc])
    (sh (st.w / t.T * t.b)) FUEL [.val (stD st), .val (spD' t), .val (nI (st.l + st.w / t.T * t.a)), .val (nI (st.w / t.T * t.b)), .val (nI st.s), .val (nI t.a), .val (nI t.b), .val (nI t.T), x8] S (Nat.lt_of_lt_of_le (by omega) fuel_big)
    ⟨rfl, _, _, _, rfl, hw0, rfl, ⟨hle, by omega⟩, rfl, rfl, rfl⟩
  rw [h1]
  subst h2 h3
  obtain ⟨b1, b2, b3⟩ := h7
  rw [Nat.pow_zero, Nat.mul_one] at b1 b2
  rw [← b1, ← b2, ← b3]
  rfl
theorem coded_eq (st : RS) (t : Sp) (S : Store) (o : Ok st) (g : Good t) (hs : st.s ≤ 90000) : s_coded_state [stD st, spD' t] S = .ok (stD (cod st t)) S := by
  have hT0 : 0 < t.T := by have := g.b; have := g.ab; omega
  have d2 : t.T.log2 < 9000 := Nat.lt_trans (log2_of t.T 13 (by have := g.T; omega) (by decide)) (by decide)
  have d := div_nat st.w t.T hT0 d2
  have hT := g.T
  have hab := g.ab
  have m1 : mulOk ((st.w / t.T : Nat) : Int) (t.a : Int) = true := mulOk_r _ _ (by omega)
  have m2 : mulOk ((st.w / t.T : Nat) : Int) (t.b : Int) = true := mulOk_r _ _ (by omega)
  have k := shift_run (spar3 2 3 4 (strict (econs (ebin opShl (evar 2) (ec (.int 8))) (econs (ebin opShl (evar 3) (ec (.int 8))) (econs (ebin opAdd (evar 4) (ec (.int 8))) enil))))) st t S o g hs (.val (nI (st.w / t.T))) fun l w s h1 h2 => by
    have a1 := shl_nat l 8 (by decide) h1
    have a2 := shl_nat w 8 (by decide) h2
    rw [show nI 8 = .int 8 from rfl] at a1 a2
    simp [R.bind, a1, a2, -ev_shl]
  simp only [nI, Int.natCast_add, Int.natCast_mul] at k d m1 m2
  simp [s_coded_state, b_coded_state, R.bind, d, m1, m2, k, -ev_div, -ev_shl, -Int.natCast_ediv]
theorem law_coded_eq (st : RS) (t : Sp) (S : Store) (o : Ok st) (g : Good t) (hs : st.s ≤ 90000) : s__law_coded [stD st, spD' t] S = .ok (stD (cod st t)) S := by
  have hT0 : 0 < t.T := by have := g.b; have := g.ab; omega
  have d2 : t.T.log2 < 9000 := Nat.lt_trans (log2_of t.T 13 (by have := g.T; omega) (by decide)) (by decide)
  have d := div_nat st.w t.T hT0 d2
  have hT := g.T
  have hab := g.ab
  have m1 : mulOk ((st.w / t.T : Nat) : Int) (t.a : Int) = true := mulOk_r _ _ (by omega)
  have m2 : mulOk ((st.w / t.T : Nat) : Int) (t.b : Int) = true := mulOk_r _ _ (by omega)
  have k := shift_run (spar3 2 3 4 (strict (econs (ebin opMul (evar 2) (ec (.int 256))) (econs (ebin opMul (evar 3) (ec (.int 256))) (econs (ebin opAdd (evar 4) (ec (.int 8))) enil))))) st t S o g hs (.val (nI (st.w / t.T))) fun l w s h1 h2 => by
    have a1 : ∀ z : Int, mulOk z 256 = true := fun z => mulOk_r _ _ (by decide)
    simp [R.bind, a1]
  simp only [nI, Int.natCast_add, Int.natCast_mul] at k d m1 m2
  simp [s__law_coded, b__law_coded, R.bind, d, m1, m2, k, -ev_div, -Int.natCast_ediv]
end DL

end
section
set_option maxRecDepth 100000
set_option maxHeartbeats 1000000
namespace DL
open RC
theorem state_run (f : Fn) (a : Slot) (S : Store) (hf : ∀ st t, Ok st → Good t → st.s ≤ 90000 → f [stD st, spD' t] S = .ok (stD (cod st t)) S) : ∀ (ts : List Sp) (st : RS) (x : Slot), Ok st → (∀ t ∈ ts, Good t) → st.s + 16 * ts.length ≤ 90000 →
    ∃ x', runFor (.nm 2) (sset 1 (strict (ecall f (econs (evar 1) (econs (evar 2) enil))))) (ts.map spD') [a, .val (stD st), x] S = .nx [a, .val (stD (run st ts)), x'] S
  | [], st, x, _, _, _ => ⟨x, rfl⟩
  | t :: r, st, x, o, h, hl => by
    have g := h t List.mem_cons_self
    have sz := cod_size o g
    rw [List.length_cons] at hl
    obtain ⟨x', ih⟩ := state_run f a S hf r (cod st t) (.val (spD' t)) (cod_ok o g) (fun y hy => h y (List.mem_cons_of_mem _ hy)) (by omega)
    refine ⟨x', ?_⟩
    have e := hf st t o g (by omega)
    rw [List.map_cons, ev_runForC]
    simp [R.bind, e]
    exact ih
theorem state_eq (ts : List Sp) (S : Store) (h : ∀ t ∈ ts, Good t) (hl : ts.length ≤ 5000) : s_state_of_steps [.tup (ts.map spD')] S = .ok (stD (run first ts)) S := by
  obtain ⟨x', e⟩ := state_run s_coded_state (.val (.tup (ts.map spD'))) S (fun st t o g hs => coded_eq st t S o g hs) ts first .no first_ok h (by show 32 + 16 * _ ≤ _; omega)
  simp [s_state_of_steps, b_state_of_steps, R.bind, first_eq, e]
theorem law_state_eq (ts : List Sp) (d : D) (hd : d = .lst (ts.map spD') ∨ d = .tup (ts.map spD')) (S : Store) (h : ∀ t ∈ ts, Good t) (hl : ts.length ≤ 5000) : s__law_state [d] S = .ok (stD (run first ts)) S := by
  obtain ⟨x', e⟩ := state_run s__law_coded (.val d) S (fun st t o g hs => law_coded_eq st t S o g hs) ts first .no first_ok h (by show 32 + 16 * _ ≤ _; omega)
  have f1 : stD first = .tup [.int 0, .int 4294967296, .int 32] := rfl
  rw [f1] at e
  rcases hd with rfl | rfl <;> simp [s__law_state, b__law_state, R.bind, e]
/-! ### rounded up -/
theorem ceil1 (l k : Nat) : ((l : Int) - 1) / (2 ^ k : Nat) + 1 = (cd l k : Nat) := by
  have p := Nat.two_pow_pos k
  unfold cd
  rw [Int.natCast_ediv, ← Int.add_mul_ediv_right ((l : Int) - 1) 1 (show ((2 ^ k : Nat) : Int) ≠ 0 by omega)]
  congr 1
  omega
theorem ceil2 (l k : Nat) : 0 - (0 - (l : Int)) / (2 ^ k : Nat) = (cd l k : Nat) := by
  have p := Nat.two_pow_pos k
  rw [← ceil1]
  have e : (0 - (l : Int)) = -1 + -((l : Int) - 1) := by omega
  generalize hm : ((2 ^ k : Nat) : Int) = m
  have pm : 0 < m := by omega
  have d1 := Int.mul_ediv_add_emod ((l : Int) - 1) m
  have m1 := Int.emod_nonneg ((l : Int) - 1) (show m ≠ 0 by omega)
  have m2 := Int.emod_lt_of_pos ((l : Int) - 1) pm
  generalize ((l : Int) - 1) / m = q at d1 ⊢
  generalize ((l : Int) - 1) % m = r at d1 m1 m2
  have h : (0 - (l : Int)) / m = -(q + 1) := by
    rw [show (0 - (l : Int)) = (m - 1 - r) + m * (-(q + 1)) by rw [Int.mul_neg, Int.mul_add, Int.mul_one]; omega, Int.add_mul_ediv_left _ _ (show m ≠ 0 by omega), Int.ediv_eq_zero_of_lt (by omega) (by omega), Int.zero_add]
  rw [h]
  omega
theorem pow_cast (k : Nat) : ((2 : Int) ^ k) = ((2 ^ k : Nat) : Int) := by simp
theorem multiple_eq (st : RS) (k : Nat) (S : Store) (o : Ok st) (hs : st.s ≤ 90000) (hk : k ≤ 90001) : s_has_multiple [stD st, nI k] S = .ok (.bl (hm st.l st.w k)) S := by
  have c := ceil1 st.l k
  have z : (cd st.l k).log2 < 10000000 := by
    have h1 := cd_lt st.l k
    have h2 := o.le
    have h3 := o.w
    have p := Nat.two_pow_pos k
    have : cd st.l k ≤ st.l + 1 := by
      refine cd_least ?_
      have : st.l + 1 ≤ (st.l + 1) * 2 ^ k := Nat.le_mul_of_pos_right _ p
      omega
    exact Nat.lt_trans (log2_of _ (st.s + 1) (by rw [Nat.pow_succ]; have := Nat.two_pow_pos st.s; omega) (by omega)) (by omega)
  have s1 : opShr (.int ((st.l : Int) - 1)) (nI k) = some (.int (((st.l : Int) - 1) / (2 ^ k : Nat))) := by
    rw [ev_shr, if_pos (by omega)]
    simp
  have s2 : opShl (.int (((st.l : Int) - 1) / (2 ^ k : Nat) + 1)) (nI k) = some (nI (cd st.l k * 2 ^ k)) := by
    rw [c]
    exact shl_nat _ _ (by omega) z
  have e : decide (((cd st.l k * 2 ^ k : Nat) : Int) < (st.l : Int) + (st.w : Int)) = hm st.l st.w k := by
    unfold hm
    rw [Bool.eq_iff_iff, decide_eq_true_eq, decide_eq_true_eq]
    omega
  simp only [s_has_multiple, b_has_multiple, ev_mkFn, List.length_cons, List.length_nil, Nat.zero_add, if_true, List.map_cons, List.map_nil, List.replicate, List.cons_append, List.nil_append, ev_sseq, ev_sasg, ev_strict, ev_evar, ev_hideV, ev_hideN, ev_hide0, ev_look0, ev_slook, ev_putT, ev_putsC, ev_put, ev_puts0, List.set_cons_succ, List.set_cons_zero, Option.bind_some, ev_sret, ev_ebin, R.bind, ev_lookS, ev_sub, ev_ec, s1, ev_add, s2, ev_lt, e]
theorem figures_loop (F : Fn) (st : RS) (S : Store) (n : Nat) (o : Ok st) (hm' : ∀ k, k ≤ st.s → F [stD st, nI (k + 1)] S = .ok (.bl (hm st.l st.w (k + 1))) S) (hn : st.s < n) :
    runWhile (strict (band (tst (ebin opLt (evar 1) (eix (evar 0) (ec (.int 2))))) (tru (ecall F (econs (evar 0) (econs (ebin opAdd (evar 1) (ec (.int 1))) enil)))))) (saug 1 (onInts opAdd) (strict (ec (.int 1)))) n [.val (stD st), .val (nI st.w.log2)] S = .nx [.val (stD st), .val (nI (fig st))] S := by
  have hw := o.w
  have hle := o.le
  have lg := Nat.log2_self_le (show st.w ≠ 0 by omega)
  have ks : st.w.log2 ≤ st.s := (Nat.pow_le_pow_iff_right (by decide)).mp (Nat.le_trans lg (by omega))
  have cf := climb_from (st := st) (k := st.w.log2) (n := st.s) (by omega) lg (by omega) (by omega)
  have ix2 : opIx (stD st) (.int 2) = some (nI st.s) := rfl
  obtain ⟨a1, a2, a3, a4⟩ := climb_ok (hm st.l st.w) st.s st.s st.w.log2 ks (by omega)
  rw [cf] at a1 a2 a3 a4
  have add1 : ∀ k : Nat, opAdd (nI k) (.int 1) = some (nI (k + 1)) := fun k => by simp
  obtain ⟨G1, S1, h1, h2, k, h3, h4, h5⟩ := runWhile_run (c := strict (band (tst (ebin opLt (evar 1) (eix (evar 0) (ec (.int 2))))) (tru (ecall F (econs (evar 0) (econs (ebin opAdd (evar 1) (ec (.int 1))) enil)))))) (u := saug 1 (onInts opAdd) (strict (ec (.int 1))))
    (fun m G S' => S' = S ∧ ∃ k : Nat, G = [.val (stD st), .val (nI k)] ∧ st.w.log2 ≤ k ∧ k + m = fig st)
    (fun G S' ⟨e, k, h3, h4, h5⟩ => by
      subst e h3
      rw [Nat.add_zero] at h5
      subst h5
      rcases Nat.lt_or_ge (fig st) st.s with q | q
      · have t := hm' (fig st) a2
        rw [fig_top q] at t
        have lt : decide ((fig st : Int) < (st.s : Int)) = true := decide_eq_true (by omega)
        simp only [ev_strict, ev_band, ev_tst, ev_ebin, R.bind, ev_evar, ev_hideV, ev_hide0, ev_look0, ev_lookS, ev_slook, ev_eix, ev_ec, ev_deref_tup, ix2, ev_lt, lt, if_true, ev_tru, ev_ecall, ev_econs, add1, ev_enil, t, ev_truthB]
      · have lt : decide ((fig st : Int) < (st.s : Int)) = false := decide_eq_false (by omega)
        simp only [ev_strict, ev_band, ev_tst, ev_ebin, R.bind, ev_evar, ev_hideV, ev_hide0, ev_look0, ev_lookS, ev_slook, ev_eix, ev_ec, ev_deref_tup, ix2, ev_lt, lt, Bool.false_eq_true, if_false])
    (fun m G S' ⟨e, k, h3, h4, h5⟩ => by
      subst e h3
      have lt : decide ((k : Int) < (st.s : Int)) = true := decide_eq_true (by omega)
      have t := hm' k (by omega)
      rw [a3 (k + 1) (by omega) (by omega)] at t
      refine ⟨[.val (stD st), .val (nI (k + 1))], _, ?_, ?_, rfl, k + 1, rfl, by omega, by omega⟩
      · simp only [ev_strict, ev_band, ev_tst, ev_ebin, R.bind, ev_evar, ev_hideV, ev_hide0, ev_look0, ev_lookS, ev_slook, ev_eix, ev_ec, ev_deref_tup, ix2, ev_lt, lt, if_true, ev_tru, ev_ecall, ev_econs, add1, ev_enil, t, ev_truthB]
      · simp)
    (fig st - st.w.log2) n [.val (stD st), .val (nI st.w.log2)] S (by omega) ⟨rfl, _, rfl, Nat.le_refl _, by omega⟩
  subst h2 h3
  rw [Nat.add_zero] at h5
  subst h5
  exact h1
theorem figures_eq (st : RS) (S : Store) (o : Ok st) (hs : st.s ≤ 90000) : s_free_figures [stD st] S = .ok (nI (fig st)) S := by
  have hw := o.w
  have sz : s_size_of [nI st.w] S = .ok (nI (st.w.log2 + 1)) S := by rw [size_eq, if_neg (by omega)]
  have ix1 : opIx (stD st) (.int 1) = some (nI st.w) := rfl
  have sb : opSub (nI (st.w.log2 + 1)) (.int 1) = some (nI st.w.log2) := by simp
  have lp := figures_loop s_has_multiple st S FUEL o (fun k hk => multiple_eq st (k + 1) S o hs (by omega)) (Nat.lt_of_lt_of_le (by omega) fuel_big)
  unfold s_free_figures b_free_figures
  generalize s_has_multiple = F at lp ⊢
  generalize s_size_of = Z at sz ⊢
  simp only [ev_mkFn, List.length_cons, List.length_nil, Nat.zero_add, if_true, List.map_cons, List.map_nil, List.replicate, List.cons_append, List.nil_append, ev_sseq, ev_sset, ev_strict, ev_ebin, R.bind, ev_ecall, ev_econs, ev_eix, ev_evar, ev_hideV, ev_hideN, ev_hide0, ev_look0, ev_slook, ev_ec, ev_deref_tup, ix1, ev_enil, sz, sb, ev_swhile, List.set_cons_succ, List.set_cons_zero, lp, ev_sret, ev_lookS]
end DL

end
section
set_option maxRecDepth 100000
set_option maxHeartbeats 1000000
namespace DL
open RC
theorem one_shl (k : Nat) (h : k ≤ 1000000) : opShl (.int 1) (nI k) = some (nI (2 ^ k)) := by
  have := shl_nat 1 k h (by decide)
  rw [Nat.one_mul] at this
  exact this
theorem two_shl (k : Nat) (h : k ≤ 1000000) : opShl (.int 2) (nI k) = some (nI (2 ^ (k + 1))) := by
  have := shl_nat 2 k h (by decide)
  rw [← Nat.pow_succ'] at this
  exact this
theorem cd_small {st : RS} (o : Ok st) (k : Nat) : cd st.l k ≤ st.l + 1 := by
  refine cd_least ?_
  have : st.l + 1 ≤ (st.l + 1) * 2 ^ k := Nat.le_mul_of_pos_right _ (Nat.two_pow_pos k)
  omega
theorem state_code_eq (st : RS) (S : Store) (o : Ok st) (hs : st.s ≤ 90000) : s_state_code [stD st] S = .ok (.str (code st)) S := by
  have f := figures_eq st S o hs
  have ix0 : opIx (stD st) (.int 0) = some (nI st.l) := rfl
  have ix2 : opIx (stD st) (.int 2) = some (nI st.s) := rfl
  have c := ceil1 st.l (fig st)
  have s1 : opShr (.int ((st.l : Int) - 1)) (nI (fig st)) = some (.int (((st.l : Int) - 1) / (2 ^ (fig st) : Nat))) := by
    rw [ev_shr, if_pos (by omega)]
    simp
  have hle := fig_le st
  have sb : opSub (nI st.s) (nI (fig st)) = some (nI (st.s - fig st)) := by
    rw [ev_sub]
    congr 2
    omega
  have fx := fixed_eq (cd st.l (fig st)) (st.s - fig st) S (by omega)
  unfold s_state_code b_state_code
  generalize s_free_figures = F at f ⊢
  generalize s_fixed = X at fx ⊢
  simp only [ev_mkFn, List.length_cons, List.length_nil, Nat.zero_add, if_true, List.map_cons, List.map_nil, List.replicate, List.cons_append, List.nil_append, ev_sseq, ev_sset, ev_strict, ev_ebin, R.bind, ev_ecall, ev_econs, ev_eix, ev_evar, ev_hideV, ev_hideN, ev_hide0, ev_look0, ev_lookS, ev_slook, ev_ec, ev_deref_tup, ix0, ix2, ev_enil, f, List.set_cons_succ, List.set_cons_zero, ev_sret, ev_sub, s1, ev_add, c]
  rw [show opSub (nI st.s) (nI (fig st)) = some (nI (st.s - fig st)) from sb] at *
  have sb' : (D.int ((st.s : Int) - (fig st : Int))) = nI (st.s - fig st) := by show D.int _ = D.int _; congr 1; omega
  rw [sb', fx]
  rfl
theorem law_state_code_eq (st : RS) (S : Store) (o : Ok st) (hs : st.s ≤ 8000) : s__law_state_code [stD st] S = .ok (.str (code st)) S := by
  have hw := o.w
  have hle := o.le
  obtain ⟨a1, a2, a3, a4⟩ := climb_ok (hm st.l st.w) st.s st.s 0 (Nat.zero_le _) (by omega)
  have a2' := fig_le st
  have lg : ∀ k, k ≤ 8001 → (2 ^ k).log2 < 9000 := fun k hk => Nat.lt_of_le_of_lt (Nat.le_of_eq (Nat.log2_two_pow)) (by omega)
  have dv : ∀ k : Nat, k ≤ 8001 → opDiv (.int (0 - (st.l : Int))) (nI (2 ^ k)) = some (.int ((0 - (st.l : Int)) / (2 ^ k : Nat))) := fun k hk => by
    rw [ev_div, if_pos ⟨by have := Nat.two_pow_pos k; omega, by simpa using lg k hk⟩]
  have cdb := fun k => cd_small o k
  have lcd : ∀ k, (cd st.l k).log2 < 9000 := fun k => Nat.lt_trans (log2_of _ (st.s + 1) (by have := cdb k; rw [Nat.pow_succ]; have := Nat.two_pow_pos st.s; omega) (by omega)) (by omega)
  have neg : ∀ k, (0 - (st.l : Int)) / (2 ^ k : Nat) = -(cd st.l k : Nat) := fun k => by have := ceil2 st.l k; omega
  have ml : ∀ k : Nat, k ≤ 8001 → opMul (.int (-(cd st.l k : Nat))) (nI (2 ^ k)) = some (.int (-(cd st.l k * 2 ^ k : Nat))) := fun k hk => by
    rw [ev_mul, if_pos]
    · congr 2
      rw [Int.natCast_mul, Int.neg_mul]
    · refine mulOk_w _ _ ?_
      have h1 := lcd k
      have h2 := lg k hk
      rw [Int.natAbs_neg, Int.natAbs_natCast, Int.natAbs_natCast]
      omega
  have add1 : ∀ k : Nat, opAdd (nI k) (.int 1) = some (nI (k + 1)) := fun k => by simp
  have body : ∀ k : Nat, k < st.s → ∀ x : Slot, strict (band (tst (ebin opLt (evar 4) (evar 3))) (tst (ebin opLt (ebin opSub (ec (.int 0)) (ebin opMul (ebin opDiv (ebin opSub (ec (.int 0)) (evar 1)) (ebin opShl (ec (.int 2)) (evar 4))) (ebin opShl (ec (.int 2)) (evar 4)))) (ebin opAdd (evar 1) (evar 2)))))
      [.val (stD st), .val (nI st.l), .val (nI st.w), .val (nI st.s), .val (nI k)] S = .ok (hm st.l st.w (k + 1)) S := fun k hk x => by
    have lt : decide ((k : Int) < (st.s : Int)) = true := decide_eq_true (by omega)
    have e : decide (0 - -((cd st.l (k + 1) * 2 ^ (k + 1) : Nat) : Int) < (st.l : Int) + (st.w : Int)) = hm st.l st.w (k + 1) := by
      unfold hm
      rw [Bool.eq_iff_iff, decide_eq_true_eq, decide_eq_true_eq]
      omega
    simp only [ev_strict, ev_band, ev_tst, ev_ebin, R.bind, ev_evar, ev_hideV, ev_hide0, ev_look0, ev_lookS, ev_slook, ev_ec, ev_lt, lt, if_true, ev_sub, two_shl k (by omega), dv (k + 1) (by omega), neg, ml (k + 1) (by omega), ev_add, e]
  obtain ⟨G1, S1, h1, h2, k, h3, h4⟩ := runWhile_run (c := strict (band (tst (ebin opLt (evar 4) (evar 3))) (tst (ebin opLt (ebin opSub (ec (.int 0)) (ebin opMul (ebin opDiv (ebin opSub (ec (.int 0)) (evar 1)) (ebin opShl (ec (.int 2)) (evar 4))) (ebin opShl (ec (.int 2)) (evar 4)))) (ebin opAdd (evar 1) (evar 2)))))) (u := sset 4 (strict (ebin opAdd (evar 4) (ec (.int 1)))))
    (fun m G S' => S' = S ∧ ∃ k : Nat, G = [.val (stD st), .val (nI st.l), .val (nI st.w), .val (nI st.s), .val (nI k)] ∧ k + m = fig st)
    (fun G S' ⟨e, k, h3, h4⟩ => by
      subst e h3
      rw [Nat.add_zero] at h4
      subst h4
      rcases Nat.lt_or_ge (fig st) st.s with q | q
      · rw [body (fig st) q .no, fig_top q]
      · have lt : decide ((fig st : Int) < (st.s : Int)) = false := decide_eq_false (by omega)
        simp only [ev_strict, ev_band, ev_tst, ev_ebin, R.bind, ev_evar, ev_hideV, ev_hide0, ev_look0, ev_lookS, ev_slook, ev_lt, lt, Bool.false_eq_true, if_false])
    (fun m G S' ⟨e, k, h3, h4⟩ => by
      subst e h3
      refine ⟨[.val (stD st), .val (nI st.l), .val (nI st.w), .val (nI st.s), .val (nI (k + 1))], _, ?_, by simp [R.bind], rfl, k + 1, rfl, by omega⟩
      rw [body k (by omega) .no, fig_hm (by omega) (by omega)])
    (fig st) FUEL [.val (stD st), .val (nI st.l), .val (nI st.w), .val (nI st.s), .val (.int 0)] S (Nat.lt_of_lt_of_le (by omega) fuel_big) ⟨rfl, 0, rfl, by omega⟩
  subst h2 h3
  rw [Nat.add_zero] at h4
  subst h4
  have fx := law_fixed_eq (cd st.l (fig st)) (st.s - fig st) S1 (by omega)
  have v1 : (0 : Int) - (0 - (st.l : Int)) / ((2 ^ fig st : Nat) : Int) = (cd st.l (fig st) : Nat) := ceil2 _ _
  have v2 : (D.int ((st.s : Int) - (fig st : Int))) = nI (st.s - fig st) := by show D.int _ = D.int _; congr 1; omega
  unfold s__law_state_code b__law_state_code
  generalize s__law_fixed = X at fx ⊢
  simp only [ev_mkFn, List.length_cons, List.length_nil, Nat.zero_add, if_true, List.map_cons, List.map_nil, List.replicate, List.cons_append, List.nil_append, ev_sseq, ev_sasg, ev_strict, ev_evar, ev_hideV, ev_hideN, ev_hide0, ev_look0, ev_lookS, ev_slook, ev_putT, ev_putsC, ev_put, ev_puts0, List.set_cons_succ, List.set_cons_zero, Option.bind_some, ev_sset, ev_ec, ev_swhile]
  rw [h1]
  simp only [ev_sret, ev_ecall, ev_econs, R.bind, ev_ebin, ev_ec, ev_evar, ev_look0, ev_lookS, ev_slook, ev_sub, one_shl (fig st) (by omega)]
  rw [dv (fig st) (by omega)]
  simp only [ev_sub, v2, ev_enil, v1, fx]
  rfl
end DL

end
section
set_option maxRecDepth 100000
set_option maxHeartbeats 1000000
namespace DL
open RC
theorem setl_cons {l e s x : Nat} {r : List Nat} (h : setl l e s s = x :: r) : 8 ≤ s ∧ l / 2 ^ (s - 8) = e / 2 ^ (s - 8) ∧ x = l / 2 ^ (s - 8) % 256 ∧ r = setl l e (s - 8) (s - 8) := by
  cases s with
  | zero => cases h
  | succ n =>
    rw [setl_succ] at h
    split at h
    · rename_i c
      obtain ⟨h1, h2⟩ := List.cons.inj h
      exact ⟨c.1, c.2, h1.symm, by rw [← h2]; exact setl_fuel _ _ _ _ _ (by omega) (Nat.le_refl _)⟩
    · cases h
theorem setl_nil {l e s : Nat} (h : setl l e s s = []) (h8 : 8 ≤ s) : l / 2 ^ (s - 8) ≠ e / 2 ^ (s - 8) := by
  cases s with
  | zero => omega
  | succ n =>
    rw [setl_succ] at h
    split at h
    · cases h
    · rename_i c
      exact fun z => c ⟨h8, z⟩
theorem settled_run (c : Tx) (u : St) (l e s : Nat) (E : Nat → List Nat → Env) (S : Store)
    (h1 : ∀ k ds, k < 8 → c (E k ds) S = .ok false S) (h2 : ∀ k ds, 8 ≤ k → c (E k ds) S = .ok (decide (l / 2 ^ (k - 8) = e / 2 ^ (k - 8))) S)
    (h3 : ∀ k ds, 8 ≤ k → ds.length < 100000 → u (E k ds) S = .nx (E (k - 8) (ds ++ [l / 2 ^ (k - 8) % 256])) S) (hs : s ≤ 90000) :
    ∃ k, runWhile c u FUEL (E s []) S = .nx (E k (setl l e s s)) S := by
  obtain ⟨G1, S1, e1, e2, k, ds, e3, e4, e5, e6⟩ := runWhile_run (c := c) (u := u)
    (fun m G S' => S' = S ∧ ∃ k ds, G = E k ds ∧ (setl l e k k).length = m ∧ ds ++ setl l e k k = setl l e s s ∧ ds.length * 8 + k = s)
    (fun G S' ⟨a1, k, ds, a2, a3, a4, a5⟩ => by
      subst a1 a2
      have a3 := List.eq_nil_of_length_eq_zero a3
      rcases Nat.lt_or_ge k 8 with q | q
      · exact h1 k ds q
      · rw [h2 k ds q, decide_eq_false (setl_nil a3 q)])
    (fun m G S' ⟨a1, k, ds, a2, a3, a4, a5⟩ => by
      subst a1 a2
      cases hr : setl l e k k with
      | nil => rw [hr] at a3; cases a3
      | cons x r =>
        obtain ⟨b1, b2, b3, b4⟩ := setl_cons hr
        rw [hr] at a3 a4
        refine ⟨_, _, by rw [h2 k ds b1, decide_eq_true b2], h3 k ds b1 (by omega), rfl, k - 8, _, rfl, by rw [← b4]; simpa using a3, ?_, ?_⟩
        · rw [← b3, ← b4, List.append_assoc]
          exact a4
        · simp
          omega)
    (setl l e s s).length FUEL (E s []) S (Nat.lt_of_lt_of_le (by have := setl_len l e s s; omega) fuel_big) ⟨rfl, s, [], rfl, rfl, rfl, by simp⟩
  subst e2 e3
  have e4 := List.eq_nil_of_length_eq_zero e4
  rw [e4, List.append_nil] at e5
  exact ⟨k, by rw [e1, e5]⟩
theorem sub8 (k : Nat) (h : 8 ≤ k) : (k : Int) - 8 = ((k - 8 : Nat) : Int) := by omega
theorem settled_eq (st : RS) (S : Store) (hS : Store.flat S = true) (o : Ok st) (hs : st.s ≤ 90000) : s_state_settled [stD st] S = .ok (tn (settled st)) S := by
  have hw := o.w
  have el : (st.l : Int) + (st.w : Int) - 1 = ((st.l + st.w - 1 : Nat) : Int) := by omega
  have eqD : ∀ a b : Nat, ((a : Int) == (b : Int)) = decide (a = b) := fun a b => by
    rw [Bool.eq_iff_iff, beq_iff_eq, decide_eq_true_eq]
    omega
  obtain ⟨k, e⟩ := settled_run (strict (band (tst (ebin opGe (evar 3) (ec (.int 8)))) (tst (ebin opEq (ebin opShr (evar 1) (ebin opSub (evar 3) (ec (.int 8)))) (ebin opShr (evar 4) (ebin opSub (evar 3) (ec (.int 8))))))))
    (sseq (saug 3 (onInts opSub) (strict (ec (.int 8)))) (sadd 5 addOne (strict (ebin opMod (ebin opShr (evar 1) (evar 3)) (ec (.int 256))))))
    st.l (st.l + st.w - 1) st.s (fun k ds => [.val (stD st), .val (nI st.l), .val (nI st.w), .val (nI k), .val (nI (st.l + st.w - 1)), .own (ds.map nI)]) S
    (fun k ds h => by
      have : ¬ (8 : Int) ≤ (k : Int) := by omega
      simp [R.bind, this])
    (fun k ds h => by
      have : (8 : Int) ≤ (k : Int) := by omega
      simp only [ev_strict, ev_band, ev_tst, ev_ebin, R.bind, ev_evar, ev_hideV, ev_hideO, ev_hide0, ev_look0, ev_lookS, ev_slook, ev_ec, ev_ge, decide_eq_true this, if_true, ev_sub, sub8 k h, shr_nat, ev_eq, eqD])
    (fun k ds h hl => by
      have m := mod_nat (st.l / 2 ^ (k - 8)) 256 (by decide)
      rw [show nI 256 = .int 256 from rfl] at m
      simp only [ev_sseq, ev_saug, List.getElem?_cons_succ, List.getElem?_cons_zero, ev_strict, ev_ec, ev_onInts, ev_sub, sub8 k h, List.set_cons_succ, List.set_cons_zero, ev_sadd, ev_ebin, R.bind, ev_evar, ev_hideV, ev_hideO, ev_hide0, ev_look0, ev_lookS, ev_slook, shr_nat, m, ev_addOne, List.length_map, List.length_singleton]
      rw [if_pos (by omega)]
      simp)
    hs
  simp only [List.map_nil] at e
  simp [s_state_settled, b_state_settled, R.bind, hS, D.flats, el, e]
  rfl
theorem law_settled_eq (st : RS) (S : Store) (hS : Store.flat S = true) (o : Ok st) (hs : st.s ≤ 90000) : s__law_settled [stD st] S = .ok (tn (settled st)) S := by
  have hw := o.w
  have el : (st.l : Int) + (st.w : Int) - 1 = ((st.l + st.w - 1 : Nat) : Int) := by omega
  have eqD : ∀ a b : Nat, ((a : Int) == (b : Int)) = decide (a = b) := fun a b => by
    rw [Bool.eq_iff_iff, beq_iff_eq, decide_eq_true_eq]
    omega
  obtain ⟨k, e⟩ := settled_run (strict (band (tst (ebin opGe (evar 3) (ec (.int 8)))) (tst (ebin opEq (ebin opShr (evar 1) (ebin opSub (evar 3) (ec (.int 8)))) (ebin opShr (ebin opSub (ebin opAdd (evar 1) (evar 2)) (ec (.int 1))) (ebin opSub (evar 3) (ec (.int 8))))))))
    (sseq (sset 3 (strict (ebin opSub (evar 3) (ec (.int 8))))) (sadd 4 addOne (strict (ebin opAnd (ebin opShr (evar 1) (evar 3)) (ec (.int 255))))))
    st.l (st.l + st.w - 1) st.s (fun k ds => [.val (stD st), .val (nI st.l), .val (nI st.w), .val (nI k), .own (ds.map nI)]) S
    (fun k ds h => by
      have : ¬ (8 : Int) ≤ (k : Int) := by omega
      simp [R.bind, this])
    (fun k ds h => by
      have : (8 : Int) ≤ (k : Int) := by omega
      simp only [ev_strict, ev_band, ev_tst, ev_ebin, R.bind, ev_evar, ev_hideV, ev_hideO, ev_hide0, ev_look0, ev_lookS, ev_slook, ev_ec, ev_ge, decide_eq_true this, if_true, ev_sub, ev_add, el, sub8 k h, shr_nat, ev_eq, eqD])
    (fun k ds h hl => by
      have m := and_mask (st.l / 2 ^ (k - 8)) 8 255 (by decide)
      rw [show (2 : Nat) ^ 8 = 256 from rfl] at m
      simp only [ev_sseq, ev_sset, ev_strict, ev_ec, ev_sub, sub8 k h, List.set_cons_succ, List.set_cons_zero, ev_sadd, ev_ebin, R.bind, ev_evar, ev_hideV, ev_hideO, ev_hide0, ev_look0, ev_lookS, ev_slook, shr_nat, m, ev_addOne, List.length_map, List.length_singleton, List.getElem?_cons_succ, List.getElem?_cons_zero]
      rw [if_pos (by omega)]
      simp)
    hs
  simp only [List.map_nil] at e
  simp [s__law_settled, b__law_settled, R.bind, hS, D.flats, e]
  rfl
/-! ### the writer -/
abbrev wCell (xs : List Nat) (tr : RS) : Cell := ⟨2, [.val (tn xs), .val (stD tr)]⟩
theorem winit_eq (k : Nat) (S : Store) (h : S[k]? = some ⟨2, [.no, .no]⟩) : s_RangeWriter___init__ [.obj k] S = .ok .non (S.set k (wCell [] first)) := by
  have fs := first_eq (S.set k ⟨2, [.val (.tup []), .no]⟩)
  have h2 := set_at (y := ⟨2, [.val (.tup []), .no]⟩) h
  unfold s_RangeWriter___init__ b_RangeWriter___init__
  generalize s_first_state = F at fs ⊢
  simp [R.bind, free_at h, cput_at h, fs, free_at h2, cput_at h2]
  rfl
theorem put_eq (k : Nat) (xs : List Nat) (tr : RS) (t : Sp) (S : Store) (hS : Store.flat S = true) (h : S[k]? = some (wCell xs tr)) (o : Ok tr) (g : Good t) (hs : tr.s ≤ 80000) (hx : xs.length ≤ 1000000) :
    s_RangeWriter_put_step [.obj k, spD' t] S = .ok (tn (settled (cod tr t))) (S.set k (wCell (xs ++ settled (cod tr t)) (trim (cod tr t)))) := by
  have ok2 := cod_ok o g
  have sz := cod_size o g
  have C := coded_eq tr t S o g (by omega)
  have T := settled_eq (cod tr t) S hS ok2 (by omega)
  have len : 8 * (settled (cod tr t)).length ≤ (cod tr t).s := setl_len _ _ _ _
  have sb : ((cod tr t).s : Int) - 8 * ((settled (cod tr t)).length : Int) = ((trim (cod tr t)).s : Nat) := by
    show _ = (((cod tr t).s - 8 * (settled (cod tr t)).length : Nat) : Int)
    omega
  have m8 : ∀ z : Int, mulOk 8 z = true := fun z => mulOk_l _ _ (by decide)
  have sh1 := one_shl (trim (cod tr t)).s (by show (cod tr t).s - _ ≤ _; omega)
  have md := mod_nat (cod tr t).l (2 ^ (trim (cod tr t)).s) (Nat.two_pow_pos _)
  have tl : (cod tr t).l % 2 ^ (trim (cod tr t)).s = (trim (cod tr t)).l := rfl
  rw [tl] at md
  have tw : (cod tr t).w = (trim (cod tr t)).w := rfl
  generalize htr : trim (cod tr t) = tm at *
  generalize hst : settled (cod tr t) = ys at *
  have h2 := set_at (y := ⟨2, [.val (tn xs), .val (stD tm)]⟩) h
  unfold s_RangeWriter_put_step b_RangeWriter_put_step
  generalize s_coded_state = F at C ⊢
  generalize s_state_settled = Z at T ⊢
  have T' : Z [.tup [nI (cod tr t).l, nI tm.w, nI (cod tr t).s]] S = .ok (tn ys) S := by rw [← tw]; exact T
  have f1 : fldOf S 2 1 (.obj k) = some (stD tr) := fldOf_at h
  have f2 : fldOf (S.set k ⟨2, [.val (tn xs), .val (stD tm)]⟩) 2 0 (.obj k) = some (tn xs) := fldOf_at h2
  have fr : freeSlot S 2 k 1 = true := free_at h
  have fr2 : freeSlot (S.set k ⟨2, [.val (tn xs), .val (stD tm)]⟩) 2 k 0 = true := free_at h2
  have cp : cput S k 1 (.val (stD tm)) = S.set k ⟨2, [.val (tn xs), .val (stD tm)]⟩ := cput_at h
  have cp2 : ∀ d, cput (S.set k ⟨2, [.val (tn xs), .val (stD tm)]⟩) k 0 (.val d) = S.set k ⟨2, [.val d, .val (stD tm)]⟩ := fun d => by rw [cput_at h2, List.set_set]; rfl
  have ad : opAdd (tn xs) (tn ys) = some (tn (xs ++ ys)) := by
    show (if _ then _ else _) = _
    rw [if_pos (by simp; omega), ← List.map_append]
  simp only [ev_mkFn, List.length_cons, List.length_nil, Nat.zero_add, Nat.reduceAdd, if_true, List.map_cons, List.map_nil, List.replicate, List.cons_append, List.nil_append, Nat.reduceSub, ev_sseq, ev_sasg, ev_strict, ev_ecall, ev_econs, R.bind, ev_efld, ev_evar, ev_hideV, ev_hideN, ev_hide0, ev_look0, ev_lookS, ev_slook, f1, ev_enil, C, ev_putT, ev_putsC, ev_put, ev_puts0, List.set_cons_succ, List.set_cons_zero, Option.bind_some, ev_sset, ev_etup]
  rw [if_pos (show 3 ≤ 16777216 by decide)]
  simp only [tw, T', List.set_cons_succ, List.set_cons_zero, ev_saug, List.getElem?_cons_succ, List.getElem?_cons_zero, ev_strict, ev_ebin, R.bind, ev_ec, ev_elen, ev_evar, ev_hideV, ev_hideN, ev_hide0, ev_look0, ev_lookS, ev_slook, ev_deref_tup, ev_lenT, List.length_map, ev_mul, m8, if_true, ev_onInts, ev_sub, sb, ev_sfset, ev_etup, ev_econs, sh1, md, ev_enil, tw]
  rw [if_pos (show ([nI tm.l, nI tm.w, nI tm.s] : List D).length ≤ 16777216 from (show 3 ≤ 16777216 by decide))]
  simp only [fr, if_true, cp, ev_efld, ev_hideV, ev_hide0, ev_ebin, ev_look0, ev_lookS, ev_slook, f2, ad, fr2, cp2, R.bind, ev_sret, ev_evar]
theorem wcode_eq (k : Nat) (xs : List Nat) (tr : RS) (S : Store) (h : S[k]? = some (wCell xs tr)) (o : Ok tr) (hs : tr.s ≤ 80000) (hx : xs.length ≤ 100000) :
    s_RangeWriter_code_so_far [.obj k] S = .ok (.str (rs (bytesBits xs ++ code tr))) S := by
  have f0 : fldOf S 2 0 (.obj k) = some (tn xs) := fldOf_at h
  have f1 : fldOf S 2 1 (.obj k) = some (stD tr) := fldOf_at h
  have B := bits_of_eq xs S (by omega)
  have C := state_code_eq tr S o (by omega)
  have l1 : (bytesBits xs).length = 8 * xs.length := by
    unfold bytesBits
    rw [List.length_flatten, List.map_map]
    have : (List.length ∘ fun x => bitsOf x 8) = fun _ => 8 := funext fun x => bitsOf_len x 8
    rw [this, List.map_const', List.sum_replicate_nat]
    omega
  have l2 : (code tr).length ≤ 80000 := by unfold code; rw [bitsOf_len]; omega
  have ad : opAdd (.str (bytesBits xs)) (.str (code tr)) = some (.str (bytesBits xs ++ code tr)) := by
    show (if _ then _ else _) = _
    rw [if_pos (by omega)]
  have rt : fRstrip (bytesBits xs ++ code tr) (.str [48]) = some (.str (rs (bytesBits xs ++ code tr))) := by
    show (if _ then _ else _) = _
    rw [if_pos (by rw [List.length_append]; omega)]
    rfl
  unfold s_RangeWriter_code_so_far b_RangeWriter_code_so_far
  generalize s_bits_of = F at B ⊢
  generalize s_state_code = Z at C ⊢
  simp only [ev_mkFn, List.length_cons, List.length_nil, Nat.zero_add, if_true, List.map_cons, List.map_nil, List.replicate, List.cons_append, List.nil_append, ev_sret, ev_esm, ev_ebin, ev_ecall, ev_econs, R.bind, ev_efld, ev_evar, ev_look0, ev_slook, f0, ev_enil, B, f1, C, ad, ev_ec, rt]
end DL

end
section
set_option maxRecDepth 100000
set_option maxHeartbeats 1000000
namespace DL
open RC
theorem sum_nats (xs : List Nat) : fSum [.tup (xs.map nI)] = some (nI xs.sum) := by
  rw [nats_ints, ev_sumT]
  congr 2
  induction xs with
  | nil => rfl
  | cons x r ih => rw [List.map_cons, List.sum_cons, List.sum_cons, ih]; omega
abbrev stepOf (c : List Nat) (j : Nat) : Sp := ⟨(c.take j).sum, c.getD j 0, c.sum⟩
theorem tally_step_eq (c : List Nat) (j : Nat) (S : Store) (h : j < c.length) : s_tally_step [tn c, nI j] S = .ok (spD' (stepOf c j)) S := by
  have cu : cutL (c.map nI) none (some (j : Int)) = (c.take j).map nI := by rw [cut_take, List.map_take]
  have s1 := sum_nats (c.take j)
  have s2 := sum_nats c
  have e : opIx (tn c) (nI j) = some (nI (c.getD j 0)) := by rw [ix_tup]; simp [h]
  simp only [s_tally_step, b_tally_step, ev_mkFn, List.length_cons, List.length_nil, Nat.zero_add, if_true, List.map_cons, List.map_nil, List.replicate, List.cons_append, List.nil_append, ev_sret, ev_etup, ev_econs, ev_ecal, ev_ecut, ev_evar, R.bind, ev_look0, ev_lookS, ev_slook, ev_onone, ev_osome, ev_cutT, cu, ev_enil, s1, ev_eix, ev_deref_tup, e, s2]
  rw [if_pos (show 3 ≤ 16777216 by decide)]
theorem take_succ_sum (c : List Nat) (i : Nat) (h : i < c.length) : (c.take (i + 1)).sum = (c.take i).sum + c.getD i 0 := by
  rw [List.take_succ, List.sum_append, List.getD_eq_getElem?_getD, List.getElem?_eq_getElem h]
  simp
theorem take_sum_le (c : List Nat) : ∀ (j i : Nat), i ≤ j → (c.take i).sum ≤ (c.take j).sum
  | 0, i, h => by rw [Nat.le_zero.mp h]; exact Nat.le_refl _
  | j + 1, i, h => by
    rcases Nat.lt_or_eq_of_le h with q | q
    · refine Nat.le_trans (take_sum_le c j i (by omega)) ?_
      rcases Nat.lt_or_ge j c.length with z | z
      · rw [take_succ_sum c j z]; omega
      · rw [List.take_of_length_le z, List.take_of_length_le (by omega)]; exact Nat.le_refl _
    · rw [q]; exact Nat.le_refl _
theorem symbol_eq (c : List Nat) (at_ j : Nat) (S : Store) (h : j < c.length) (h1 : (c.take j).sum ≤ at_) (h2 : at_ < (c.take j).sum + c.getD j 0) (hc : c.length ≤ 100000) : s_tally_symbol [tn c, nI at_] S = .ok (nI j) S := by
  have ix : ∀ i, i < c.length → opIx (tn c) (nI i) = some (nI (c.getD i 0)) := fun i hi => by rw [ix_tup]; simp [hi]
  obtain ⟨G1, S1, e1, e2, i, e3, e4, e5⟩ := runWhile_run (c := strict (tst (ebin opGe (evar 1) (eix (evar 0) (evar 2))))) (u := sseq (saug 1 (onInts opSub) (strict (eix (evar 0) (evar 2)))) (saug 2 (onInts opAdd) (strict (ec (.int 1)))))
    (fun m G S' => S' = S ∧ ∃ i : Nat, G = [.val (tn c), .val (nI (at_ - (c.take i).sum)), .val (nI i)] ∧ i + m = j ∧ i ≤ j)
    (fun G S' ⟨a1, i, a2, a3, a4⟩ => by
      subst a1 a2
      rw [Nat.add_zero] at a3
      subst a3
      have : ¬ ((c.getD i 0 : Nat) : Int) ≤ ((at_ - (c.take i).sum : Nat) : Int) := by omega
      simp only [ev_strict, ev_tst, ev_ebin, R.bind, ev_evar, ev_hideV, ev_hide0, ev_look0, ev_lookS, ev_slook, ev_eix, ev_deref_tup, ix i h, ev_ge, decide_eq_false this])
    (fun m G S' ⟨a1, i, a2, a3, a4⟩ => by
      subst a1 a2
      have hi : i < c.length := by omega
      have t := take_succ_sum c i hi
      have le := take_sum_le c j (i + 1) (by omega)
      have : ((c.getD i 0 : Nat) : Int) ≤ ((at_ - (c.take i).sum : Nat) : Int) := by omega
      refine ⟨[.val (tn c), .val (nI (at_ - (c.take (i + 1)).sum)), .val (nI (i + 1))], _, ?_, ?_, rfl, i + 1, rfl, by omega, by omega⟩
      · simp only [ev_strict, ev_tst, ev_ebin, R.bind, ev_evar, ev_hideV, ev_hide0, ev_look0, ev_lookS, ev_slook, ev_eix, ev_deref_tup, ix i hi, ev_ge, decide_eq_true this]
      · have e : ((at_ - (c.take i).sum : Nat) : Int) - ((c.getD i 0 : Nat) : Int) = ((at_ - (c.take (i + 1)).sum : Nat) : Int) := by omega
        simp only [ev_sseq, ev_saug, List.getElem?_cons_succ, List.getElem?_cons_zero, ev_strict, ev_eix, R.bind, ev_evar, ev_hideV, ev_hide0, ev_look0, ev_lookS, ev_slook, ev_deref_tup, ix i hi, ev_onInts, ev_sub, e, List.set_cons_succ, List.set_cons_zero, ev_ec, ev_add]
        rfl)
    j FUEL [.val (tn c), .val (nI at_), .val (.int 0)] S (Nat.lt_of_lt_of_le (by omega) fuel_big) ⟨rfl, 0, rfl, by omega, Nat.zero_le _⟩
  subst e2 e3
  rw [Nat.add_zero] at e4
  subst e4
  simp [s_tally_symbol, b_tally_symbol, R.bind, e1]
/-! ### the reader -/
abbrev rCell (x : List Nat) (st : RS) : Cell := ⟨3, [.val (.str x), .val (stD st)]⟩
theorem bitsNum_valB (x : List Nat) : bitsNum x = valB x := rfl
theorem place_eq (k : Nat) (x : List Nat) (st : RS) (T : Nat) (S : Store) (h : S[k]? = some (rCell x st)) (o : Ok st) (hs : st.s ≤ 640) (hx : ∀ c ∈ x, c = 48 ∨ c = 49) (hxl : x.length ≤ 100000) (hT0 : 1 ≤ T) (hT : T ≤ 4096)
    (h1 : st.l ≤ valB (padded x st.s)) (h2 : (valB (padded x st.s) - st.l) / (st.w / T) < T) :
    s_RangeReader_found_place [.obj k, nI T] S = .ok (nI ((valB (padded x st.s) - st.l) / (st.w / T))) S := by
  have hw := o.w
  have hle := o.le
  have f0 : fldOf S 3 0 (.obj k) = some (.str x) := fldOf_at h
  have f1 : fldOf S 3 1 (.obj k) = some (stD st) := fldOf_at h
  have s1 : 1 ≤ st.s := by
    rcases Nat.eq_zero_or_pos st.s with q | q
    · rw [q, Nat.pow_zero] at hle; omega
    · exact q
  have tl : (x.take st.s).length ≤ st.s := by rw [List.length_take]; omega
  have cu : D.cut none (some (st.s : Int)) (.str x) = some (.str (x.take st.s)) := by
    rw [cut_str _ _ (by omega), cut_take]
  have ln : fLen [.str (x.take st.s)] = some (.int ((x.take st.s).length : Nat)) := by
    exact len_str _ (by omega)
  have rp : opMul (.str [48]) (.int ((st.s : Int) - ((x.take st.s).length : Nat))) = some (.str (List.replicate (st.s - (x.take st.s).length) 48)) := by
    show (if _ then _ else _) = _
    rw [if_pos ⟨by omega, by simp only [List.length_cons, List.length_nil]; omega⟩]
    congr 2
    have : ((st.s : Int) - ((x.take st.s).length : Nat)).toNat = st.s - (x.take st.s).length := by omega
    rw [this]
    unfold repS
    induction st.s - (x.take st.s).length with
    | zero => rfl
    | succ n ih => rw [List.replicate_succ, List.flatten_cons, ih, List.replicate_succ]; rfl
  have pl : (padded x st.s).length = st.s := by unfold padded; rw [List.length_append, List.length_replicate]; omega
  have ad : opAdd (.str (x.take st.s)) (.str (List.replicate (st.s - (x.take st.s).length) 48)) = some (.str (padded x st.s)) := by
    show (if _ then _ else _) = _
    rw [if_pos (by rw [List.length_replicate]; omega)]
    rfl
  have bits : isBits (padded x st.s) = true := by
    refine List.all_eq_true.mpr fun c hc => ?_
    unfold padded at hc
    have : c = 48 ∨ c = 49 := by
      rcases List.mem_append.mp hc with q | q
      · exact hx c (List.mem_of_mem_take q)
      · exact .inl (List.eq_of_mem_replicate q)
    rcases this with q | q <;> rw [q] <;> rfl
  have it : fInt [.str (padded x st.s), .int 2] = some (nI (valB (padded x st.s))) := by
    unfold fInt
    dsimp only
    rw [if_pos ⟨rfl, fun z => by rw [z] at pl; simp at pl; omega, by rw [pl]; exact hs, bits⟩, bitsNum_valB]
  have u0 : 0 < st.w / T := Nat.div_pos (by omega) hT0
  have lw : st.w.log2 < 9000 := Nat.lt_trans (log2_of _ (st.s + 1) (by rw [Nat.pow_succ]; have := Nat.two_pow_pos st.s; omega) (by omega)) (by omega)
  have lu : (st.w / T).log2 < 9000 := Nat.lt_trans (log2_of _ (st.s + 1) (by have := Nat.div_le_self st.w T; rw [Nat.pow_succ]; have := Nat.two_pow_pos st.s; omega) (by omega)) (by omega)
  have lT : T.log2 < 9000 := Nat.lt_trans (log2_of T 13 (by omega) (by decide)) (by decide)
  have d1 := div_nat st.w T hT0 lT
  have d2 := div_nat (valB (padded x st.s) - st.l) (st.w / T) u0 lu
  have sb : ((valB (padded x st.s) : Nat) : Int) - (st.l : Int) = ((valB (padded x st.s) - st.l : Nat) : Int) := by omega
  generalize (valB (padded x st.s) - st.l) / (st.w / T) = at_ at *
  have c : ¬ ((T : Int) ≤ (at_ : Int)) := by omega
  unfold s_RangeReader_found_place b_RangeReader_found_place
  simp only [ev_mkFn, List.length_cons, List.length_nil, Nat.zero_add, Nat.reduceAdd, if_true, List.map_cons, List.map_nil, List.replicate, List.cons_append, List.nil_append, Nat.reduceSub, ev_sseq, ev_sasg, ev_strict, R.bind, ev_efld, ev_evar, ev_hideV, ev_hideN, ev_hide0, ev_look0, ev_lookS, ev_slook, f1, ev_putT, ev_putsC, ev_put, ev_puts0, List.set_cons_succ, List.set_cons_zero, Option.bind_some, ev_sset, ev_ecut, f0, ev_onone, ev_osome, cu]
  simp only [ev_sset, ev_strict, ev_ebin, ev_ecal, ev_econs, R.bind, ev_evar, ev_hideV, ev_hideN, ev_hide0, ev_look0, ev_lookS, ev_slook, ev_ec, ev_elen, deref, ln, ev_sub, rp, ad, ev_enil, it, sb, d1, d2, List.set_cons_succ, List.set_cons_zero, ev_sif, ev_tst, ev_ge, decide_eq_false c, ev_snx, ev_sret]
theorem find_symbol_eq (k : Nat) (x : List Nat) (st : RS) (c : List Nat) (j : Nat) (S : Store) (hS : Store.flat S = true) (h : S[k]? = some (rCell x st)) (o : Ok st) (hs : st.s ≤ 640) (hx : ∀ c ∈ x, c = 48 ∨ c = 49) (hxl : x.length ≤ 100000) (hj : j < c.length) (hcl : c.length ≤ 1000) (g : Good (stepOf c j))
    (h1 : st.l ≤ valB (padded x st.s)) (h3 : (stepOf c j).a ≤ (valB (padded x st.s) - st.l) / (st.w / c.sum)) (h4 : (valB (padded x st.s) - st.l) / (st.w / c.sum) < (stepOf c j).a + (stepOf c j).b) :
    s_RangeReader_find_symbol [.obj k, tn c] S = .ok (nI j) (S.set k (rCell x (cod st (stepOf c j)))) := by
  have ab := g.ab
  have b1 := g.b
  have hT := g.T
  have ab' : (stepOf c j).a + (stepOf c j).b ≤ c.sum := ab
  have P := place_eq k x st c.sum S h o hs hx hxl (by omega) hT h1 (by omega)
  have Y := symbol_eq c _ j S hj h3 h4 (by omega)
  have Tt := tally_step_eq c j S hj
  have C := coded_eq st (stepOf c j) S o g (by omega)
  have sm := sum_nats c
  have f1 : fldOf S 3 1 (.obj k) = some (stD st) := fldOf_at h
  have fr : freeSlot S 3 k 1 = true := free_at h
  have cp : ∀ d, cput S k 1 (.val d) = S.set k ⟨3, [.val (.str x), .val d]⟩ := fun d => cput_at h
  have cl := clsOf_at h
  unfold s_RangeReader_find_symbol b_RangeReader_find_symbol
  generalize s_RangeReader_found_place = F1 at P ⊢
  generalize s_tally_symbol = F2 at Y ⊢
  generalize s_tally_step = F3 at Tt ⊢
  generalize s_coded_state = F4 at C ⊢
  simp only [ev_mkFn, List.length_cons, List.length_nil, Nat.zero_add, Nat.reduceAdd, if_true, List.map_cons, List.map_nil, List.replicate, List.cons_append, List.nil_append, Nat.reduceSub, ev_sseq, ev_sset, ev_strict, ev_ecall, ev_econs, R.bind, ev_evar, ev_hideV, ev_hideN, ev_hide0, ev_look0, ev_lookS, ev_slook, ev_emeth, cl, ev_ecal, ev_enil, sm, P, Y, List.set_cons_succ, List.set_cons_zero, ev_sfset, ev_efld, f1, Tt, C, fr, cp, ev_sret]
theorem find_figures_eq (k : Nat) (x : List Nat) (st : RS) (n v : Nat) (S : Store) (hS : Store.flat S = true) (h : S[k]? = some (rCell x st)) (o : Ok st) (hs : st.s ≤ 640) (hx : ∀ c ∈ x, c = 48 ∨ c = 49) (hxl : x.length ≤ 100000) (hn : n ≤ 12) (hv : v < 2 ^ n)
    (h1 : st.l ≤ valB (padded x st.s)) (h2 : (valB (padded x st.s) - st.l) / (st.w / 2 ^ n) = v) :
    s_RangeReader_find_figures [.obj k, nI n] S = .ok (nI v) (S.set k (rCell x (cod st ⟨v, 1, 2 ^ n⟩))) := by
  have p12 : 2 ^ n ≤ 2 ^ 12 := Nat.pow_le_pow_right (by decide) hn
  have P := place_eq k x st (2 ^ n) S h o hs hx hxl (Nat.two_pow_pos n) p12 h1 (by omega)
  rw [h2] at P
  have C := coded_eq st ⟨v, 1, 2 ^ n⟩ S o ⟨Nat.le_refl _, by show v + 1 ≤ 2 ^ n; omega, p12⟩ (by omega)
  have f1 : fldOf S 3 1 (.obj k) = some (stD st) := fldOf_at h
  have fr : freeSlot S 3 k 1 = true := free_at h
  have cp : ∀ d, cput S k 1 (.val d) = S.set k ⟨3, [.val (.str x), .val d]⟩ := fun d => cput_at h
  have cl := clsOf_at h
  have os := one_shl n (by omega)
  unfold s_RangeReader_find_figures b_RangeReader_find_figures
  generalize s_RangeReader_found_place = F1 at P ⊢
  generalize s_coded_state = F4 at C ⊢
  simp only [ev_mkFn, List.length_cons, List.length_nil, Nat.zero_add, Nat.reduceAdd, if_true, List.map_cons, List.map_nil, List.replicate, List.cons_append, List.nil_append, Nat.reduceSub, ev_sseq, ev_sset, ev_strict, ev_econs, R.bind, ev_evar, ev_hideV, ev_hideN, ev_hide0, ev_look0, ev_lookS, ev_slook, ev_emeth, cl, ev_ebin, ev_ec, os, ev_enil, P, List.set_cons_succ, List.set_cons_zero, ev_sfset, ev_efld, f1, ev_ecall, ev_etup]
  rw [if_pos (show 3 ≤ 16777216 by decide)]
  have C' : F4 [stD st, .tup [nI v, .int 1, nI (2 ^ n)]] S = .ok (stD (cod st ⟨v, 1, 2 ^ n⟩)) S := C
  simp only [C', fr, if_true, cp, ev_sret, R.bind, ev_evar, ev_look0, ev_lookS, ev_slook]
theorem rinit_eq (k : Nat) (x : List Nat) (S : Store) (h : S[k]? = some ⟨3, [.no, .no]⟩) : s_RangeReader___init__ [.obj k, .str x] S = .ok .non (S.set k (rCell x first)) := by
  have fs := first_eq (S.set k ⟨3, [.val (.str x), .no]⟩)
  have h2 := set_at (y := ⟨3, [.val (.str x), .no]⟩) h
  unfold s_RangeReader___init__ b_RangeReader___init__
  generalize s_first_state = F at fs ⊢
  simp [R.bind, free_at h, cput_at h, fs, free_at h2, cput_at h2]
theorem ended_eq (k : Nat) (x : List Nat) (st : RS) (S : Store) (h : S[k]? = some (rCell x st)) (o : Ok st) (hs : st.s ≤ 80000) : s_RangeReader_is_ended [.obj k] S = .ok (.bl (code st == x)) S := by
  have C := state_code_eq st S o (by omega)
  have f0 : fldOf S 3 0 (.obj k) = some (.str x) := fldOf_at h
  have f1 : fldOf S 3 1 (.obj k) = some (stD st) := fldOf_at h
  unfold s_RangeReader_is_ended b_RangeReader_is_ended
  generalize s_state_code = F at C ⊢
  simp [R.bind, f1, f0, C, eq_str]
end DL

end
section
set_option maxRecDepth 100000
set_option maxHeartbeats 1000000
namespace DL
open RC
theorem number_eq (x : List Nat) (S : Store) (hx : ∀ c ∈ x, c = 48 ∨ c = 49) : s__law_number [.str x] S = .ok (nI (valB x)) S := by
  have snoc : ∀ (y : List Nat) (c : Nat), valB (y ++ [c]) = valB y * 2 + (c - 48) := fun y c => by unfold valB; rw [List.foldl_append]; rfl
  obtain ⟨G', S', e, h1, s2, h2⟩ := runFor_run (g := .nm 2) (u := sset 1 (strict (ebin opAdd (ebin opMul (ec (.int 2)) (evar 1)) (eite (tst (ebin opEq (evar 2) (ec (.str [49])))) (ec (.int 1)) (ec (.int 0)))))) (fun c => D.str [c]) x
    (fun done G S' => S' = S ∧ ∃ s2, G = [.val (.str x), .val (nI (valB done)), s2]) (G := [.val (.str x), .val (.int 0), .no]) (S := S) ⟨rfl, .no, rfl⟩
    (fun done c rest G S' hd ⟨a1, s2, a2⟩ => by
      subst a1 a2
      have hc : c ∈ x := by rw [← hd]; simp
      have m2 : ∀ z : Int, mulOk 2 z = true := fun z => mulOk_l _ _ (by decide)
      refine ⟨_, _, _, rfl, .inl ?_, rfl, .val (.str [c]), rfl⟩
      rw [snoc]
      rcases hx c hc with q | q <;> subst q
      · simp [R.bind, m2, eq_str]; omega
      · simp [R.bind, m2, eq_str]; omega)
  subst h1 h2
  simp [s__law_number, b__law_number, R.bind, e]
theorem bytesN_map (v j : Nat) : bytesN v j = (List.range j).map fun i => v / 256 ^ (j - 1 - i) % 256 := by
  refine List.ext_getElem (by simp [bytesN_len]) fun i h1 h2 => ?_
  rw [bytesN_len] at h1
  rw [List.getElem_map, List.getElem_range]
  have key : ∀ (j i : Nat) (h : i < (bytesN v j).length), (bytesN v j)[i] = v / 256 ^ (j - 1 - i) % 256 := by
    intro j
    induction j with
    | zero => intro i h; exact absurd h (Nat.not_lt_zero _)
    | succ j ih =>
      intro i h
      cases i with
      | zero => rfl
      | succ i =>
        have h' : i < (bytesN v j).length := Nat.lt_of_succ_lt_succ h
        show (bytesN v j)[i] = _
        rw [ih i h']
        congr 3
        omega
  exact key j i _
theorem bytes_in_eq (p m : Nat) (S : Store) (hm : m ≤ 100000) : s__law_bytes_in [.str (bitsOf p m)] S = .ok (tn (bytesN (p / 2 ^ (m % 8)) (m / 8))) S := by
  have ln : fLen [.str (bitsOf p m)] = some (nI m) := by rw [len_str _ (by rw [bitsOf_len]; omega), bitsOf_len]
  have d8 := div_nat m 8 (by decide) (by decide)
  rw [show nI 8 = .int 8 from rfl] at d8
  have rg : ∀ G, G = [.val (.str (bitsOf p m)), .no] → irng1 (econs (ebin opDiv (elen (evar 0)) (ec (.int 8))) enil) G S = .ok ((List.range (m / 8)).map nI) S := fun G e => irng1_nat (by
    subst e
    simp only [ev_econs, ev_ebin, R.bind, ev_elen, ev_evar, ev_look0, ev_slook, deref, ln, ev_ec, d8, ev_enil]) (by omega)
  have m8 : ∀ z : Int, mulOk 8 z = true := fun z => mulOk_l _ _ (by decide)
  have lc : runLc (.nm 1) tyes (ecall s__law_number (econs (ecut (evar 0) (osome (ebin opMul (ec (.int 8)) (evar 1))) (osome (ebin opAdd (ebin opMul (ec (.int 8)) (evar 1)) (ec (.int 8))))) enil)) [.val (.str (bitsOf p m)), .no] ((List.range (m / 8)).map nI) S
      = .ok ((bytesN (p / 2 ^ (m % 8)) (m / 8)).map nI) S := by
    rw [runLc_to nI (fun i => nI (p / 2 ^ (m % 8) / 256 ^ (m / 8 - 1 - i) % 256)) _ fun i hi => ⟨_, rfl, ?_⟩]
    · rw [bytesN_map, List.map_map]; rfl
    · have hi := List.mem_range.mp hi
      have e1 : (8 : Int) * (i : Int) = ((8 * i : Nat) : Int) := by omega
      have e2 : ((8 * i : Nat) : Int) + 8 = ((8 * i + 8 : Nat) : Int) := by omega
      have hsp : m = (8 * i) + ((m - 8 * i)) := by omega
      have app := bitsOf_app p (m - 8 * i) (8 * i)
      rw [show 8 * i + (m - 8 * i) = m by omega] at app
      have cu : D.cut (some ((8 * i : Nat) : Int)) (some ((8 * i + 8 : Nat) : Int)) (.str (bitsOf p m)) = some (.str (bitsOf (p / 2 ^ (m - 8 * i - 8)) 8)) := by
        rw [cut_str _ _ (by rw [bitsOf_len]; omega), cut_mid' _ _ _ (by omega) (by rw [bitsOf_len]; omega), app, List.drop_append_of_le_length (by rw [bitsOf_len]; exact Nat.le_refl _), List.drop_of_length_le (by rw [bitsOf_len]; exact Nat.le_refl _), List.nil_append, show 8 * i + 8 - 8 * i = 8 by omega, bitsOf_take _ _ _ (by omega)]
      have nb := number_eq (bitsOf (p / 2 ^ (m - 8 * i - 8)) 8) S fun c hc => bitsOf_bit hc
      rw [valB_bits] at nb
      have ex : p / 2 ^ (m - 8 * i - 8) = p / 2 ^ (m % 8) / 256 ^ (m / 8 - 1 - i) := by
        rw [Nat.div_div_eq_div_mul, p256, ← Nat.pow_add]
        congr 2
        omega
      rw [ex] at nb cu
      generalize s__law_number = F at nb ⊢
      simp only [ev_ecall, ev_econs, R.bind, ev_ecut, ev_evar, List.set_cons_succ, List.set_cons_zero, ev_look0, ev_lookS, ev_slook, ev_osome, ev_ebin, ev_ec, ev_mul, m8, if_true, e1, ev_add, e2, cu, ev_enil, nb]
  simp only [s__law_bytes_in, b__law_bytes_in, ev_mkFn, List.length_cons, List.length_nil, Nat.zero_add, if_true, List.map_cons, List.map_nil, List.replicate, List.cons_append, List.nil_append, Nat.reduceSub, ev_sret, ev_ecal, ev_econs, R.bind, ev_elc, rg _ rfl, wipeG, List.foldl, List.set_cons_succ, List.set_cons_zero, lc, List.length_map, List.length_range]
  rw [if_pos (by omega)]
  rfl
/-! ### by hand -/
theorem bits_lo (n : Nat) : bitsOf (2 ^ n - 1) (n + 1) = 48 :: List.replicate n 49 := by
  have p := Nat.two_pow_pos n
  rw [bitsOf_succ, Nat.div_eq_of_lt (show 2 ^ n - 1 < 2 ^ n by omega)]
  congr 1
  have key : ∀ (k m : Nat), k ≤ m → bitsOf (2 ^ m - 1) k = List.replicate k 49 := by
    intro k
    induction k with
    | zero => intro m _; rfl
    | succ k ih =>
      intro m h
      rw [bitsOf_succ, ih m (by omega), List.replicate_succ]
      congr 1
      have e : (2 ^ m - 1) / 2 ^ k = 2 ^ (m - k) - 1 := by
        have pk := Nat.two_pow_pos k
        have e2 : 2 ^ m - 1 = 2 ^ k * (2 ^ (m - k) - 1) + (2 ^ k - 1) := by
          have pm := Nat.two_pow_pos (m - k)
          rw [Nat.mul_sub, ← Nat.pow_add, Nat.add_sub_cancel' (by omega), Nat.mul_one]
          have : 2 ^ k ≤ 2 ^ m := Nat.pow_le_pow_right (by decide) (by omega)
          omega
        rw [e2, Nat.mul_add_div pk, Nat.div_eq_of_lt (show 2 ^ k - 1 < 2 ^ k by omega), Nat.add_zero]
      rw [e]
      have : ∃ d, 2 ^ (m - k) = 2 * d ∧ 0 < d := ⟨2 ^ (m - k - 1), by rw [← Nat.pow_succ']; congr 1; omega, Nat.two_pow_pos _⟩
      obtain ⟨d, hd, hd0⟩ := this
      rw [if_pos (by omega)]
  exact key n n (Nat.le_refl _)
theorem bits_hi (n : Nat) : bitsOf (2 ^ n) (n + 1) = 49 :: List.replicate n 48 := by
  have p := Nat.two_pow_pos n
  rw [bitsOf_succ, Nat.div_self p]
  congr 1
  rw [bitsOf_congr (u := 2 ^ n) (v := 0) n (by rw [Nat.mod_self, Nat.zero_mod]), bitsOf_nil]
theorem trim_nil {st : RS} (o : Ok st) (h : settled st = []) : trim st = st := by
  have hle := o.le
  have hw := o.w
  unfold trim
  rw [h, List.length_nil, Nat.mul_zero, Nat.sub_zero, Nat.mod_eq_of_lt (by omega)]
theorem Tr.refl {st : RS} (o : Ok st) : Tr [] st st := ⟨(fun x hx => nomatch hx), by rw [show num [] = 0 from rfl, Nat.zero_mul, Nat.zero_add], rfl, rfl, o.le, o.w⟩
theorem run_app (st : RS) (xs ys : List Sp) : run st (xs ++ ys) = run (run st xs) ys := List.foldl_append
theorem code_of_eq (ts : List Sp) (S : Store) (h : ∀ t ∈ ts, Good t) (hl : ts.length ≤ 1000) : s_code_of_steps [.tup (ts.map spD')] S = .ok (.str (code (run first ts))) S := by
  have st := state_eq ts S h (by omega)
  have sz := run_size ts first first_ok h
  have C := state_code_eq (run first ts) S (run_ok ts first first_ok h) (by have : first.s = 32 := rfl; omega)
  unfold s_code_of_steps b_code_of_steps
  generalize s_state_of_steps = F at st ⊢
  generalize s_state_code = Z at C ⊢
  simp [R.bind, st, C]
theorem settled_of_eq (ts : List Sp) (S : Store) (hS : Store.flat S = true) (h : ∀ t ∈ ts, Good t) (hl : ts.length ≤ 1000) : s_settled_bytes [.tup (ts.map spD')] S = .ok (tn (settled (run first ts))) S := by
  have st := state_eq ts S h (by omega)
  have sz := run_size ts first first_ok h
  have C := settled_eq (run first ts) S hS (run_ok ts first first_ok h) (by have : first.s = 32 := rfl; omega)
  unfold s_settled_bytes b_settled_bytes
  generalize s_state_of_steps = F at st ⊢
  generalize s_state_settled = Z at C ⊢
  simp [R.bind, st, C]
theorem code_length_eq (ts : List Sp) (S : Store) (h : ∀ t ∈ ts, Good t) (hl : ts.length ≤ 1000) : s_code_length [.tup (ts.map spD')] S = .ok (nI (code (run first ts)).length) S := by
  have st := state_eq ts S h (by omega)
  have sz := run_size ts first first_ok h
  have C := figures_eq (run first ts) S (run_ok ts first first_ok h) (by have : first.s = 32 := rfl; omega)
  have hle := fig_le (run first ts)
  have e : opSub (nI (run first ts).s) (nI (fig (run first ts))) = some (nI (code (run first ts)).length) := by
    unfold code
    rw [bitsOf_len, ev_sub]
    congr 2
    omega
  have ix : opIx (stD (run first ts)) (.int 2) = some (nI (run first ts).s) := rfl
  unfold s_code_length b_code_length
  generalize s_state_of_steps = F at st ⊢
  generalize s_free_figures = Z at C ⊢
  simp [R.bind, st, C, ix, e, -ev_sub]
theorem new_writer (S : Store) (G : Env) (hS : Store.flat S = true) : enew 2 2 s_RangeWriter___init__ enil G S = .ok (.obj S.length) (S ++ [wCell [] first]) := by
  have e := winit_eq S.length (S ++ [(⟨2, [.no, .no]⟩ : Cell)]) (new_at S _)
  have e2 : (S ++ [(⟨2, [.no, .no]⟩ : Cell)]).set S.length (wCell [] first) = S ++ [wCell [] first] := by simp
  rw [e2] at e
  generalize s_RangeWriter___init__ = F at e ⊢
  simp only [ev_enew, ev_enil, R.bind, List.replicate]
  rw [e]
theorem flat_w (xs : List Nat) (tr : RS) : (wCell xs tr).fs.all Slot.flat = true := by
  show (D.flats (xs.map nI) && _) = true
  rw [flats_nats]
  rfl
end DL

end
section
set_option maxRecDepth 100000
set_option maxHeartbeats 1000000
namespace DL
open RC
abbrev wt : Sp := ⟨1, 2, 4⟩
theorem wt_good : Good wt := ⟨by decide, by decide, by decide⟩
theorem run_half : ∀ n, ∃ r, 24 ≤ r ∧ r ≤ 32 ∧ run first (List.replicate n wt) = half n r
  | 0 => ⟨32, by decide, by decide, rfl⟩
  | n + 1 => by
    obtain ⟨r, h1, h2, h3⟩ := run_half n
    obtain ⟨r', g1, g2, g3⟩ := half_cod (n := n) h1 h2
    refine ⟨r', g1, g2, ?_⟩
    rw [List.replicate_succ', run_app, h3]
    exact g3
theorem plain_tn (xs : List Nat) (h : xs.length ≤ 16777216) : D.plain 7 (tn xs) = true := plain_nats xs h
theorem tup_rep (n : Nat) (h : n ≤ 1000) : opMul (.tup [.tup [.int 1, .int 2, .int 4]]) (nI n) = some (.tup ((List.replicate n wt).map spD')) := by
  rw [mul_tup1 _ _ h, List.map_replicate]
  rfl
theorem waits_eq (n side : Nat) (S : Store) (hS : Store.flat S = true) (h1 : 1 ≤ n) (h2 : n ≤ 60) (hs : side = 0 ∨ side = 1) : ∃ S', s__law_waits [nI n, nI side] S = .ok (.bl true) S' ∧ Store.flat S' = true := by
  refine Fin.fn rfl ?_
  unfold b__law_waits
  show Fin _ [.val (nI n), .val (nI side), .no, .no, .no, .no, .no, .no, .no] S _
  generalize hk : S.length = k
  have nw := new_writer S
  rw [hk] at nw
  have at0 : (S ++ [wCell [] first])[k]? = some (wCell [] first) := by rw [← hk]; exact new_at S _
  have fl0 : Store.flat (S ++ [wCell [] first]) = true := flat_new hS (flat_w _ _)
  refine Fin.seq (G1 := [.val (nI n), .val (nI side), .val (.obj k), .no, .no, .no, .no, .no, .no]) (S1 := S ++ [wCell [] first]) (by simp only [ev_sset, ev_strict, nw _ hS, List.set_cons_succ, List.set_cons_zero]) ?_
  generalize S ++ [wCell [] first] = S0 at at0 fl0 nw
  refine Fin.seq (G1 := [.val (nI n), .val (nI side), .val (.obj k), .val (.tup ((List.replicate n wt).map spD')), .no, .no, .no, .no, .no]) (S1 := S0) (by
    simp only [ev_sset, ev_strict, ev_ebin, ev_etup, ev_econs, ev_ec, R.bind, ev_enil, List.length_cons, List.length_nil, Nat.zero_add, Nat.reduceAdd, Nat.reduceLeDiff, if_true, ev_evar, ev_hideV, ev_hideN, ev_hide0, ev_look0, ev_slook, tup_rep n (by omega), List.set_cons_succ, List.set_cons_zero]) ?_
  refine Fin.range n (fun i G S' => (∃ s4, G = [.val (nI n), .val (nI side), .val (.obj k), .val (.tup ((List.replicate n wt).map spD')), s4, .no, .no, .no, .no]) ∧ Store.flat S' = true ∧ S'[k]? = some (wCell [] (run first (List.replicate i wt))))
    (irng1_nat (by simp only [ev_econs, ev_evar, R.bind, ev_enil, ev_hideV, ev_look0, ev_slook]) (by omega)) ⟨⟨.no, rfl⟩, fl0, at0⟩ (fun i G S' hi ⟨⟨s4, e⟩, fl, at_⟩ => ?_) fun G S' ⟨⟨s4, e⟩, fl, at_⟩ => ?_
  · subst e
    obtain ⟨r, r1, r2, r3⟩ := run_half i
    obtain ⟨r', q1, q2, q3⟩ := run_half (i + 1)
    have cd1 : cod (half i r) wt = half (i + 1) r' := by
      rw [← q3, List.replicate_succ', run_app, r3]
      rfl
    rw [r3] at at_
    have P := put_eq k [] (half i r) wt S' fl at_ (half_ok r1) wt_good (by show i + r ≤ _; omega) (by simp)
    rw [cd1, half_settled q1, trim_nil (half_ok q1) (half_settled q1), List.append_nil] at P
    have at2 := set_at (y := wCell [] (half (i + 1) r')) at_
    have fl2 := flat_set (k := k) fl (flat_w [] (half (i + 1) r'))
    have C := wcode_eq k [] (half (i + 1) r') _ at2 (half_ok q1) (by show i + 1 + r' ≤ _; omega) (by simp)
    rw [half_code q1 (by omega)] at C
    have cl := clsOf_at at_
    have cl2 := clsOf_at at2
    refine ⟨_, _, _, rfl, .inl (skip_if (S1 := S'.set k (wCell [] (half (i + 1) r'))) ?_), ⟨.val (nI i), rfl⟩, fl2, by rw [at2, q3]⟩
    show bor _ _ _ _ = _
    refine or_no (not_is1 (d := .tup []) (S1 := S'.set k (wCell [] (half (i + 1) r'))) ?_ ?_ rfl) (not_is1 (d := .str [49]) (S1 := S'.set k (wCell [] (half (i + 1) r'))) ?_ ?_ rfl)
    · have P' : s_RangeWriter_put_step [.obj k, .tup [.int 1, .int 2, .int 4]] S' = .ok (.tup []) (S'.set k (wCell [] (half (i + 1) r'))) := P
      generalize s_RangeWriter_put_step = F at P'
      simp [R.bind, cl, P']
    · simp [R.bind]
    · have C' : s_RangeWriter_code_so_far [.obj k] (S'.set k (wCell [] (half (i + 1) r'))) = .ok (.str [49]) (S'.set k (wCell [] (half (i + 1) r'))) := C
      generalize s_RangeWriter_code_so_far = F at C'
      simp [R.bind, cl2, C']
    · simp
  · subst e
    obtain ⟨r, r1, r2, r3⟩ := run_half n
    rw [r3] at at_
    have good1 : ∀ t ∈ List.replicate n wt, Good t := fun t ht => by rw [List.eq_of_mem_replicate ht]; exact wt_good
    have len1 : (List.replicate n wt).length ≤ 1000 := by rw [List.length_replicate]; omega
    have C1 := code_of_eq (List.replicate n wt) S' good1 len1
    have T1 := settled_of_eq (List.replicate n wt) S' fl good1 len1
    rw [r3, half_code r1 h1] at C1
    rw [r3, half_settled r1] at T1
    have T1 : s_settled_bytes [.tup ((List.replicate n wt).map spD')] S' = .ok (.tup []) S' := T1
    refine skip_then (S1 := S') (or_no (not_is1 (d := .str [49]) (S1 := S') ?_ ?_ rfl) (not_is1 (d := .tup []) (S1 := S') ?_ ?_ rfl)) ?_
    · generalize s_code_of_steps = F at C1
      simp [R.bind, C1, -List.map_replicate]
    · simp
    · generalize s_settled_bytes = F at T1
      simp [R.bind, T1, -List.map_replicate]
    · simp [R.bind]
    -- the last one
    obtain ⟨last, p, q, l1, l2, l3, l4, l5, l6, l7⟩ : ∃ (last : Sp) (p q : Nat), Good last ∧ 24 ≤ q ∧ q ≤ 32 ∧ cod (half n r) last = dy p (n + 1) q ∧ p < 2 ^ (n + 1) ∧
        (opIx (.tup [.tup [.int 0, .int 1, .int 2], .tup [.int 1, .int 1, .int 2]]) (nI side) = some (spD' last)) ∧
        (∃ code0, code (dy p (n + 1) q) = code0 ∧ opIx (.tup [.str (48 :: List.replicate n 49), .str (49 :: List.replicate n 48)]) (nI side) = some (.str (bitsOf p (n + 1))) ∧ opIx (.tup [.str (bitsOf p (n + 1)), .str [49]]) (nI side) = some (.str code0)) := by
      have pn := Nat.two_pow_pos n
      have p2 : 2 ^ (n + 1) = 2 * 2 ^ n := Nat.pow_succ'
      rcases hs with rfl | rfl
      · obtain ⟨q, a1, a2, a3⟩ := half_lo (n := n) r1 r2
        refine ⟨⟨0, 1, 2⟩, 2 ^ n - 1, q, ⟨by decide, by decide, by decide⟩, a1, a2, a3, by omega, ix_tup _ 0, _, rfl, ?_, ?_⟩
        · rw [bits_lo]; exact ix_tup _ 0
        · rw [dy_code_odd a1 (by omega) (by omega) ?_]
          · exact ix_tup _ 0
          · have : ∃ d, 2 ^ n = 2 * d := ⟨2 ^ (n - 1), by rw [← Nat.pow_succ']; congr 1; omega⟩
            obtain ⟨d, hd⟩ := this
            omega
      · obtain ⟨q, a1, a2, a3⟩ := half_hi (n := n) r1 r2
        refine ⟨⟨1, 1, 2⟩, 2 ^ n, q, ⟨by decide, by decide, by decide⟩, a1, a2, a3, by omega, ix_tup _ 1, _, rfl, ?_, ?_⟩
        · rw [bits_hi]; exact ix_tup _ 1
        · rw [dy_code_pow a1]; exact ix_tup _ 1
    obtain ⟨code0, k1, k2, k3⟩ := l7
    have okd := dy_ok l2 l5
    have steps : (List.replicate n wt ++ [last]).map spD' = (List.replicate n wt).map spD' ++ [spD' last] := by rw [List.map_append]; rfl
    have good2 : ∀ t ∈ List.replicate n wt ++ [last], Good t := fun t ht => by
      rcases List.mem_append.mp ht with z | z
      · exact good1 t z
      · rw [List.mem_singleton.mp z]; exact l1
    have len2 : (List.replicate n wt ++ [last]).length ≤ 1000 := by rw [List.length_append, List.length_replicate]; show n + 1 ≤ 1000; omega
    have rn : run first (List.replicate n wt ++ [last]) = dy p (n + 1) q := by rw [run_app, r3]; exact l4
    have P := put_eq k [] (half n r) last S' fl at_ (half_ok r1) l1 (by show n + r ≤ _; omega) (by simp)
    rw [l4, List.nil_append] at P
    have at2 := set_at (y := wCell (settled (dy p (n + 1) q)) (trim (dy p (n + 1) q))) at_
    have fl2 := flat_set (k := k) fl (flat_w (settled (dy p (n + 1) q)) (trim (dy p (n + 1) q)))
    have tr := (Tr.refl okd).trim
    rw [List.nil_append] at tr
    have slen : 8 * (settled (dy p (n + 1) q)).length ≤ n + 1 + q := setl_len _ _ _ _
    have W := wcode_eq k (settled (dy p (n + 1) q)) (trim (dy p (n + 1) q)) _ at2 tr.okT (by show n + 1 + q - _ ≤ _; omega) (by omega)
    rw [tr.code, k1] at W
    have S2 := settled_of_eq (List.replicate n wt ++ [last]) (S'.set k (wCell (settled (dy p (n + 1) q)) (trim (dy p (n + 1) q)))) fl2 good2 len2
    have C2 := code_of_eq (List.replicate n wt ++ [last]) (S'.set k (wCell (settled (dy p (n + 1) q)) (trim (dy p (n + 1) q)))) good2 len2
    have L2 := code_length_eq (List.replicate n wt ++ [last]) (S'.set k (wCell (settled (dy p (n + 1) q)) (trim (dy p (n + 1) q)))) good2 len2
    have B := bytes_in_eq p (n + 1) S' (by omega)
    rw [rn, steps] at S2 C2 L2
    rw [k1] at C2 L2
    rw [← dy_settled l2 l5] at B
    have cl := clsOf_at at_
    have cl2 := clsOf_at at2
    have clen : code0.length ≤ 1000 := by
      rw [← k1]
      unfold code
      rw [bitsOf_len]
      show n + 1 + q - _ ≤ 1000
      omega
    have yl : (settled (dy p (n + 1) q)).length ≤ 1000 := by omega
    have pl := plain_tn (settled (dy p (n + 1) q)) (by omega)
    generalize settled (dy p (n + 1) q) = ys at *
    generalize trim (dy p (n + 1) q) = tm at *
    generalize hS2 : S'.set k (wCell ys tm) = T2 at *
    have a1 : opAdd (.str [48]) (.str (List.replicate n 49)) = some (.str (48 :: List.replicate n 49)) := add_str _ _ (by simp; omega)
    have a2 : opAdd (.str [49]) (.str (List.replicate n 48)) = some (.str (49 :: List.replicate n 48)) := add_str _ _ (by simp; omega)
    have m1 := mul_str1 49 n (by omega)
    have m2 := mul_str1 48 n (by omega)
    have ad : opAdd (.tup ((List.replicate n wt).map spD')) (.tup [spD' last]) = some (.tup ((List.replicate n wt).map spD' ++ [spD' last])) := add_tup _ _ (by simp; omega)
    generalize hst : (List.replicate n wt).map spD' = stl at *
    refine Fin.seq (G1 := [.val (nI n), .val (nI side), .val (.obj k), .val (.tup stl), s4, .val (spD' last), .no, .no, .no]) (S1 := S') (by simp [R.bind, l6]) ?_
    refine Fin.seq (G1 := [.val (nI n), .val (nI side), .val (.obj k), .val (.tup stl), s4, .val (spD' last), .val (.str (bitsOf p (n + 1))), .no, .no]) (S1 := S') (by simp [R.bind, m1, m2, a1, a2, k2]) ?_
    refine Fin.seq (G1 := [.val (nI n), .val (nI side), .val (.obj k), .val (.tup stl), s4, .val (spD' last), .val (.str (bitsOf p (n + 1))), .val (tn ys), .no]) (S1 := S') (by
      generalize s__law_bytes_in = F at B
      simp [R.bind, B]) ?_
    refine skip_then (S1 := T2) (or_no (not_is1 (d := tn ys) (S1 := T2) ?_ ?_ pl) (not_is1 (d := tn ys) (S1 := T2) ?_ ?_ pl)) ?_
    · generalize s_RangeWriter_put_step = F at P
      simp [R.bind, cl, P]
    · simp
    · generalize s_settled_bytes = F at S2
      simp [R.bind, ad, S2]
    · simp
    refine Fin.seq (G1 := [.val (nI n), .val (nI side), .val (.obj k), .val (.tup stl), s4, .val (spD' last), .val (.str (bitsOf p (n + 1))), .val (tn ys), .val (.str code0)]) (S1 := T2) (by simp [R.bind, k3]) ?_
    refine skip_then (S1 := T2) (or_no (not_is1 (d := .str code0) (S1 := T2) ?_ ?_ rfl) (not_is1 (d := .str code0) (S1 := T2) ?_ ?_ rfl)) ?_
    · generalize s_RangeWriter_code_so_far = F at W
      simp [R.bind, cl2, W]
    · simp
    · generalize s_code_of_steps = F at C2
      simp [R.bind, ad, C2]
    · simp
    refine Fin.ret (S1 := T2) (is_val1 (d := nI code0.length) (S1 := T2) ?_ ?_ rfl) fl2
    · generalize s_code_length = F at L2
      simp [R.bind, ad, L2]
    · simp [R.bind, len_str code0 (by omega)]
end DL

end
section
set_option maxRecDepth 100000
set_option maxHeartbeats 1000000
namespace DL
open RC
/-! ### drawn steps -/
theorem pick8 (i : Nat) (h : i < 8) (d : Nat → D) : opIx (.tup [d 0, d 1, d 2, d 3, d 4, d 5, d 6, d 7]) (nI i) = some (d i) := by
  rw [ix_tup]
  rcases (by omega : i = 0 ∨ i = 1 ∨ i = 2 ∨ i = 3 ∨ i = 4 ∨ i = 5 ∨ i = 6 ∨ i = 7) with h | h | h | h | h | h | h | h <;> subst h <;> rfl
theorem made_eq (ds : List Nat) (m : Nat) (S : Store) (hS : Store.flat S = true) (hd : 3 * m ≤ ds.length) (hm : m ≤ 100) (hz : ds.length ≤ 1000) : ∃ ts : List Sp, s__law_made_steps [.lst (ds.map nI), nI m] S = .ok (.tup (ts.map spD')) S ∧ ts.length = m ∧ ∀ t ∈ ts, Good t := by
  have rg : irng1 (econs (evar 1) enil) (hide [.val (.lst (ds.map nI)), .val (nI m), .own [], .no, .no, .no, .no, .no, .no, .no]) S = .ok ((List.range m).map nI) S := irng1_nat (by simp [R.bind]) (by omega)
  obtain ⟨G', S', e, h1, ts, a, b, c, d, f, g, h2, h3, h4⟩ := runFor_range (g := .nm 3) (u := (sseq (sasg (.tp [(.nm 4), (.nm 5), (.nm 6)]) (strict (elc (iseq (ecut (evar 0) (osome (ebin opMul (ec (.int 3)) (evar 3))) (osome (ebin opAdd (ebin opMul (ec (.int 3)) (evar 3)) (ec (.int 3)))))) (.nm 9) tyes (ecal fInt (econs (evar 9) enil)) [9])))
    (sseq (sset 7 (strict (eix (etup (econs (ec (.int 1)) (econs (ec (.int 2)) (econs (ec (.int 3)) (econs (ec (.int 256)) (econs (ec (.int 4095)) (econs (ec (.int 4096)) (econs (ebin opAdd (ec (.int 1)) (ebin opMod (evar 5) (ec (.int 4096)))) (econs (ebin opAdd (ec (.int 2)) (ebin opMod (evar 5) (ec (.int 9)))) enil))))))))) (ebin opMod (evar 4) (ec (.int 8))))))
    (sseq (sset 8 (strict (ebin opMod (evar 6) (evar 7))))
    (sadd 2 addOne (strict (etup (econs (evar 8) (econs (ebin opAdd (ec (.int 1)) (ebin opMod (ebin opAdd (ebin opDiv (evar 5) (ec (.int 3))) (ebin opDiv (evar 4) (ec (.int 8)))) (ebin opSub (evar 7) (evar 8)))) (econs (evar 7) enil)))))))))) m
    (fun i G S' => S' = S ∧ ∃ (ts : List Sp) (a b c d f g : Slot), G = [.val (.lst (ds.map nI)), .val (nI m), .own (ts.map spD'), a, b, c, d, f, g, .no] ∧ ts.length = i ∧ ∀ t ∈ ts, Good t)
    (G := [.val (.lst (ds.map nI)), .val (nI m), .own [], .no, .no, .no, .no, .no, .no, .no]) (S := S) ⟨rfl, [], .no, .no, .no, .no, .no, .no, rfl, rfl, fun t ht => nomatch ht⟩
    (fun i G S1 hi ⟨e1, ts, a, b, c, d, f, g, e2, e3, e4⟩ => by
      subst e1 e2
      obtain ⟨x, y, z, hxyz⟩ : ∃ x y z : Nat, (ds.drop (3 * i)).take 3 = [x, y, z] := by
        have hl : ((ds.drop (3 * i)).take 3).length = 3 := by rw [List.length_take, List.length_drop]; omega
        match hh : (ds.drop (3 * i)).take 3, hl with
        | [x, y, z], _ => exact ⟨x, y, z, rfl⟩
      have m3 : ∀ z : Int, mulOk 3 z = true := fun z => mulOk_l _ _ (by decide)
      have c1 : (3 : Int) * (i : Int) = ((3 * i : Nat) : Int) := by omega
      have c2 : ((3 * i : Nat) : Int) + 3 = ((3 * i + 3 : Nat) : Int) := by omega
      have cu : cutL (ds.map nI) (some ((3 * i : Nat) : Int)) (some ((3 * i + 3 : Nat) : Int)) = [nI x, nI y, nI z] := by
        rw [cut_mid' _ _ _ (by omega) (by rw [List.length_map]; omega), show 3 * i + 3 - 3 * i = 3 by omega, ← List.map_drop, ← List.map_take, hxyz]
        rfl
      generalize hT : (if x % 8 = 0 then 1 else if x % 8 = 1 then 2 else if x % 8 = 2 then 3 else if x % 8 = 3 then 256 else if x % 8 = 4 then 4095 else if x % 8 = 5 then 4096 else if x % 8 = 6 then 1 + y % 4096 else 2 + y % 9) = T
      have hT1 : 1 ≤ T ∧ T ≤ 4096 := by
        rw [← hT]
        repeat' split
        all_goals omega
      have pk : opIx (.tup [.int 1, .int 2, .int 3, .int 256, .int 4095, .int 4096, .int (1 + ((y % 4096 : Nat) : Int)), .int (2 + ((y % 9 : Nat) : Int))]) (nI (x % 8)) = some (nI T) := by
        have := pick8 (x % 8) (by omega) fun j => D.int (((if j = 0 then 1 else if j = 1 then 2 else if j = 2 then 3 else if j = 3 then 256 else if j = 4 then 4095 else if j = 5 then 4096 else if j = 6 then 1 + y % 4096 else 2 + y % 9) : Nat) : Int)
        rw [hT] at this
        exact this
      have q1 := mod_nat x 8 (by decide)
      have q2 := mod_nat y 4096 (by decide)
      have q3 := mod_nat y 9 (by decide)
      have q4 := mod_nat z T (by omega)
      have q5 := div_nat y 3 (by decide) (by decide)
      have q6 := div_nat x 8 (by decide) (by decide)
      have lt := Nat.mod_lt z (show 0 < T by omega)
      have q7 := mod_nat (y / 3 + x / 8) (T - z % T) (by omega)
      have sb : (T : Int) - ((z % T : Nat) : Int) = ((T - z % T : Nat) : Int) := by omega
      have adn : ((y / 3 : Nat) : Int) + ((x / 8 : Nat) : Int) = ((y / 3 + x / 8 : Nat) : Int) := by omega
      have lt2 := Nat.mod_lt (y / 3 + x / 8) (show 0 < T - z % T by omega)
      simp only [nI, show ((8 : Nat) : Int) = 8 from rfl, show ((4096 : Nat) : Int) = 4096 from rfl, show ((9 : Nat) : Int) = 9 from rfl, show ((3 : Nat) : Int) = 3 from rfl] at q1 q2 q3 q4 q5 q6 q7 cu pk
      generalize hA : z % T = A at *
      generalize hB : (y / 3 + x / 8) % (T - A) = B at *
      have tl : (ts.map spD').length + 1 ≤ 16777216 := by rw [List.length_map]; omega
      refine ⟨_, [.val (.lst (ds.map nI)), .val (nI m), .own ((ts ++ [(⟨A, 1 + B, T⟩ : Sp)]).map spD'), .val (nI i), .val (nI x), .val (nI y), .val (nI z), .val (nI T), .val (nI A), .no], _, rfl, .inl ?_, rfl, ts ++ [(⟨A, 1 + B, T⟩ : Sp)], .val (nI i), .val (nI x), .val (nI y), .val (nI z), .val (nI T), .val (nI A), rfl, by simp [e3], fun t ht => ?_⟩
      · have lc : ∀ G, G = [.val (.lst (ds.map nI)), .val (nI m), .no, .val (nI i), b.hide, c.hide, d.hide, f.hide, g.hide, .no] → runLc (.nm 9) tyes (ecal fInt (econs (evar 9) enil)) G [.int x, .int y, .int z] S1 = .ok [.int x, .int y, .int z] S1 := fun G e => by
          subst e
          rfl
        have lc' := lc _ rfl
        simp only [ev_sseq, ev_sasg, ev_strict, ev_elc, ev_iseq, ev_ecut, R.bind, ev_evar, List.set_cons_succ, List.set_cons_zero, ev_hideV, ev_hideO, ev_look0, ev_lookS, ev_lookhS, ev_lookh0, ev_slook, ev_osome, ev_ebin, ev_ec, ev_mul, m3, if_true, c1, ev_add, c2, ev_cutLs, cu, wipeG, List.foldl]
        rw [show (hide [b, c, d, f, g, .no]).set 5 .no = [b.hide, c.hide, d.hide, f.hide, g.hide, .no] from rfl, lc']
        dsimp only
        rw [if_pos (show [D.int x, D.int y, D.int z].length ≤ 16777216 from (show 3 ≤ 16777216 by decide))]
        simp only [ev_putL, ev_putsC, ev_put, ev_puts0, Option.bind_some, List.set_cons_succ, List.set_cons_zero]
        simp only [ev_sset, ev_strict, ev_eix, ev_etup, ev_econs, ev_ec, ev_ebin, ev_evar, R.bind, ev_hideV, ev_hideO, ev_look0, ev_lookS, ev_lookhS, ev_lookh0, ev_slook, q2, q3, ev_add, ev_enil, q1, ev_deref_tup, List.length_cons, List.length_nil, Nat.zero_add, Nat.reduceAdd, Nat.reduceLeDiff, if_true, pk, List.set_cons_succ, List.set_cons_zero, q4]
        simp only [ev_sadd, ev_strict, ev_etup, ev_econs, ev_evar, R.bind, ev_hideV, ev_hideO, ev_look0, ev_lookS, ev_lookhS, ev_lookh0, ev_slook, ev_ebin, ev_ec, q5, q6, ev_add, adn, ev_sub, sb, q7, ev_enil, List.length_cons, List.length_nil, Nat.zero_add, Nat.reduceAdd, Nat.reduceLeDiff, if_true, List.getElem?_cons_succ, List.getElem?_cons_zero, ev_addOne]
        rw [if_pos (by have := tl; omega)]
        simp
      · rcases List.mem_append.mp ht with w | w
        · exact e4 t w
        · rw [List.mem_singleton.mp w]
          exact ⟨by show 1 ≤ 1 + B; omega, by show A + (1 + B) ≤ T; omega, hT1.2⟩)
  subst h1 h2
  refine ⟨ts, ?_, h3, h4⟩
  simp only [ev_hideV, ev_hideO, ev_hideN, ev_hide0] at rg
  simp [s__law_made_steps, b__law_made_steps, R.bind, hS, D.flats, rg, e]
end DL

end
section
set_option maxRecDepth 100000
set_option maxHeartbeats 1000000
namespace DL
open RC
theorem seq_to {u v : St} {G G1 : Env} {S S1 : Store} {r : Out} (h : u G S = .nx G1 S1) (k : v G1 S1 = r) : sseq u v G S = r := by rw [ev_sseq, h]; exact k
theorem lst_rep (n : Nat) (h : n ≤ 1000) : opMul (.lst [.tup [.int 1, .int 2, .int 4]]) (nI n) = some (.lst ((List.replicate n wt).map spD')) := by
  rw [mul_lst1 _ _ (by omega), List.map_replicate]
  rfl
theorem settled_first : settled first = [] := half_settled (n := 0) (r := 32) (by decide)
theorem last_good (side : Nat) (hs : side = 0 ∨ side = 1) : ∃ last : Sp, Good last ∧ opIx (.tup [.tup [.int 0, .int 1, .int 2], .tup [.int 1, .int 1, .int 2]]) (nI side) = some (spD' last) := by
  rcases hs with rfl | rfl
  · exact ⟨⟨0, 1, 2⟩, ⟨by decide, by decide, by decide⟩, ix_tup _ 0⟩
  · exact ⟨⟨1, 1, 2⟩, ⟨by decide, by decide, by decide⟩, ix_tup _ 1⟩
theorem goes_eq (n side : Nat) (ds : List Nat) (S : Store) (hS : Store.flat S = true) (h1 : 1 ≤ n) (h2 : n ≤ 60) (hs : side = 0 ∨ side = 1) (hd : 27 ≤ ds.length) (hd2 : ds.length ≤ 1000) : ∃ S', s__law_goes_on [nI n, nI side, .lst (ds.map nI)] S = .ok (.bl true) S' ∧ Store.flat S' = true := by
  obtain ⟨last, lg, lx⟩ := last_good side hs
  obtain ⟨t1, M1, c1, g1⟩ := made_eq ds 6 S hS (by omega) (by omega) (by omega)
  obtain ⟨t2, M2, c2, g2⟩ := made_eq (ds.drop 18) 3 S hS (by rw [List.length_drop]; omega) (by omega) (by rw [List.length_drop]; omega)
  have m11 := Nat.mod_lt n (show 0 < 11 by decide)
  generalize hts : List.replicate n wt ++ [last] ++ t1 ++ List.replicate (n % 11) wt ++ t2 = ts
  have gts : ∀ t ∈ ts, Good t := fun t ht => by
    rw [← hts] at ht
    simp only [List.mem_append, List.mem_singleton] at ht
    rcases ht with (((h | h) | h) | h) | h
    · rw [List.eq_of_mem_replicate h]; exact wt_good
    · rw [h]; exact lg
    · exact g1 t h
    · rw [List.eq_of_mem_replicate h]; exact wt_good
    · exact g2 t h
  have lts : ts.length ≤ 90 := by
    rw [← hts]
    simp only [List.length_append, List.length_replicate, List.length_cons, List.length_nil, c1, c2]
    omega
  refine Fin.fn rfl ?_
  unfold b__law_goes_on
  show Fin _ [.val (nI n), .val (nI side), .val (.lst (ds.map nI)), .no, .no, .no, .no, .no, .no] S _
  have r1 := lst_rep n (by omega)
  have r2 := lst_rep (n % 11) (by omega)
  have md := mod_nat n 11 (by decide)
  have cu : cutL (ds.map nI) (some 18) none = (ds.drop 18).map nI := by
    have := cut_drop (ds.map nI) 18
    rw [← List.map_drop] at this
    exact this
  have M1' : s__law_made_steps [.lst (ds.map nI), .int 6] S = .ok (.tup (t1.map spD')) S := M1
  have M2' : s__law_made_steps [.lst ((ds.drop 18).map nI), .int 3] S = .ok (.tup (t2.map spD')) S := M2
  have a1 : opAdd (.lst ((List.replicate n wt).map spD')) (.lst [spD' last]) = some (.lst ((List.replicate n wt ++ [last]).map spD')) := by
    rw [add_lst _ _ (by simp; omega), List.map_append]; rfl
  have a2 : opAdd (.lst ((List.replicate n wt ++ [last]).map spD')) (.lst (t1.map spD')) = some (.lst ((List.replicate n wt ++ [last] ++ t1).map spD')) := by
    rw [add_lst _ _ (by simp [c1]; omega), List.map_append (l₂ := t1)]
  have a3 : opAdd (.lst ((List.replicate n wt ++ [last] ++ t1).map spD')) (.lst ((List.replicate (n % 11) wt).map spD')) = some (.lst ((List.replicate n wt ++ [last] ++ t1 ++ List.replicate (n % 11) wt).map spD')) := by
    rw [add_lst _ _ (by simp [c1]; omega), List.map_append (l₂ := List.replicate (n % 11) wt)]
  have a4 : opAdd (.lst ((List.replicate n wt ++ [last] ++ t1 ++ List.replicate (n % 11) wt).map spD')) (.lst (t2.map spD')) = some (.lst (ts.map spD')) := by
    rw [add_lst _ _ (by simp [c1, c2]; omega), ← hts, List.map_append (l₂ := t2)]
  have fl1 : ∀ xs : List D, fList [.tup xs] = some (.lst xs) := fun xs => rfl
  generalize (List.replicate n wt ++ [last] ++ t1 ++ List.replicate (n % 11) wt).map spD' = x4 at a3 a4
  generalize (List.replicate n wt ++ [last] ++ t1).map spD' = x3 at a2 a3
  generalize (List.replicate n wt ++ [last]).map spD' = x2 at a1 a2
  generalize (List.replicate n wt).map spD' = x1 at r1 a1
  generalize (List.replicate (n % 11) wt).map spD' = y1 at r2 a3
  rw [show nI 11 = .int 11 from rfl] at md
  refine Fin.seq (G1 := [.val (nI n), .val (nI side), .val (.lst (ds.map nI)), .val (.lst x3), .no, .no, .no, .no, .no]) (S1 := S) (by
    generalize s__law_made_steps = F at M1'
    simp only [ev_sset, ev_strict, ev_ebin, ev_elst, ev_etup, ev_econs, ev_ec, R.bind, ev_enil, List.length_cons, List.length_nil, Nat.zero_add, Nat.reduceAdd, Nat.reduceLeDiff, if_true, ev_evar, ev_hideV, ev_hideN, ev_hide0, ev_look0, ev_lookS, ev_slook, r1, ev_eix, ev_deref_tup, lx, a1, ev_ecal, ev_ecall, M1', fl1, a2, List.set_cons_succ, List.set_cons_zero]) ?_
  refine Fin.seq (G1 := [.val (nI n), .val (nI side), .val (.lst (ds.map nI)), .val (.lst (ts.map spD')), .no, .no, .no, .no, .no]) (S1 := S) (by
    generalize s__law_made_steps = F at M2'
    simp only [ev_sset, ev_strict, ev_ebin, ev_elst, ev_etup, ev_econs, ev_ec, R.bind, ev_enil, List.length_cons, List.length_nil, Nat.zero_add, Nat.reduceAdd, Nat.reduceLeDiff, if_true, ev_evar, ev_hideV, ev_hideN, ev_hide0, ev_look0, ev_lookS, ev_slook, md, r2, a3, ev_ecal, ev_ecall, ev_ecut, ev_osome, ev_onone, ev_cutLs, cu, M2', fl1, a4, List.set_cons_succ, List.set_cons_zero]) ?_
  generalize hk : S.length = k
  have nw := new_writer S
  rw [hk] at nw
  have at0 : (S ++ [wCell [] first])[k]? = some (wCell [] first) := by rw [← hk]; exact new_at S _
  have fl0 : Store.flat (S ++ [wCell [] first]) = true := flat_new hS (flat_w _ _)
  generalize S ++ [wCell [] first] = S0 at at0 fl0 nw
  refine Fin.seq (G1 := [.val (nI n), .val (nI side), .val (.lst (ds.map nI)), .val (.lst (ts.map spD')), .val (.obj k), .val (stD first), .val (tn []), .no, .no]) (S1 := S0) (by
    simp only [ev_spar3, ev_strict, ev_econs, nw _ hS, R.bind, ev_etup, ev_ec, ev_enil, List.length_cons, List.length_nil, Nat.zero_add, Nat.reduceAdd, Nat.reduceLeDiff, Nat.zero_le, if_true, List.set_cons_succ, List.set_cons_zero]
    rfl) ?_
  refine Fin.loop spD' ts (fun done G S' => ∃ (tr : RS) (s7 s8 : Slot), G = [.val (nI n), .val (nI side), .val (.lst (ds.map nI)), .val (.lst (ts.map spD')), .val (.obj k), .val (stD (run first done)), .val (tn (settled (run first done))), s7, s8] ∧ Store.flat S' = true ∧ S'[k]? = some (wCell (settled (run first done)) tr) ∧ Tr (settled (run first done)) tr (run first done))
    (S0 := S0) (by simp [R.bind]) ⟨first, .no, .no, by rw [show run first [] = first from rfl, settled_first], fl0, by rw [show run first [] = first from rfl, settled_first]; exact at0, by rw [show run first [] = first from rfl, settled_first]; exact Tr.refl first_ok⟩ (fun done t rest G S' hdn ⟨tr, s7, s8, e, fl, at_, T⟩ => ?_) fun G S' ⟨tr, s7, s8, e, fl, at_, T⟩ => ?_
  · subst e
    have gt : Good t := gts t (by rw [← hdn]; simp)
    have gd : ∀ x ∈ done, Good x := fun x hx => gts x (by rw [← hdn]; exact List.mem_append_left _ hx)
    have ld : done.length ≤ 90 := by have := congrArg List.length hdn; rw [List.length_append] at this; omega
    have sz := run_size done first first_ok gd
    have f32 : first.s = 32 := rfl
    have trs : tr.s ≤ (run first done).s := by rw [T.s]; omega
    have P := put_eq k (settled (run first done)) tr t S' fl at_ T.okT gt (by omega) (by have : 8 * (settled (run first done)).length ≤ (run first done).s := setl_len _ _ _ _; omega)
    have Tc := T.cod gt
    have st := Tc.settled
    have T2 := Tc.trim
    have rsn : run first (done ++ [t]) = cod (run first done) t := by rw [run_app]; rfl
    rw [← st] at P T2
    have C := law_coded_eq (run first done) t S' T.okF gt (by omega)
    have Z := law_settled_eq (cod (run first done) t) S' fl Tc.okF (by have := cod_size T.okF gt; omega)
    have at2 := set_at (y := wCell (settled (cod (run first done) t)) (trim (cod tr t))) at_
    have fl2 := flat_set (k := k) fl (flat_w (settled (cod (run first done) t)) (trim (cod tr t)))
    have cl := clsOf_at at_
    have sl : 8 * (settled (cod (run first done) t)).length ≤ (cod (run first done) t).s := setl_len _ _ _ _
    have sc := cod_size T.okF gt
    rw [← rsn] at P T2 C Z at2 fl2 st sl sc
    generalize settled (cod tr t) = out at *
    generalize hb : settled (run first done) = bf at *
    generalize hf : settled (run first (done ++ [t])) = af at *
    have cuA : cutL (af.map nI) (some (bf.length : Int)) none = out.map nI := by
      rw [cut_drop, ← List.map_drop, st, List.drop_append_of_le_length (Nat.le_refl _), List.drop_of_length_le (Nat.le_refl _), List.nil_append]
    have cuB : cutL (af.map nI) none (some (bf.length : Int)) = bf.map nI := by
      rw [cut_take, ← List.map_take, st, List.take_append_of_le_length (Nat.le_refl _), List.take_of_length_le (Nat.le_refl _)]
    have ne : opNe (tn bf) (tn bf) = some (.bl false) := by rw [ne_nats]; simp
    have po : D.plain 7 (tn out) = true := plain_tn out (by have := congrArg List.length st; rw [List.length_append] at this; omega)
    refine ⟨_, [.val (nI n), .val (nI side), .val (.lst (ds.map nI)), .val (.lst (ts.map spD')), .val (.obj k), .val (stD (run first (done ++ [t]))), .val (tn af), .val (spD' t), .val (tn af)], _, rfl, .inl ?_, trim (cod tr t), .val (spD' t), .val (tn af), rfl, fl2, at2, T2⟩
    have q1 : sset 5 (strict (ecall s__law_coded (econs (evar 5) (econs (evar 7) enil)))) [.val (nI n), .val (nI side), .val (.lst (ds.map nI)), .val (.lst (ts.map spD')), .val (.obj k), .val (stD (run first done)), .val (tn bf), .val (spD' t), s8] S' = .nx [.val (nI n), .val (nI side), .val (.lst (ds.map nI)), .val (.lst (ts.map spD')), .val (.obj k), .val (stD (run first (done ++ [t]))), .val (tn bf), .val (spD' t), s8] S' := by
      generalize s__law_coded = F at C
      simp [R.bind, C]
    have q2 : sset 8 (strict (ecall s__law_settled (econs (evar 5) enil))) [.val (nI n), .val (nI side), .val (.lst (ds.map nI)), .val (.lst (ts.map spD')), .val (.obj k), .val (stD (run first (done ++ [t]))), .val (tn bf), .val (spD' t), s8] S' = .nx [.val (nI n), .val (nI side), .val (.lst (ds.map nI)), .val (.lst (ts.map spD')), .val (.obj k), .val (stD (run first (done ++ [t]))), .val (tn bf), .val (spD' t), .val (tn af)] S' := by
      generalize s__law_settled = F at Z
      simp [R.bind, Z]
    refine seq_to q1 (seq_to q2 (seq_to (S1 := S'.set k (wCell af (trim (cod tr t)))) (skip_if (S1 := S'.set k (wCell af (trim (cod tr t)))) (or_no (S1 := S'.set k (wCell af (trim (cod tr t)))) (not_is1 (d := tn out) (S1 := S'.set k (wCell af (trim (cod tr t)))) ?_ ?_ po) ?_)) ?_))
    rotate_right
    · simp
    · generalize s_RangeWriter_put_step = F at P
      simp [R.bind, cl, P]
    · simp [R.bind, cuA]
    · simp [R.bind, cuB, ne]
  · subst e
    have sz := run_size ts first first_ok gts
    have f32 : first.s = 32 := rfl
    have trs : tr.s ≤ (run first ts).s := by rw [T.s]; omega
    have sl : 8 * (settled (run first ts)).length ≤ (run first ts).s := setl_len _ _ _ _
    have W := wcode_eq k _ tr S' at_ T.okT (by omega) (by omega)
    rw [T.code] at W
    have L := law_state_code_eq (run first ts) S' T.okF (by omega)
    have cl := clsOf_at at_
    have S1e := state_eq ts S' gts (by omega)
    have S2e := settled_of_eq ts S' fl gts (by omega)
    refine skip_then (S1 := S') (not_is1 (d := .str (code (run first ts))) (S1 := S') ?_ ?_ rfl) ?_
    · generalize s_RangeWriter_code_so_far = F at W
      simp [R.bind, cl, W]
    · generalize s__law_state_code = F at L
      simp [R.bind, L]
    have p1 : D.plain 7 (stD (run first ts)) = true := rfl
    have p2 : D.plain 7 (tn (settled (run first ts))) = true := plain_tn _ (by omega)
    have v1 : ∀ G : Env, G = [.val (nI n), .val (nI side), .val (.lst (ds.map nI)), .val (.lst (ts.map spD')), .val (.obj k), .val (stD (run first ts)), .val (tn (settled (run first ts))), s7, s8] → ecall (s__law_is 8) (econs (ecall s_state_of_steps (econs (ecal fTuple (econs (evar 3) enil)) enil)) (econs (evar 5) enil)) G S' = .ok (.bl true) S' := fun G e => by
      subst e
      refine is_val1 (d := stD (run first ts)) ?_ ?_ p1
      · generalize s_state_of_steps = F at S1e
        simp [R.bind, S1e]
      · simp
    have v2 : ∀ G : Env, G = [.val (nI n), .val (nI side), .val (.lst (ds.map nI)), .val (.lst (ts.map spD')), .val (.obj k), .val (stD (run first ts)), .val (tn (settled (run first ts))), s7, s8] → ecall (s__law_is 8) (econs (ecall s_settled_bytes (econs (ecal fTuple (econs (evar 3) enil)) enil)) (econs (evar 6) enil)) G S' = .ok (.bl true) S' := fun G e => by
      subst e
      refine is_val1 (d := tn (settled (run first ts))) ?_ ?_ p2
      · generalize s_settled_bytes = F at S2e
        simp [R.bind, S2e]
      · simp
    refine Fin.ret (S1 := S') ?_ fl
    rw [ev_eand, v1 _ rfl]
    show ecall (s__law_is 8) _ _ S' = _
    rw [v2 _ rfl]
end DL

end
section
set_option maxRecDepth 100000
set_option maxHeartbeats 1000000
namespace DL
open RC
abbrev ty : List Nat := [1, 2, 1]
abbrev fg (v : Nat) : Sp := ⟨v, 1, 32⟩
theorem ty_good : ∀ j, j < 3 → Good (stepOf ty j) ∧ (stepOf ty j).T ≤ 256 := fun j h => by
  rcases (by omega : j = 0 ∨ j = 1 ∨ j = 2) with h | h | h <;> subst h <;> exact ⟨⟨by decide, by decide, by decide⟩, by decide⟩
theorem fg_good (v : Nat) (h : v < 32) : Good (fg v) ∧ (fg v).T ≤ 256 := ⟨⟨(show 1 ≤ 1 from Nat.le_refl _), (by show v + 1 ≤ 32; omega), (show 32 ≤ 4096 by decide)⟩, (show 32 ≤ 256 by decide)⟩
theorem ty_ix (j : Nat) (h : j < 3) : opIx (.tup [.tup [.int 0, .int 1, .int 4], .tup [.int 1, .int 2, .int 4], .tup [.int 3, .int 1, .int 4]]) (nI j) = some (spD' (stepOf ty j)) := by
  rw [ix_tup]
  rcases (by omega : j = 0 ∨ j = 1 ∨ j = 2) with h | h | h <;> subst h <;> rfl
theorem law_code_eq (ts : List Sp) (S : Store) (h : ∀ t ∈ ts, Good t) (hl : ts.length ≤ 400) : s__law_code [.lst (ts.map spD')] S = .ok (.str (code (run first ts))) S := by
  have st := law_state_eq ts _ (.inl rfl) S h (by omega)
  have sz := run_size ts first first_ok h
  have f32 : first.s = 32 := rfl
  have C := law_state_code_eq (run first ts) S (run_ok ts first first_ok h) (by omega)
  unfold s__law_code b__law_code
  generalize s__law_state = F at st ⊢
  generalize s__law_state_code = Z at C ⊢
  simp [R.bind, st, C, -List.map_map]
theorem new_reader (x : List Nat) (S : Store) (ts : Exs) (G : Env) (ht : ts G S = .ok [.str x] S) : enew 3 2 s_RangeReader___init__ ts G S = .ok (.obj S.length) (S ++ [rCell x first]) := by
  have e := rinit_eq S.length x (S ++ [(⟨3, [.no, .no]⟩ : Cell)]) (new_at S _)
  have e2 : (S ++ [(⟨3, [.no, .no]⟩ : Cell)]).set S.length (rCell x first) = S ++ [rCell x first] := by simp
  rw [e2] at e
  generalize s_RangeReader___init__ = F at e ⊢
  simp only [ev_enew, ht, R.bind, List.replicate]
  rw [e]
theorem flat_r (x : List Nat) (st : RS) : (rCell x st).fs.all Slot.flat = true := rfl
theorem code_bit {st : RS} {c : Nat} (h : c ∈ code st) : c = 48 ∨ c = 49 := bitsOf_bit h
theorem found_eq (n : Nat) (ds : List Nat) (S : Store) (hS : Store.flat S = true) (h2 : n ≤ 60) (hd : 5 ≤ ds.length) : ∃ S', s__law_found_again [nI n, .lst (ds.map nI)] S = .ok (.bl true) S' ∧ Store.flat S' = true := by
  obtain ⟨d0, hd0⟩ : ∃ d0, ds[0]? = some d0 := ⟨ds[0], by simp⟩
  have ix : ∀ i d, ds[i]? = some d → opIx (.lst (ds.map nI)) (nI i) = some (nI d) := fun i d h => by rw [ix_lst, List.getElem?_map, h]; rfl
  generalize hla : d0 % 3 = la
  have lal : la < 3 := by omega
  generalize hsy : List.replicate n 1 ++ [la, 2 - la, 1] = sy
  have sy3 : ∀ x ∈ sy, x < 3 := fun x hx => by
    rw [← hsy] at hx
    simp only [List.mem_append, List.mem_cons, List.not_mem_nil, or_false] at hx
    rcases hx with h | h | h | h
    · rw [List.eq_of_mem_replicate h]; decide
    · omega
    · omega
    · omega
  have syl : sy.length ≤ 63 := by rw [← hsy]; simp; omega
  generalize hnu : (List.range 4).map (fun i => ds.getD (1 + i) 0 % 32) = nu
  have nul : nu.length = 4 := by rw [← hnu]; simp
  have nu32 : ∀ v ∈ nu, v < 32 := fun v hv => by
    rw [← hnu] at hv
    obtain ⟨i, _, rfl⟩ := List.mem_map.mp hv
    omega
  generalize hts : sy.map (stepOf ty) ++ nu.map fg = ts
  have gts8 : ∀ t ∈ ts, Good t ∧ t.T ≤ 256 := fun t ht => by
    rw [← hts] at ht
    rcases List.mem_append.mp ht with h | h
    · obtain ⟨j, hj, rfl⟩ := List.mem_map.mp h
      exact ty_good j (sy3 j hj)
    · obtain ⟨v, hv, rfl⟩ := List.mem_map.mp h
      exact fg_good v (nu32 v hv)
  have gts : ∀ t ∈ ts, Good t := fun t ht => (gts8 t ht).1
  have lts : ts.length ≤ 67 := by rw [← hts, List.length_append, List.length_map, List.length_map]; omega
  have f32 : first.s = 32 := rfl
  have ofn := run_ok ts first first_ok gts
  have szf := run_size8 ts first first_ok gts8
  have bin := best_in ofn
  generalize hfn : run first ts = fn at *
  generalize hc0 : code fn = code0
  have cbit : ∀ c ∈ code0, c = 48 ∨ c = 49 := fun c hc => by rw [← hc0] at hc; exact code_bit hc
  have clen : code0.length ≤ 1000 := by rw [← hc0]; unfold code; rw [bitsOf_len]; omega
  -- at each state
  have mid : ∀ (done rest : List Sp) (t : Sp), done ++ t :: rest = ts → Ok (run first done) ∧ (run first done).s ≤ 640 ∧ (run first done).l ≤ valB (padded code0 (run first done).s) ∧
      t.a ≤ (valB (padded code0 (run first done).s) - (run first done).l) / ((run first done).w / t.T) ∧ (valB (padded code0 (run first done).s) - (run first done).l) / ((run first done).w / t.T) < t.a + t.b := fun done rest t e => by
    have gd : ∀ x ∈ done, Good x ∧ x.T ≤ 256 := fun x hx => gts8 x (by rw [← e]; exact List.mem_append_left _ hx)
    have gr : ∀ x ∈ t :: rest, Good x := fun x hx => gts x (by rw [← e]; exact List.mem_append_right _ hx)
    have o := run_ok done first first_ok fun x hx => (gd x hx).1
    have s8 := run_size8 done first first_ok gd
    have dl : done.length ≤ 67 := by have := congrArg List.length e; rw [List.length_append] at this; omega
    have rf : run (run first done) (t :: rest) = fn := by rw [← hfn, ← e, run_app]
    have pin := place_in (C := best fn) o gr (by rw [rf]; exact bin.1) (by rw [rf]; exact bin.2)
    rw [rf] at pin
    have le : (run first done).s ≤ fn.s := by
      have := (run_in (t :: rest) (run first done) o gr).1
      rw [rf] at this
      exact this
    have cv := code_val ofn le
    rw [hc0] at cv
    rw [cv]
    exact ⟨o, by omega, pin.2.2.1, pin.1, pin.2.1⟩
  refine Fin.fn rfl ?_
  unfold b__law_found_again
  show Fin _ [.val (nI n), .val (.lst (ds.map nI)), .no, .no, .no, .no, .no, .no, .no, .no, .no, .no] S _
  have x0 := ix 0 d0 hd0
  have m3 := mod_nat d0 3 (by decide)
  rw [hla, show nI 3 = .int 3 from rfl] at m3
  rw [show nI 0 = .int 0 from rfl] at x0
  refine Fin.seq (G1 := [.val (nI n), .val (.lst (ds.map nI)), .val (tn ty), .val (nI la), .no, .no, .no, .no, .no, .no, .no, .no]) (S1 := S) (by
    simp only [ev_spar, ev_strict, ev_econs, ev_etup, ev_ec, R.bind, ev_enil, List.length_cons, List.length_nil, Nat.zero_add, Nat.reduceAdd, Nat.reduceLeDiff, if_true, ev_ebin, ev_ecal, ev_eix, ev_evar, ev_hideV, ev_look0, ev_lookS, ev_slook, ev_deref_lst, x0, ev_intI, m3, List.set_cons_succ, List.set_cons_zero]
    rfl) ?_
  have r1 : opMul (.lst [.int 1]) (nI n) = some (.lst ((List.replicate n 1).map nI)) := by rw [mul_lst1 _ _ (by omega), List.map_replicate]; rfl
  have sb : (2 : Int) - (la : Int) = ((2 - la : Nat) : Int) := by omega
  have a1 : opAdd (.lst ((List.replicate n 1).map nI)) (.lst [nI la, .int (((2 - la : Nat) : Int)), .int 1]) = some (.lst (sy.map nI)) := by
    rw [add_lst _ _ (by simp; omega), ← hsy, List.map_append]
    rfl
  refine Fin.seq (G1 := [.val (nI n), .val (.lst (ds.map nI)), .val (tn ty), .val (nI la), .val (.lst (sy.map nI)), .no, .no, .no, .no, .no, .no, .no]) (S1 := S) (by
    simp only [ev_sset, ev_strict, ev_ebin, ev_elst, ev_econs, ev_ec, R.bind, ev_enil, List.length_cons, List.length_nil, Nat.zero_add, Nat.reduceAdd, Nat.reduceLeDiff, if_true, ev_evar, ev_hideV, ev_look0, ev_lookS, ev_slook, r1, ev_sub, sb, a1, List.set_cons_succ, List.set_cons_zero]) ?_
  have lc1 : runLc (.nm 9) tyes (eix (etup (econs (etup (econs (ec (.int 0)) (econs (ec (.int 1)) (econs (ec (.int 4)) enil)))) (econs (etup (econs (ec (.int 1)) (econs (ec (.int 2)) (econs (ec (.int 4)) enil)))) (econs (etup (econs (ec (.int 3)) (econs (ec (.int 1)) (econs (ec (.int 4)) enil)))) enil)))) (evar 9)) [.val (nI n), .val (.lst (ds.map nI)), .val (tn ty), .val (nI la), .val (.lst (sy.map nI)), .no, .no, .no, .no, .no, .no, .no] (sy.map nI) S
      = .ok ((sy.map (stepOf ty)).map spD') S := by
    rw [runLc_to nI (fun j => spD' (stepOf ty j)) _ fun j hj => ⟨_, rfl, ?_⟩]
    · rw [List.map_map]; rfl
    · have := ty_ix j (sy3 j hj)
      simp [R.bind, this]
  refine Fin.seq (G1 := [.val (nI n), .val (.lst (ds.map nI)), .val (tn ty), .val (nI la), .val (.lst (sy.map nI)), .val (.lst ((sy.map (stepOf ty)).map spD')), .no, .no, .no, .no, .no, .no]) (S1 := S) (by
    simp only [ev_sset, ev_strict, ev_elc, ev_iseq, R.bind, ev_evar, ev_hideV, ev_hideN, ev_hide0, ev_look0, ev_lookS, ev_slook, wipeG, List.foldl, List.set_cons_succ, List.set_cons_zero, lc1, List.length_map]
    rw [if_pos (by omega)]) ?_
  have lc2 : runLc (.nm 11) tyes (ebin opAnd (ecal fInt (econs (eix (evar 1) (ebin opAdd (ec (.int 1)) (evar 11))) enil)) (ec (.int 31))) [.val (nI n), .val (.lst (ds.map nI)), .val (tn ty), .val (nI la), .val (.lst (sy.map nI)), .val (.lst ((sy.map (stepOf ty)).map spD')), .no, .no, .no, .no, .no, .no] ((List.range 4).map nI) S
      = .ok (nu.map nI) S := by
    rw [runLc_to nI (fun i => nI (ds.getD (1 + i) 0 % 32)) _ fun i hi => ⟨_, rfl, ?_⟩]
    · rw [← hnu, List.map_map]; rfl
    · have hi := List.mem_range.mp hi
      have e1 : (1 : Int) + (i : Int) = ((1 + i : Nat) : Int) := by omega
      have := ix (1 + i) (ds.getD (1 + i) 0) (by rw [List.getD_eq_getElem?_getD, List.getElem?_eq_getElem (by omega)]; rfl)
      have am := and_mask (ds.getD (1 + i) 0) 5 31 (by decide)
      rw [show (2 : Nat) ^ 5 = 32 from rfl] at am
      simp only [ev_ebin, ev_ecal, ev_econs, ev_eix, R.bind, ev_evar, List.set_cons_succ, List.set_cons_zero, ev_look0, ev_lookS, ev_slook, ev_ec, ev_add, e1, ev_deref_lst, this, ev_enil, ev_intI, am]
  have rg4 : ∀ G : Env, irng1 (econs (ec (.int 4)) enil) G S = .ok ((List.range 4).map nI) S := fun G => irng1_nat (n := 4) rfl (by decide)
  refine Fin.seq (G1 := [.val (nI n), .val (.lst (ds.map nI)), .val (tn ty), .val (nI la), .val (.lst (sy.map nI)), .val (.lst ((sy.map (stepOf ty)).map spD')), .val (.lst (nu.map nI)), .no, .no, .no, .no, .no]) (S1 := S) (by
    simp only [ev_sset, ev_strict, ev_elc, rg4, R.bind, ev_hideV, ev_hideN, ev_hide0, wipeG, List.foldl, List.set_cons_succ, List.set_cons_zero, lc2, List.length_map, List.length_range]
    rw [if_pos (by decide)]) ?_
  have lc3 : ∀ x7 : Slot, runLc (.nm 10) tyes (etup (econs (evar 10) (econs (ec (.int 1)) (econs (ec (.int 32)) enil)))) [.val (nI n), .val (.lst (ds.map nI)), .val (tn ty), .val (nI la), .val (.lst (sy.map nI)), .val (.lst ((sy.map (stepOf ty)).map spD')), .val (.lst (nu.map nI)), x7, .no, .no, .no, .no] (nu.map nI) S
      = .ok ((nu.map fg).map spD') S := fun x7 => by
    rw [runLc_to nI (fun v => spD' (fg v)) _ fun v hv => ⟨_, rfl, ?_⟩]
    · rw [List.map_map]; rfl
    · simp [R.bind]
  have a2 : opAdd (.lst ((sy.map (stepOf ty)).map spD')) (.lst ((nu.map fg).map spD')) = some (.lst (ts.map spD')) := by
    rw [add_lst _ _ (by simp only [List.length_map]; omega), ← hts, List.map_append]
  have a3 : opAdd (.tup ((sy.map (stepOf ty)).map spD')) (.tup ((nu.map fg).map spD')) = some (.tup (ts.map spD')) := by
    rw [add_tup _ _ (by simp only [List.length_map]; omega), ← hts, List.map_append]
  have LC := law_code_eq ts S gts (by omega)
  have CO := code_of_eq ts S gts (by omega)
  rw [hfn, hc0] at LC CO
  have l4 : ((nu.map nI).length ≤ 16777216) = True := eq_true (by rw [List.length_map]; omega)
  refine Fin.seq (G1 := [.val (nI n), .val (.lst (ds.map nI)), .val (tn ty), .val (nI la), .val (.lst (sy.map nI)), .val (.lst ((sy.map (stepOf ty)).map spD')), .val (.lst (nu.map nI)), .val (.str code0), .no, .no, .no, .no]) (S1 := S) (by
    generalize s__law_code = F at LC
    simp only [ev_sset, ev_strict, ev_ecall, ev_econs, ev_ebin, ev_evar, ev_elc, ev_iseq, R.bind, ev_hideV, ev_hideN, ev_hide0, ev_look0, ev_lookS, ev_slook, wipeG, List.foldl, List.set_cons_succ, List.set_cons_zero, lc3, l4, if_true, a2, ev_enil, LC]) ?_
  refine skip_then (S1 := S) (not_is1 (d := .str code0) (S1 := S) ?_ ?_ rfl) ?_
  · generalize s_code_of_steps = F at CO
    simp only [ev_ecall, ev_econs, ev_ebin, ev_ecal, ev_evar, ev_elc, ev_iseq, R.bind, ev_hideV, ev_hideN, ev_hide0, ev_look0, ev_lookS, ev_slook, wipeG, List.foldl, List.set_cons_succ, List.set_cons_zero, lc3, l4, if_true, ev_enil, ev_tupleL, a3, CO]
  · simp
  generalize hk : S.length = k
  have nr := new_reader code0 S
  rw [hk] at nr
  have at0 : (S ++ [rCell code0 first])[k]? = some (rCell code0 first) := by rw [← hk]; exact new_at S _
  have fl0 : Store.flat (S ++ [rCell code0 first]) = true := flat_new hS (flat_r _ _)
  generalize S ++ [rCell code0 first] = S0 at at0 fl0 nr
  refine Fin.seq (G1 := [.val (nI n), .val (.lst (ds.map nI)), .val (tn ty), .val (nI la), .val (.lst (sy.map nI)), .val (.lst ((sy.map (stepOf ty)).map spD')), .val (.lst (nu.map nI)), .val (.str code0), .val (.obj k), .no, .no, .no]) (S1 := S0) (by
    rw [ev_sset, ev_strict, nr _ _ (by simp [R.bind])]
    rfl) ?_
  generalize hE : (fun (x9 x10 : Slot) => ([.val (nI n), .val (.lst (ds.map nI)), .val (tn ty), .val (nI la), .val (.lst (sy.map nI)), .val (.lst ((sy.map (stepOf ty)).map spD')), .val (.lst (nu.map nI)), .val (.str code0), .val (.obj k), x9, x10, .no] : Env)) = E
  have hE' : ∀ x9 x10, E x9 x10 = [.val (nI n), .val (.lst (ds.map nI)), .val (tn ty), .val (nI la), .val (.lst (sy.map nI)), .val (.lst ((sy.map (stepOf ty)).map spD')), .val (.lst (nu.map nI)), .val (.str code0), .val (.obj k), x9, x10, .no] := fun x9 x10 => by rw [← hE]
  refine Fin.loop nI sy (fun done G S' => (∃ x9, G = E x9 .no) ∧ Store.flat S' = true ∧ S'[k]? = some (rCell code0 (run first (done.map (stepOf ty))))) (S0 := S0) (by simp [R.bind]) ⟨⟨.no, by rw [hE']⟩, fl0, at0⟩ (fun done x rest G S' e ⟨⟨x9, eG⟩, fl, at_⟩ => ?_) fun G S' ⟨⟨x9, eG⟩, fl, at_⟩ => ?_
  · subst eG
    have x3 : x < 3 := sy3 x (by rw [← e]; simp)
    obtain ⟨o, s640, v1, v2, v3⟩ := mid (done.map (stepOf ty)) (rest.map (stepOf ty) ++ nu.map fg) (stepOf ty x) (by rw [← hts, ← e, List.map_append, List.map_cons, List.append_assoc]; rfl)
    have FS := find_symbol_eq k code0 _ ty x S' fl at_ o s640 cbit (by omega) (by show x < 3; omega) (by decide) (ty_good x x3).1 v1 v2 v3
    have cl := clsOf_at at_
    have at2 := set_at (y := rCell code0 (cod (run first (done.map (stepOf ty))) (stepOf ty x))) at_
    have fl2 := flat_set (k := k) fl (flat_r code0 (cod (run first (done.map (stepOf ty))) (stepOf ty x)))
    have rsn : run first ((done ++ [x]).map (stepOf ty)) = cod (run first (done.map (stepOf ty))) (stepOf ty x) := by rw [List.map_append, run_app]; rfl
    rw [rsn]
    generalize S'.set k (rCell code0 (cod (run first (done.map (stepOf ty))) (stepOf ty x))) = T2 at *
    refine ⟨E (.val (nI x)) .no, _, T2, by rw [hE', hE']; rfl, .inl (skip_if (S1 := T2) (not_is1 (d := nI x) (S1 := T2) ?_ ?_ rfl)), ⟨_, rfl⟩, fl2, at2⟩
    · rw [hE']
      generalize s_RangeReader_find_symbol = F at FS
      simp [R.bind, cl, FS]
    · rw [hE']
      simp
  · subst eG
    refine Fin.loop nI nu (fun done G S' => (∃ x10, G = E x9 x10) ∧ Store.flat S' = true ∧ S'[k]? = some (rCell code0 (run first (sy.map (stepOf ty) ++ done.map fg)))) (S0 := S') (by rw [hE']; simp [R.bind]) ⟨⟨.no, rfl⟩, fl, by rw [List.map_nil, List.append_nil]; exact at_⟩ (fun done v rest G S1 e ⟨⟨x10, eG⟩, fl, at_⟩ => ?_) fun G S1 ⟨⟨x10, eG⟩, fl, at_⟩ => ?_
    · subst eG
      have v32 : v < 32 := nu32 v (by rw [← e]; simp)
      obtain ⟨o, s640, v1, v2, v3⟩ := mid (sy.map (stepOf ty) ++ done.map fg) (rest.map fg) (fg v) (by rw [← hts, ← e, List.map_append, List.map_cons, List.append_assoc])
      have v2 : v ≤ (valB (padded code0 (run first (sy.map (stepOf ty) ++ done.map fg)).s) - (run first (sy.map (stepOf ty) ++ done.map fg)).l) / ((run first (sy.map (stepOf ty) ++ done.map fg)).w / 32) := v2
      have v3 : (valB (padded code0 (run first (sy.map (stepOf ty) ++ done.map fg)).s) - (run first (sy.map (stepOf ty) ++ done.map fg)).l) / ((run first (sy.map (stepOf ty) ++ done.map fg)).w / 32) < v + 1 := v3
      have FF := find_figures_eq k code0 _ 5 v S1 fl at_ o s640 cbit (by omega) (by decide) v32 v1 (by show _ / (_ / 32) = v; omega)
      have cl := clsOf_at at_
      have at2 := set_at (y := rCell code0 (cod (run first (sy.map (stepOf ty) ++ done.map fg)) (fg v))) at_
      have fl2 := flat_set (k := k) fl (flat_r code0 (cod (run first (sy.map (stepOf ty) ++ done.map fg)) (fg v)))
      have rsn : run first (sy.map (stepOf ty) ++ (done ++ [v]).map fg) = cod (run first (sy.map (stepOf ty) ++ done.map fg)) (fg v) := by rw [List.map_append, ← List.append_assoc, run_app]; rfl
      rw [rsn]
      have FF : s_RangeReader_find_figures [.obj k, nI 5] S1 = .ok (nI v) (S1.set k (rCell code0 (cod (run first (sy.map (stepOf ty) ++ done.map fg)) (fg v)))) := FF
      generalize S1.set k (rCell code0 (cod (run first (sy.map (stepOf ty) ++ done.map fg)) (fg v))) = T2 at *
      refine ⟨E x9 (.val (nI v)), _, T2, by rw [hE', hE']; rfl, .inl (skip_if (S1 := T2) (not_is1 (d := nI v) (S1 := T2) ?_ ?_ rfl)), ⟨_, rfl⟩, fl2, at2⟩
      · rw [hE']
        have FF' : s_RangeReader_find_figures [.obj k, .int 5] S1 = .ok (nI v) T2 := FF
        generalize s_RangeReader_find_figures = F at FF'
        simp [R.bind, cl, FF']
      · rw [hE']
        simp
    · subst eG
      rw [hts, hfn] at at_
      have EN := ended_eq k code0 fn S1 at_ ofn (by omega)
      have cl := clsOf_at at_
      have e1 : (code fn == code0) = true := by rw [hc0]; exact beq_self_eq_true _
      rw [e1] at EN
      have nr2 := new_reader (code0 ++ [49]) S1
      have at3 := new_at S1 (rCell (code0 ++ [49]) first)
      have EN2 := ended_eq S1.length (code0 ++ [49]) first (S1 ++ [rCell (code0 ++ [49]) first]) at3 first_ok (by decide)
      rw [code_first] at EN2
      have e2 : (([] : List Nat) == code0 ++ [49]) = false := beq_eq_false_iff_ne.mpr fun z => by have := congrArg List.length z; simp at this
      rw [e2] at EN2
      have cl3 := clsOf_at at3
      have fl3 : Store.flat (S1 ++ [rCell (code0 ++ [49]) first]) = true := flat_new fl (flat_r _ _)
      have ad := add_str code0 [49] (by simp; omega)
      generalize hL : S1.length = L at *
      generalize S1 ++ [rCell (code0 ++ [49]) first] = T3 at *
      refine Fin.ret (S1 := T3) ?_ fl3
      rw [ev_eand, is_val1 (d := .bl true) (S1 := S1) ?_ ?_ rfl]
      · show ecall (s__law_is 8) _ _ S1 = _
        refine is_val1 (d := .bl false) (S1 := T3) ?_ ?_ rfl
        · generalize s_RangeReader_is_ended = F at EN2
          rw [ev_emeth, nr2 _ _ (by rw [hE']; simp [R.bind, ad])]
          simp [R.bind, cl3, EN2]
        · simp
      · rw [hE']
        generalize s_RangeReader_is_ended = F at EN
        simp [R.bind, cl, EN]
      · simp
end DL

end
section
set_option maxRecDepth 100000
set_option maxHeartbeats 1000000
namespace DL
open RC
theorem law_ok (ns : List Int) : ∃ S', s_law [.scr ns] [] = .ok (.bl true) S' := by
  suffices h : ∃ S', s_law [.scr ns] [] = .ok (.bl true) S' ∧ Store.flat S' = true by
    obtain ⟨S', e, _⟩ := h
    exact ⟨S', e⟩
  refine Fin.fn rfl ?_
  unfold b_law
  show Fin _ [.val (.scr ns), .no, .no, .no, .no] [] _
  refine Fin.range 3 (fun _ G S => Store.flat S = true ∧ ∃ a b c d, G = [.val (.scr ns), a, b, c, d]) (S0 := []) (irng1_nat (n := 3) rfl (by decide)) ⟨rfl, .no, .no, .no, .no, rfl⟩ (fun i G S hi ⟨fl, a, b, c, d, eG⟩ => ?_) fun G S ⟨fl, a, b, c, d, eG⟩ => ?_
  · subst eG
    obtain ⟨x, cx⟩ := cell_eq ns i S
    obtain ⟨ds, dr, dl, _⟩ := draws_eq x 40 S fl (by omega)
    obtain ⟨d0, hd0⟩ : ∃ d0, ds[0]? = some d0 := ⟨ds[0], by simp⟩
    obtain ⟨d1, hd1⟩ : ∃ d1, ds[1]? = some d1 := ⟨ds[1], by simp⟩
    have ix : ∀ i d, ds[i]? = some d → opIx (.lst (ds.map nI)) (nI i) = some (nI d) := fun i d h => by rw [ix_lst, List.getElem?_map, h]; rfl
    have ix0 : opIx (.lst (ds.map nI)) (.int 0) = some (nI d0) := ix 0 d0 hd0
    have ix1 : opIx (.lst (ds.map nI)) (.int 1) = some (nI d1) := ix 1 d1 hd1
    have m60 : opMod (nI d0) (.int 60) = some (nI (d0 % 60)) := mod_nat d0 60 (by decide)
    have m2 : opMod (nI d1) (.int 2) = some (nI (d1 % 2)) := mod_nat d1 2 (by decide)
    have p1 : opAdd (.int 1) (nI (d0 % 60)) = some (nI (1 + d0 % 60)) := by
      show some (D.int (1 + ((d0 % 60 : Nat) : Int))) = some (D.int ((1 + d0 % 60 : Nat) : Int))
      rw [Int.natCast_add]; rfl
    have fi : ∀ v : Nat, fInt [nI v] = some (nI v) := fun v => rfl
    have c2 : cutL (ds.map nI) (some 2) none = (ds.drop 2).map nI := by
      have := cut_drop (ds.map nI) 2
      rw [← List.map_drop] at this
      exact this
    have c30 : cutL (ds.map nI) (some 30) none = (ds.drop 30).map nI := by
      have := cut_drop (ds.map nI) 30
      rw [← List.map_drop] at this
      exact this
    generalize hn : 1 + d0 % 60 = n at p1
    generalize hs : d1 % 2 = side at m2
    have n1 : 1 ≤ n := by omega
    have n2 : n ≤ 60 := by omega
    have hside : side = 0 ∨ side = 1 := by omega
    obtain ⟨T1, w, f1⟩ := waits_eq n side S fl n1 n2 hside
    obtain ⟨T2, g, f2⟩ := goes_eq n side (ds.drop 2) T1 f1 n1 n2 hside (by rw [List.length_drop]; omega) (by rw [List.length_drop]; omega)
    obtain ⟨T3, q, f3⟩ := found_eq n (ds.drop 30) T2 f2 n2 (by rw [List.length_drop]; omega)
    have dr' : s__law_draws [.int x, .int 40] S = .ok (.lst (ds.map nI)) S := dr
    have cx' : s__law_cell [.scr ns, nI i] S = .ok (.int x) S := cx
    have t1 : ∀ (F : Fn) (E : Ex) (ts : Exs) (G : Env) (A A' : Store) (l : List D), ts G A = .ok l A → F l A = .ok (.bl true) A' → bnot (tru (ecall F ts)) G A = .ok false A' := fun F E ts G A A' l h1 h2 => by
      simp [R.bind, h1, h2]
    refine ⟨[.val (.scr ns), .val (nI i), b, c, d], [.val (.scr ns), .val (nI i), .val (.lst (ds.map nI)), .val (nI n), .val (nI side)], T3, rfl, .inl ?_, f3, _, _, _, _, rfl⟩
    refine seq_to (G1 := [.val (.scr ns), .val (nI i), .val (.lst (ds.map nI)), c, d]) (S1 := S) ?_ ?_
    · generalize s__law_draws = F at dr'
      generalize s__law_cell = Z at cx'
      simp only [ev_sset, ev_strict, ev_ecall, ev_econs, ev_evar, ev_look0, ev_lookS, ev_slook, R.bind, ev_enil, ev_hideV, ev_lookh0, ev_lookhS, cx', ev_ec, dr', List.set_cons_succ, List.set_cons_zero]
    refine seq_to (G1 := [.val (.scr ns), .val (nI i), .val (.lst (ds.map nI)), .val (nI n), .val (nI side)]) (S1 := S) ?_ ?_
    · simp only [ev_spar, ev_strict, ev_econs, ev_ebin, ev_ec, ev_ecal, ev_eix, ev_evar, ev_look0, ev_lookS, ev_slook, ev_deref_lst, ix0, ix1, R.bind, ev_enil, ev_hideV, ev_lookh0, ev_lookhS, fi, m60, hn, p1, m2, List.set_cons_succ, List.set_cons_zero]
    refine seq_to (G1 := [.val (.scr ns), .val (nI i), .val (.lst (ds.map nI)), .val (nI n), .val (nI side)]) (S1 := T2) ?_ ?_
    · refine skip_if (or_no (S1 := T1) (t1 _ (ec .non) _ _ _ _ _ ?_ w) (t1 _ (ec .non) _ _ _ _ _ ?_ g))
      · simp only [ev_econs, ev_evar, ev_look0, ev_lookS, ev_slook, ev_enil, R.bind, ev_hideV]
      · simp only [ev_econs, ev_evar, ev_look0, ev_lookS, ev_slook, ev_enil, R.bind, ev_hideV, ev_ecut, ev_osome, ev_onone, ev_ec, ev_cutLs, c2]
    · refine skip_if (t1 _ (ec .non) _ _ _ _ _ ?_ q)
      simp only [ev_econs, ev_evar, ev_look0, ev_lookS, ev_slook, ev_enil, R.bind, ev_hideV, ev_ecut, ev_osome, ev_onone, ev_ec, ev_cutLs, c30]
  · subst eG
    exact Fin.ret (by simp [R.bind]) fl
end DL

end
section
set_option maxRecDepth 100000
set_option maxHeartbeats 0

namespace DL
open PySem PySem.Spec PyProof.Rows L2
def d_fixed : He.DefD := ⟨("fixed", none), "fixed", "fixed", defArgs (top 4), defBody (top 4), defScope (top 4), [], []⟩
def d_size_of : He.DefD := ⟨("size_of", none), "size_of", "size_of", defArgs (top 5), defBody (top 5), defScope (top 5), [], []⟩
def d_bits_of : He.DefD := ⟨("bits_of", none), "bits_of", "bits_of", defArgs (top 7), defBody (top 7), defScope (top 7), [], []⟩
def d_tally_step : He.DefD := ⟨("tally_step", none), "tally_step", "tally_step", defArgs (top 9), defBody (top 9), defScope (top 9), [], []⟩
def d_tally_symbol : He.DefD := ⟨("tally_symbol", none), "tally_symbol", "tally_symbol", defArgs (top 10), defBody (top 10), defScope (top 10), [], []⟩
def d_first_state : He.DefD := ⟨("first_state", none), "first_state", "first_state", defArgs (top 14), defBody (top 14), defScope (top 14), [], []⟩
def d_coded_state : He.DefD := ⟨("coded_state", none), "coded_state", "coded_state", defArgs (top 15), defBody (top 15), defScope (top 15), [], []⟩
def d_state_of_steps : He.DefD := ⟨("state_of_steps", none), "state_of_steps", "state_of_steps", defArgs (top 16), defBody (top 16), defScope (top 16), [], []⟩
def d_has_multiple : He.DefD := ⟨("has_multiple", none), "has_multiple", "has_multiple", defArgs (top 17), defBody (top 17), defScope (top 17), [], []⟩
def d_free_figures : He.DefD := ⟨("free_figures", none), "free_figures", "free_figures", defArgs (top 18), defBody (top 18), defScope (top 18), [], []⟩
def d_state_code : He.DefD := ⟨("state_code", none), "state_code", "state_code", defArgs (top 19), defBody (top 19), defScope (top 19), [], []⟩
def d_state_settled : He.DefD := ⟨("state_settled", none), "state_settled", "state_settled", defArgs (top 20), defBody (top 20), defScope (top 20), [], []⟩
def d_code_of_steps : He.DefD := ⟨("code_of_steps", none), "code_of_steps", "code_of_steps", defArgs (top 21), defBody (top 21), defScope (top 21), [], []⟩
def d_code_length : He.DefD := ⟨("code_length", none), "code_length", "code_length", defArgs (top 22), defBody (top 22), defScope (top 22), [], []⟩
def d_settled_bytes : He.DefD := ⟨("settled_bytes", none), "settled_bytes", "settled_bytes", defArgs (top 23), defBody (top 23), defScope (top 23), [], []⟩
def d_RangeWriter___init__ : He.DefD := ⟨("RangeWriter", some "__init__"), "__init__", "RangeWriter.__init__", defArgs (inClass (top 24) 0), defBody (inClass (top 24) 0), defScope (inClass (top 24) 0), [], []⟩
def d_RangeWriter_put_step : He.DefD := ⟨("RangeWriter", some "put_step"), "put_step", "RangeWriter.put_step", defArgs (inClass (top 24) 1), defBody (inClass (top 24) 1), defScope (inClass (top 24) 1), [], []⟩
def d_RangeWriter_code_so_far : He.DefD := ⟨("RangeWriter", some "code_so_far"), "code_so_far", "RangeWriter.code_so_far", defArgs (inClass (top 24) 2), defBody (inClass (top 24) 2), defScope (inClass (top 24) 2), [], []⟩
def d_RangeReader___init__ : He.DefD := ⟨("RangeReader", some "__init__"), "__init__", "RangeReader.__init__", defArgs (inClass (top 25) 0), defBody (inClass (top 25) 0), defScope (inClass (top 25) 0), [], []⟩
def d_RangeReader_found_place : He.DefD := ⟨("RangeReader", some "found_place"), "found_place", "RangeReader.found_place", defArgs (inClass (top 25) 1), defBody (inClass (top 25) 1), defScope (inClass (top 25) 1), [], []⟩
def d_RangeReader_find_symbol : He.DefD := ⟨("RangeReader", some "find_symbol"), "find_symbol", "RangeReader.find_symbol", defArgs (inClass (top 25) 2), defBody (inClass (top 25) 2), defScope (inClass (top 25) 2), [], []⟩
def d_RangeReader_find_figures : He.DefD := ⟨("RangeReader", some "find_figures"), "find_figures", "RangeReader.find_figures", defArgs (inClass (top 25) 3), defBody (inClass (top 25) 3), defScope (inClass (top 25) 3), [], []⟩
def d_RangeReader_is_ended : He.DefD := ⟨("RangeReader", some "is_ended"), "is_ended", "RangeReader.is_ended", defArgs (inClass (top 25) 4), defBody (inClass (top 25) 4), defScope (inClass (top 25) 4), [], []⟩
def d__law_cell : He.DefD := ⟨("_law_cell", none), "_law_cell", "_law_cell", defArgs (top 27), defBody (top 27), defScope (top 27), [], []⟩
def d__law_draws : He.DefD := ⟨("_law_draws", none), "_law_draws", "_law_draws", defArgs (top 28), defBody (top 28), defScope (top 28), [], []⟩
def d__law_is_integer : He.DefD := ⟨("_law_is_integer", none), "_law_is_integer", "_law_is_integer", defArgs (top 29), defBody (top 29), defScope (top 29), [], []⟩
def d__law_is : He.DefD := ⟨("_law_is", none), "_law_is", "_law_is", defArgs (top 30), defBody (top 30), defScope (top 30), [], []⟩
def d__law_number : He.DefD := ⟨("_law_number", none), "_law_number", "_law_number", defArgs (top 31), defBody (top 31), defScope (top 31), [], []⟩
def d__law_made_steps : He.DefD := ⟨("_law_made_steps", none), "_law_made_steps", "_law_made_steps", defArgs (top 32), defBody (top 32), defScope (top 32), [], []⟩
def d__law_coded : He.DefD := ⟨("_law_coded", none), "_law_coded", "_law_coded", defArgs (top 33), defBody (top 33), defScope (top 33), [], []⟩
def d__law_settled : He.DefD := ⟨("_law_settled", none), "_law_settled", "_law_settled", defArgs (top 34), defBody (top 34), defScope (top 34), [], []⟩
def d__law_fixed : He.DefD := ⟨("_law_fixed", none), "_law_fixed", "_law_fixed", defArgs (top 35), defBody (top 35), defScope (top 35), [], []⟩
def d__law_state_code : He.DefD := ⟨("_law_state_code", none), "_law_state_code", "_law_state_code", defArgs (top 36), defBody (top 36), defScope (top 36), [], []⟩
def d__law_state : He.DefD := ⟨("_law_state", none), "_law_state", "_law_state", defArgs (top 37), defBody (top 37), defScope (top 37), [], []⟩
def d__law_code : He.DefD := ⟨("_law_code", none), "_law_code", "_law_code", defArgs (top 38), defBody (top 38), defScope (top 38), [], []⟩
def d__law_bytes_in : He.DefD := ⟨("_law_bytes_in", none), "_law_bytes_in", "_law_bytes_in", defArgs (top 39), defBody (top 39), defScope (top 39), [], []⟩
def d__law_waits : He.DefD := ⟨("_law_waits", none), "_law_waits", "_law_waits", defArgs (top 40), defBody (top 40), defScope (top 40), [], []⟩
def d__law_goes_on : He.DefD := ⟨("_law_goes_on", none), "_law_goes_on", "_law_goes_on", defArgs (top 41), defBody (top 41), defScope (top 41), [], []⟩
def d__law_found_again : He.DefD := ⟨("_law_found_again", none), "_law_found_again", "_law_found_again", defArgs (top 42), defBody (top 42), defScope (top 42), [], []⟩
def d_law : He.DefD := ⟨("law", none), "law", "law", defArgs (top 43), defBody (top 43), defScope (top 43), [], []⟩
def fn : List He.DefD := [d_fixed, d_size_of, d_bits_of, d_tally_step, d_tally_symbol, d_first_state, d_coded_state, d_state_of_steps, d_has_multiple, d_free_figures, d_state_code, d_state_settled, d_code_of_steps, d_code_length, d_settled_bytes, d_RangeWriter___init__, d_RangeWriter_put_step, d_RangeWriter_code_so_far, d_RangeReader___init__, d_RangeReader_found_place, d_RangeReader_find_symbol, d_RangeReader_find_figures, d_RangeReader_is_ended, d__law_cell, d__law_draws, d__law_is_integer, d__law_is, d__law_number, d__law_made_steps, d__law_coded, d__law_settled, d__law_fixed, d__law_state_code, d__law_state, d__law_code, d__law_bytes_in, d__law_waits, d__law_goes_on, d__law_found_again, d_law]
def fa : List He.Fa := [.free "len", .free "range", .free "sum", .free "tuple", .free "int", .free "abs", .free "min", .free "max", .free "isinstance", .free "all", .free "any", .free "str", .free "list", .free "enumerate", .free "zip", .free "sorted", .free "bool", .glo "fixed", .glo "size_of", .glo "bits_of", .glo "tally_step", .glo "tally_symbol", .glo "first_state", .glo "coded_state", .glo "state_of_steps", .glo "has_multiple", .glo "free_figures", .glo "state_code", .glo "state_settled", .glo "code_of_steps", .glo "code_length", .glo "settled_bytes", .glo "_law_cell", .glo "_law_draws", .glo "_law_is_integer", .glo "_law_is", .glo "_law_number", .glo "_law_made_steps", .glo "_law_coded", .glo "_law_settled", .glo "_law_fixed", .glo "_law_state_code", .glo "_law_state", .glo "_law_code", .glo "_law_bytes_in", .glo "_law_waits", .glo "_law_goes_on", .glo "_law_found_again", .glo "law", .glo "RangeWriter", .cls "RangeWriter", .mkr "RangeWriter", .meth "RangeWriter" "put_step", .meth "RangeWriter" "code_so_far", .glo "RangeReader", .cls "RangeReader", .mkr "RangeReader", .meth "RangeReader" "found_place", .meth "RangeReader" "find_symbol", .meth "RangeReader" "find_figures", .meth "RangeReader" "is_ended", .int "BEGINNING" 32, .int "LEAST" 16777216]
def exs (K : PySem.W.Frag) : List Bool := [((cd_RangeWriter K).fl.all fun f => (PySem.W.findIn K (.ref (cd_RangeWriter K).C) f == some none)), ((cd_RangeReader K).fl.all fun f => (PySem.W.findIn K (.ref (cd_RangeReader K).C) f == some none))]
def exK (K : PySem.W.Frag) : Bool := (exs K).all id
theorem exK_at {K : PySem.W.Frag} (h : exK K = true) (i : Nat) {b : Bool} (e : (exs K)[i]? = some b) : b = true := List.all_eq_true.mp h b (List.mem_of_getElem? e)
def loose0 : List Str := ["__name__", "PsalteryError", "Damaged", "fixed", "size_of", "bits_of", "tally_step", "tally_symbol", "BEGINNING", "LEAST", "first_state", "coded_state", "state_of_steps", "has_multiple", "free_figures", "state_code", "state_settled", "code_of_steps", "code_length", "settled_bytes", "RangeWriter", "RangeReader", "_law_cell", "_law_draws", "_law_is_integer", "_law_is", "_law_number", "_law_made_steps", "_law_coded", "_law_settled"]
def loose1 : List Str := ["_law_fixed", "_law_state_code", "_law_state", "_law_code", "_law_bytes_in", "_law_waits", "_law_goes_on", "_law_found_again"]
def loose : List Str := loose0 ++ loose1
abbrev R_ : PySem.W.OpenRow := PySem.W.OpenLaw.row PySem.Challenge.rw_psaltery_k28_whole_carries_that_wait
abbrev hk : PySem.W.Hook := hookY 6 fa fn exK
def ob (s : PySem.W.SharedT) : AlY := obsY 6 fa fn exK (HandSHeadRun.getT s)
theorem ob_eq (s : PySem.W.SharedT) : ob s = hk.obs s.abs := obsY_eq (HandSHeadRun.getT_eq s)
theorem run (w : World) : HandSHeadRun.RunEq R_ (PySem.W.view R_.prog [43]) hk ob 20000 loose w := by
  intro os
  kernel_rfl
end DL
end
section
set_option maxRecDepth 100000
set_option maxHeartbeats 4000000

namespace DL
open PySem PySem.Spec PyProof.Rows L2
theorem facts {P : Program} {w : World} {K : PySem.W.Frag} {h : Heap} {mg : Str → Option Value} {f : Addr} (X : K.In h) (G : h.Ns mainGlobals mg) (hfa : mg ("law" : Str) = some (.ref f)) (hex : exK K = true) (c : He.SaysD fa fn K) : ∃ fd : FuncData, (∀ (s : Shared) (v : Value), BindsTo s fd ⟨[v], []⟩ [("script", v)]) ∧ (∀ i cd, ct K i = some cd → CDok K cd) ∧ ∀ base : Heap, K.In base → base.Ns mainGlobals mg → FnOk P w K mg base CX0 13 f fd ["script"] (spD K (ct K) s_law) := by
  obtain ⟨fd_fixed, F_fixed⟩ := c.def_ 0 (d := d_fixed) rfl
  obtain ⟨fd_size_of, F_size_of⟩ := c.def_ 1 (d := d_size_of) rfl
  obtain ⟨fd_bits_of, F_bits_of⟩ := c.def_ 2 (d := d_bits_of) rfl
  obtain ⟨fd_tally_step, F_tally_step⟩ := c.def_ 3 (d := d_tally_step) rfl
  obtain ⟨fd_tally_symbol, F_tally_symbol⟩ := c.def_ 4 (d := d_tally_symbol) rfl
  obtain ⟨fd_first_state, F_first_state⟩ := c.def_ 5 (d := d_first_state) rfl
  obtain ⟨fd_coded_state, F_coded_state⟩ := c.def_ 6 (d := d_coded_state) rfl
  obtain ⟨fd_state_of_steps, F_state_of_steps⟩ := c.def_ 7 (d := d_state_of_steps) rfl
  obtain ⟨fd_has_multiple, F_has_multiple⟩ := c.def_ 8 (d := d_has_multiple) rfl
  obtain ⟨fd_free_figures, F_free_figures⟩ := c.def_ 9 (d := d_free_figures) rfl
  obtain ⟨fd_state_code, F_state_code⟩ := c.def_ 10 (d := d_state_code) rfl
  obtain ⟨fd_state_settled, F_state_settled⟩ := c.def_ 11 (d := d_state_settled) rfl
  obtain ⟨fd_code_of_steps, F_code_of_steps⟩ := c.def_ 12 (d := d_code_of_steps) rfl
  obtain ⟨fd_code_length, F_code_length⟩ := c.def_ 13 (d := d_code_length) rfl
  obtain ⟨fd_settled_bytes, F_settled_bytes⟩ := c.def_ 14 (d := d_settled_bytes) rfl
  obtain ⟨fd_RangeWriter___init__, F_RangeWriter___init__⟩ := c.def_ 15 (d := d_RangeWriter___init__) rfl
  obtain ⟨fd_RangeWriter_put_step, F_RangeWriter_put_step⟩ := c.def_ 16 (d := d_RangeWriter_put_step) rfl
  obtain ⟨fd_RangeWriter_code_so_far, F_RangeWriter_code_so_far⟩ := c.def_ 17 (d := d_RangeWriter_code_so_far) rfl
  obtain ⟨fd_RangeReader___init__, F_RangeReader___init__⟩ := c.def_ 18 (d := d_RangeReader___init__) rfl
  obtain ⟨fd_RangeReader_found_place, F_RangeReader_found_place⟩ := c.def_ 19 (d := d_RangeReader_found_place) rfl
  obtain ⟨fd_RangeReader_find_symbol, F_RangeReader_find_symbol⟩ := c.def_ 20 (d := d_RangeReader_find_symbol) rfl
  obtain ⟨fd_RangeReader_find_figures, F_RangeReader_find_figures⟩ := c.def_ 21 (d := d_RangeReader_find_figures) rfl
  obtain ⟨fd_RangeReader_is_ended, F_RangeReader_is_ended⟩ := c.def_ 22 (d := d_RangeReader_is_ended) rfl
  obtain ⟨fd__law_cell, F__law_cell⟩ := c.def_ 23 (d := d__law_cell) rfl
  obtain ⟨fd__law_draws, F__law_draws⟩ := c.def_ 24 (d := d__law_draws) rfl
  obtain ⟨fd__law_is_integer, F__law_is_integer⟩ := c.def_ 25 (d := d__law_is_integer) rfl
  obtain ⟨fd__law_is, F__law_is⟩ := c.def_ 26 (d := d__law_is) rfl
  obtain ⟨fd__law_number, F__law_number⟩ := c.def_ 27 (d := d__law_number) rfl
  obtain ⟨fd__law_made_steps, F__law_made_steps⟩ := c.def_ 28 (d := d__law_made_steps) rfl
  obtain ⟨fd__law_coded, F__law_coded⟩ := c.def_ 29 (d := d__law_coded) rfl
  obtain ⟨fd__law_settled, F__law_settled⟩ := c.def_ 30 (d := d__law_settled) rfl
  obtain ⟨fd__law_fixed, F__law_fixed⟩ := c.def_ 31 (d := d__law_fixed) rfl
  obtain ⟨fd__law_state_code, F__law_state_code⟩ := c.def_ 32 (d := d__law_state_code) rfl
  obtain ⟨fd__law_state, F__law_state⟩ := c.def_ 33 (d := d__law_state) rfl
  obtain ⟨fd__law_code, F__law_code⟩ := c.def_ 34 (d := d__law_code) rfl
  obtain ⟨fd__law_bytes_in, F__law_bytes_in⟩ := c.def_ 35 (d := d__law_bytes_in) rfl
  obtain ⟨fd__law_waits, F__law_waits⟩ := c.def_ 36 (d := d__law_waits) rfl
  obtain ⟨fd__law_goes_on, F__law_goes_on⟩ := c.def_ 37 (d := d__law_goes_on) rfl
  obtain ⟨fd__law_found_again, F__law_found_again⟩ := c.def_ 38 (d := d__law_found_again) rfl
  obtain ⟨fd_law, F_law⟩ := c.def_ 39 (d := d_law) rfl
  have B : BX mg := ⟨He.free_ok X G (c.fact 0 (f := .free "len") rfl), He.free_ok X G (c.fact 1 (f := .free "range") rfl), He.free_ok X G (c.fact 2 (f := .free "sum") rfl), He.free_ok X G (c.fact 3 (f := .free "tuple") rfl), He.free_ok X G (c.fact 4 (f := .free "int") rfl), He.free_ok X G (c.fact 5 (f := .free "abs") rfl), He.free_ok X G (c.fact 6 (f := .free "min") rfl), He.free_ok X G (c.fact 7 (f := .free "max") rfl), He.free_ok X G (c.fact 8 (f := .free "isinstance") rfl), He.free_ok X G (c.fact 9 (f := .free "all") rfl), He.free_ok X G (c.fact 10 (f := .free "any") rfl), He.free_ok X G (c.fact 11 (f := .free "str") rfl), He.free_ok X G (c.fact 12 (f := .free "list") rfl), He.free_ok X G (c.fact 13 (f := .free "enumerate") rfl), He.free_ok X G (c.fact 14 (f := .free "zip") rfl), He.free_ok X G (c.fact 15 (f := .free "sorted") rfl), He.free_ok X G (c.fact 16 (f := .free "bool") rfl)⟩
  have g_BEGINNING := He.int_ok X G (c.fact 61 (f := .int "BEGINNING" 32) rfl)
  have g_LEAST := He.int_ok X G (c.fact 62 (f := .int "LEAST" 16777216) rfl)
  have C_RangeWriter : CDok K (cd_RangeWriter K) := cd_ok (He.cls_ok (c.fact 50 (f := .cls "RangeWriter") rfl)) (exK_at hex 0 rfl) (show (["sent", "state"] : List Str).Nodup by decide) (show (["sent", "state"] : List Str).length ≤ 900 by decide)
  have C_RangeReader : CDok K (cd_RangeReader K) := cd_ok (He.cls_ok (c.fact 55 (f := .cls "RangeReader") rfl)) (exK_at hex 1 rfl) (show (["bits", "state"] : List Str).Nodup by decide) (show (["bits", "state"] : List Str).length ≤ 900 by decide)
  cases hfa.symm.trans (He.glo_ok X G (c.fact 48 (f := .glo "law") rfl))
  refine ⟨fd_law, fun s v => FunD.bindsA (ps := ["script"]) F_law (fun _ _ _ _ _ _ us hl => match us, hl with | [_], _ => rfl) s [v] rfl, fun i cd e => ?_, fun base _ _ => ?_⟩
  · unfold ct at e
    split at e
    · cases e; exact C_RangeWriter
    · cases e; exact C_RangeReader
    · cases e
  ·
    have A_fixed := ok_fixed (P := P) (w := w) (base := base) B F_fixed
    have FI_fixed : FI P w K mg base (ct K) 1 "fixed" s_fixed := ⟨_, (He.glo_ok X G (c.fact 17 (f := .glo "fixed") rfl)), F_fixed.kp, A_fixed⟩
    have A_size_of := ok_size_of (P := P) (w := w) (base := base) B F_size_of
    have FI_size_of : FI P w K mg base (ct K) 1 "size_of" s_size_of := ⟨_, (He.glo_ok X G (c.fact 18 (f := .glo "size_of") rfl)), F_size_of.kp, A_size_of⟩
    have A_bits_of := ok_bits_of (P := P) (w := w) (base := base) B FI_fixed F_bits_of
    have FI_bits_of : FI P w K mg base (ct K) 2 "bits_of" s_bits_of := ⟨_, (He.glo_ok X G (c.fact 19 (f := .glo "bits_of") rfl)), F_bits_of.kp, A_bits_of⟩
    have A_tally_step := ok_tally_step (P := P) (w := w) (base := base) B F_tally_step
    have FI_tally_step : FI P w K mg base (ct K) 1 "tally_step" s_tally_step := ⟨_, (He.glo_ok X G (c.fact 20 (f := .glo "tally_step") rfl)), F_tally_step.kp, A_tally_step⟩
    have A_tally_symbol := ok_tally_symbol (P := P) (w := w) (base := base) B F_tally_symbol
    have FI_tally_symbol : FI P w K mg base (ct K) 1 "tally_symbol" s_tally_symbol := ⟨_, (He.glo_ok X G (c.fact 21 (f := .glo "tally_symbol") rfl)), F_tally_symbol.kp, A_tally_symbol⟩
    have A_first_state := ok_first_state (P := P) (w := w) (base := base) B g_BEGINNING F_first_state
    have FI_first_state : FI P w K mg base (ct K) 1 "first_state" s_first_state := ⟨_, (He.glo_ok X G (c.fact 22 (f := .glo "first_state") rfl)), F_first_state.kp, A_first_state⟩
    have A_coded_state := ok_coded_state (P := P) (w := w) (base := base) B g_LEAST F_coded_state
    have FI_coded_state : FI P w K mg base (ct K) 1 "coded_state" s_coded_state := ⟨_, (He.glo_ok X G (c.fact 23 (f := .glo "coded_state") rfl)), F_coded_state.kp, A_coded_state⟩
    have A_state_of_steps := ok_state_of_steps (P := P) (w := w) (base := base) B FI_coded_state FI_first_state F_state_of_steps
    have FI_state_of_steps : FI P w K mg base (ct K) 2 "state_of_steps" s_state_of_steps := ⟨_, (He.glo_ok X G (c.fact 24 (f := .glo "state_of_steps") rfl)), F_state_of_steps.kp, A_state_of_steps⟩
    have A_has_multiple := ok_has_multiple (P := P) (w := w) (base := base) B F_has_multiple
    have FI_has_multiple : FI P w K mg base (ct K) 1 "has_multiple" s_has_multiple := ⟨_, (He.glo_ok X G (c.fact 25 (f := .glo "has_multiple") rfl)), F_has_multiple.kp, A_has_multiple⟩
    have A_free_figures := ok_free_figures (P := P) (w := w) (base := base) B FI_has_multiple FI_size_of F_free_figures
    have FI_free_figures : FI P w K mg base (ct K) 2 "free_figures" s_free_figures := ⟨_, (He.glo_ok X G (c.fact 26 (f := .glo "free_figures") rfl)), F_free_figures.kp, A_free_figures⟩
    have A_state_code := ok_state_code (P := P) (w := w) (base := base) B FI_fixed FI_free_figures F_state_code
    have FI_state_code : FI P w K mg base (ct K) 3 "state_code" s_state_code := ⟨_, (He.glo_ok X G (c.fact 27 (f := .glo "state_code") rfl)), F_state_code.kp, A_state_code⟩
    have A_state_settled := ok_state_settled (P := P) (w := w) (base := base) B F_state_settled
    have FI_state_settled : FI P w K mg base (ct K) 1 "state_settled" s_state_settled := ⟨_, (He.glo_ok X G (c.fact 28 (f := .glo "state_settled") rfl)), F_state_settled.kp, A_state_settled⟩
    have A_code_of_steps := ok_code_of_steps (P := P) (w := w) (base := base) B FI_state_code FI_state_of_steps F_code_of_steps
    have FI_code_of_steps : FI P w K mg base (ct K) 4 "code_of_steps" s_code_of_steps := ⟨_, (He.glo_ok X G (c.fact 29 (f := .glo "code_of_steps") rfl)), F_code_of_steps.kp, A_code_of_steps⟩
    have A_code_length := ok_code_length (P := P) (w := w) (base := base) B FI_free_figures FI_state_of_steps F_code_length
    have FI_code_length : FI P w K mg base (ct K) 3 "code_length" s_code_length := ⟨_, (He.glo_ok X G (c.fact 30 (f := .glo "code_length") rfl)), F_code_length.kp, A_code_length⟩
    have A_settled_bytes := ok_settled_bytes (P := P) (w := w) (base := base) B FI_state_of_steps FI_state_settled F_settled_bytes
    have FI_settled_bytes : FI P w K mg base (ct K) 3 "settled_bytes" s_settled_bytes := ⟨_, (He.glo_ok X G (c.fact 31 (f := .glo "settled_bytes") rfl)), F_settled_bytes.kp, A_settled_bytes⟩
    have A_RangeWriter___init__ := ok_RangeWriter___init__ (P := P) (w := w) (base := base) B FI_first_state F_RangeWriter___init__
    have N_RangeWriter : NI P w K mg base (ct K) 2 "RangeWriter" (cd_RangeWriter K).C s_RangeWriter___init__ := ⟨_, (He.glo_ok X G (c.fact 49 (f := .glo "RangeWriter") rfl)), He.mkr_ok (c.fact 51 (f := .mkr "RangeWriter") rfl), A_RangeWriter___init__⟩
    have A_RangeWriter_put_step := ok_RangeWriter_put_step (P := P) (w := w) (base := base) B FI_coded_state FI_state_settled F_RangeWriter_put_step
    have M_RangeWriter_put_step : MI P w K mg base (ct K) 2 (cd_RangeWriter K).C "put_step" s_RangeWriter_put_step := ⟨_, He.meth_ok (c.fact 52 (f := .meth "RangeWriter" "put_step") rfl), A_RangeWriter_put_step⟩
    have A_RangeWriter_code_so_far := ok_RangeWriter_code_so_far (P := P) (w := w) (base := base) B FI_bits_of FI_state_code F_RangeWriter_code_so_far
    have M_RangeWriter_code_so_far : MI P w K mg base (ct K) 4 (cd_RangeWriter K).C "code_so_far" s_RangeWriter_code_so_far := ⟨_, He.meth_ok (c.fact 53 (f := .meth "RangeWriter" "code_so_far") rfl), A_RangeWriter_code_so_far⟩
    have A_RangeReader___init__ := ok_RangeReader___init__ (P := P) (w := w) (base := base) B FI_first_state F_RangeReader___init__
    have N_RangeReader : NI P w K mg base (ct K) 2 "RangeReader" (cd_RangeReader K).C s_RangeReader___init__ := ⟨_, (He.glo_ok X G (c.fact 54 (f := .glo "RangeReader") rfl)), He.mkr_ok (c.fact 56 (f := .mkr "RangeReader") rfl), A_RangeReader___init__⟩
    have A_RangeReader_found_place := ok_RangeReader_found_place (P := P) (w := w) (base := base) B F_RangeReader_found_place
    have M_RangeReader_found_place : MI P w K mg base (ct K) 1 (cd_RangeReader K).C "found_place" s_RangeReader_found_place := ⟨_, He.meth_ok (c.fact 57 (f := .meth "RangeReader" "found_place") rfl), A_RangeReader_found_place⟩
    have A_RangeReader_find_symbol := ok_RangeReader_find_symbol (P := P) (w := w) (base := base) B C_RangeReader M_RangeReader_found_place FI_coded_state FI_tally_step FI_tally_symbol F_RangeReader_find_symbol
    have M_RangeReader_find_symbol : MI P w K mg base (ct K) 2 (cd_RangeReader K).C "find_symbol" s_RangeReader_find_symbol := ⟨_, He.meth_ok (c.fact 58 (f := .meth "RangeReader" "find_symbol") rfl), A_RangeReader_find_symbol⟩
    have A_RangeReader_find_figures := ok_RangeReader_find_figures (P := P) (w := w) (base := base) B C_RangeReader M_RangeReader_found_place FI_coded_state F_RangeReader_find_figures
    have M_RangeReader_find_figures : MI P w K mg base (ct K) 2 (cd_RangeReader K).C "find_figures" s_RangeReader_find_figures := ⟨_, He.meth_ok (c.fact 59 (f := .meth "RangeReader" "find_figures") rfl), A_RangeReader_find_figures⟩
    have A_RangeReader_is_ended := ok_RangeReader_is_ended (P := P) (w := w) (base := base) B FI_state_code F_RangeReader_is_ended
    have M_RangeReader_is_ended : MI P w K mg base (ct K) 4 (cd_RangeReader K).C "is_ended" s_RangeReader_is_ended := ⟨_, He.meth_ok (c.fact 60 (f := .meth "RangeReader" "is_ended") rfl), A_RangeReader_is_ended⟩
    have A__law_cell := ok__law_cell (P := P) (w := w) (base := base) B F__law_cell
    have FI__law_cell : FI P w K mg base (ct K) 1 "_law_cell" s__law_cell := ⟨_, (He.glo_ok X G (c.fact 32 (f := .glo "_law_cell") rfl)), F__law_cell.kp, A__law_cell⟩
    have A__law_draws := ok__law_draws (P := P) (w := w) (base := base) B F__law_draws
    have FI__law_draws : FI P w K mg base (ct K) 1 "_law_draws" s__law_draws := ⟨_, (He.glo_ok X G (c.fact 33 (f := .glo "_law_draws") rfl)), F__law_draws.kp, A__law_draws⟩
    have A__law_is_integer := ok__law_is_integer (P := P) (w := w) (base := base) B F__law_is_integer
    have FI__law_is_integer : FI P w K mg base (ct K) 1 "_law_is_integer" s__law_is_integer := ⟨_, (He.glo_ok X G (c.fact 34 (f := .glo "_law_is_integer") rfl)), F__law_is_integer.kp, A__law_is_integer⟩
    have A__law_is := ok__law_is (P := P) (w := w) (base := base) B FI__law_is_integer F__law_is (He.glo_ok X G (c.fact 35 (f := .glo "_law_is") rfl)) 8
    have FI__law_is : FI P w K mg base (ct K) 10 "_law_is" (s__law_is 8) := ⟨_, (He.glo_ok X G (c.fact 35 (f := .glo "_law_is") rfl)), F__law_is.kp, A__law_is⟩
    have A__law_number := ok__law_number (P := P) (w := w) (base := base) B F__law_number
    have FI__law_number : FI P w K mg base (ct K) 1 "_law_number" s__law_number := ⟨_, (He.glo_ok X G (c.fact 36 (f := .glo "_law_number") rfl)), F__law_number.kp, A__law_number⟩
    have A__law_made_steps := ok__law_made_steps (P := P) (w := w) (base := base) B F__law_made_steps
    have FI__law_made_steps : FI P w K mg base (ct K) 1 "_law_made_steps" s__law_made_steps := ⟨_, (He.glo_ok X G (c.fact 37 (f := .glo "_law_made_steps") rfl)), F__law_made_steps.kp, A__law_made_steps⟩
    have A__law_coded := ok__law_coded (P := P) (w := w) (base := base) B F__law_coded
    have FI__law_coded : FI P w K mg base (ct K) 1 "_law_coded" s__law_coded := ⟨_, (He.glo_ok X G (c.fact 38 (f := .glo "_law_coded") rfl)), F__law_coded.kp, A__law_coded⟩
    have A__law_settled := ok__law_settled (P := P) (w := w) (base := base) B F__law_settled
    have FI__law_settled : FI P w K mg base (ct K) 1 "_law_settled" s__law_settled := ⟨_, (He.glo_ok X G (c.fact 39 (f := .glo "_law_settled") rfl)), F__law_settled.kp, A__law_settled⟩
    have A__law_fixed := ok__law_fixed (P := P) (w := w) (base := base) B F__law_fixed
    have FI__law_fixed : FI P w K mg base (ct K) 1 "_law_fixed" s__law_fixed := ⟨_, (He.glo_ok X G (c.fact 40 (f := .glo "_law_fixed") rfl)), F__law_fixed.kp, A__law_fixed⟩
    have A__law_state_code := ok__law_state_code (P := P) (w := w) (base := base) B FI__law_fixed F__law_state_code
    have FI__law_state_code : FI P w K mg base (ct K) 2 "_law_state_code" s__law_state_code := ⟨_, (He.glo_ok X G (c.fact 41 (f := .glo "_law_state_code") rfl)), F__law_state_code.kp, A__law_state_code⟩
    have A__law_state := ok__law_state (P := P) (w := w) (base := base) B FI__law_coded F__law_state
    have FI__law_state : FI P w K mg base (ct K) 2 "_law_state" s__law_state := ⟨_, (He.glo_ok X G (c.fact 42 (f := .glo "_law_state") rfl)), F__law_state.kp, A__law_state⟩
    have A__law_code := ok__law_code (P := P) (w := w) (base := base) B FI__law_state FI__law_state_code F__law_code
    have FI__law_code : FI P w K mg base (ct K) 3 "_law_code" s__law_code := ⟨_, (He.glo_ok X G (c.fact 43 (f := .glo "_law_code") rfl)), F__law_code.kp, A__law_code⟩
    have A__law_bytes_in := ok__law_bytes_in (P := P) (w := w) (base := base) B FI__law_number F__law_bytes_in
    have FI__law_bytes_in : FI P w K mg base (ct K) 2 "_law_bytes_in" s__law_bytes_in := ⟨_, (He.glo_ok X G (c.fact 44 (f := .glo "_law_bytes_in") rfl)), F__law_bytes_in.kp, A__law_bytes_in⟩
    have A__law_waits := ok__law_waits (P := P) (w := w) (base := base) B C_RangeWriter N_RangeWriter M_RangeWriter_code_so_far M_RangeWriter_put_step FI__law_bytes_in FI__law_is FI_code_length FI_code_of_steps FI_settled_bytes F__law_waits
    have FI__law_waits : FI P w K mg base (ct K) 12 "_law_waits" s__law_waits := ⟨_, (He.glo_ok X G (c.fact 45 (f := .glo "_law_waits") rfl)), F__law_waits.kp, A__law_waits⟩
    have A__law_goes_on := ok__law_goes_on (P := P) (w := w) (base := base) B C_RangeWriter N_RangeWriter M_RangeWriter_code_so_far M_RangeWriter_put_step FI__law_coded FI__law_is FI__law_made_steps FI__law_settled FI__law_state_code FI_settled_bytes FI_state_of_steps F__law_goes_on
    have FI__law_goes_on : FI P w K mg base (ct K) 12 "_law_goes_on" s__law_goes_on := ⟨_, (He.glo_ok X G (c.fact 46 (f := .glo "_law_goes_on") rfl)), F__law_goes_on.kp, A__law_goes_on⟩
    have A__law_found_again := ok__law_found_again (P := P) (w := w) (base := base) B C_RangeReader N_RangeReader M_RangeReader_find_figures M_RangeReader_find_symbol M_RangeReader_is_ended FI__law_code FI__law_is FI_code_of_steps F__law_found_again
    have FI__law_found_again : FI P w K mg base (ct K) 12 "_law_found_again" s__law_found_again := ⟨_, (He.glo_ok X G (c.fact 47 (f := .glo "_law_found_again") rfl)), F__law_found_again.kp, A__law_found_again⟩
    exact okE_law (P := P) (w := w) (base := base) B FI__law_cell FI__law_draws FI__law_found_again FI__law_goes_on FI__law_waits F_law
end DL
open PySem PySem.W PySem.Calls PyProof.Rows
theorem DL.walked (ok : ∀ ns : List Int, ns.length ≤ 63 → ∃ S', DL.s_law [.scr ns] [] = .ok (.bl true) S') : PySem.Challenge.rw_psaltery_k28_whole_carries_that_wait.Holds := by
  w_on; o_law
  refine HandSHeadRun.head_any (r := OpenLaw.row PySem.Challenge.rw_psaltery_k28_whole_carries_that_wait) (q := view (OpenLaw.row PySem.Challenge.rw_psaltery_k28_whole_carries_that_wait).prog [43]) (H := DL.hk) (ob := DL.ob) (M := 20000) (loose := DL.loose) (d := HandSHeadRun.topDef (OpenLaw.row PySem.Challenge.rw_psaltery_k28_whole_carries_that_wait).prog 43) (kwd := []) DL.ob_eq
    (by kernel_rfl) (fun s => by kernel_rfl) DL.run (by kernel_rfl) (by kernel_rfl) (by kernel_rfl) (by rfl) (by first | assumption | decide +kernel) (by decide +kernel) ⟨rfl, rfl, rfl, rfl, rfl, by decide +kernel⟩ ?hw ?hc
  case hw => w_witness2
  case hc =>
    refine L2.walk_ofE (l := PySem.Challenge.rw_psaltery_k28_whole_carries_that_wait) (n := 63) (k := 13) (x := "script") (CX := L2.CX0) rfl (by decide) (by kernel_rfl) ⟨rfl, by decide, by decide⟩ ?F (fun _ _ _ _ z => z)
    intro w mg fa h Y G hmg0
    obtain ⟨K, KX, hex, c⟩ := Y
    have hmg : mg ("law" : PySem.Str) = some (.ref fa) := by
      rw [← show (HandSHeadRun.topDef (OpenLaw.row PySem.Challenge.rw_psaltery_k28_whole_carries_that_wait).prog 43).name = ("law" : PySem.Str) by kernel_rfl]
      exact hmg0
    obtain ⟨fd, hb, cok, hF⟩ := DL.facts (P := (PySem.Challenge.rw_psaltery_k28_whole_carries_that_wait).prog) (w := w) KX G hmg hex c
    refine ⟨K, fd, _, KX, hb, fun H a ns hl _ hS => ?_, fun base b1 b2 => DL.FnOk.kf (hF base b1 b2)⟩
    obtain ⟨S', e⟩ := ok ns hl
    exact DL.law_sp cok e rfl hS
end
theorem PySem.Challenge.cw_psaltery_k28_whole_carries_that_wait_holds : PySem.Challenge.rw_psaltery_k28_whole_carries_that_wait.Holds := by
  exact DL.walked fun ns _ => DL.law_ok ns

