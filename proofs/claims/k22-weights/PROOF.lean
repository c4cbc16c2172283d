import PyProof.Rows.All
import Wide.All
import OpenK.AllK
import Wide.FinOn
import HandS.ForMost
import HandS.Walk
import HandS.Wide
import HandS.WideBits
import HandS.WideMore
import HandS.TupAny
import HandS.TupMul
import HandS.IsInst
import HandS.Zip
import HandS.Flow
import HandS.Style
import HandS.Conv
import HandS.Defaults
import HandS.HeadHook1
import HandS.HeadHook2
import KE.KTupSum
import HandS.Rev
import HandS.Head0
import HandS.Head1
import HandS.Head2
import HandS.HeadEnd
import KE.GoesMore
import KE.GoesEnum
import PySem.Challenge.RW_psaltery_k22_whole_weights_by_formulas
set_option Elab.async false
set_option linter.all false
section
set_option maxRecDepth 100000
set_option maxHeartbeats 2000000
/-! The data layer: the program's Python as plain functions over data, over the hand layer. -/
namespace DL
open PySem PySem.Spec PyProof.Rows L2

/-! ### data -/
inductive D where
  | non | bl (b : Bool) | int (i : Int) | str (s : List Nat) | tup (xs : List D) | lst (xs : List D) | obj (k : Nat) | scr (ns : List Int) | fl (k j : Nat)
deriving Inhabited

mutual
/-- no list within -/
def D.flat : D → Bool
  | .tup xs => D.flats xs
  | .lst _ => false
  | .scr _ => false
  | _ => true
def D.flats : List D → Bool
  | [] => true
  | x :: r => D.flat x && D.flats r
end

/-- a local name, a field: nothing, data, a list of its own -/
inductive Slot where
  | no | val (d : D) | own (xs : List D)
deriving Inhabited
abbrev Env := List Slot
structure Cell where
  cls : Nat
  fs : List Slot
abbrev Store := List Cell
structure Exc where
  cls : Nat
  arg : Option D

inductive R (α : Type) where
  | ok (a : α) (S : Store)
  | exc (x : Exc) (S : Store)
  | bad
@[reducible] def R.bind {α β : Type} (r : R α) (f : α → Store → R β) : R β := match r with
  | .ok a S => f a S
  | .exc x S => .exc x S
  | .bad => .bad
inductive Out where
  | nx (G : Env) (S : Store)
  | rt (d : D) (S : Store)
  | bk (G : Env) (S : Store)
  | ct (G : Env) (S : Store)
  | exc (x : Exc) (G : Env) (S : Store)
  | bad
abbrev Ex := Env → Store → R D
abbrev Exs := Env → Store → R (List D)
abbrev St := Env → Store → Out
abbrev Fn := List D → Store → R D

def Slot.look : Slot → Option D
  | .no => none
  | .val d => some d
  | .own xs => some (.lst xs)
def Slot.hide : Slot → Slot
  | .own _ => .no
  | s => s
def Slot.freeze : Slot → Slot
  | .own xs => .val (.lst xs)
  | s => s
def look (G : Env) (i : Nat) : Option D := match G[i]? with
  | some s => s.look
  | none => none
def hide (G : Env) : Env := G.map Slot.hide
def freeze (G : Env) : Env := G.map Slot.freeze

/-! ### what a value says -/
structure Om where
  n : Nat
  ρ : Nat → Addr
  fo : Nat → Nat → Option Addr
  bad : Addr → Prop
def Om.hot (o : Om) (a : Addr) : Prop := (∃ k, k < o.n ∧ a = o.ρ k) ∨ ∃ k j, o.fo k j = some a
/-- the same with more bad ones -/
def Om.plus (o : Om) (B : Addr → Prop) : Om := { o with bad := fun a => o.bad a ∨ B a }

mutual
inductive Rep (K : PySem.W.Frag) (o : Om) (H : Hp) : V → D → Prop
  | non : Rep K o H .non .non
  | bl (b : Bool) : Rep K o H (.bl b) (.bl b)
  | int (i : Int) : Rep K o H (.int i) (.int i)
  | str (s : List Nat) : Rep K o H (.str ⟨s.toArray⟩) (.str s)
  | tup {a : Addr} {vs : List V} {ds : List D} : SqT K H a vs → RepL K o H vs ds → Rep K o H (.ref a) (.tup ds)
  | lst {a : Addr} {vs : List V} {ds : List D} : H a = some (.lst vs) → ¬ o.bad a → RepL K o H vs ds → Rep K o H (.ref a) (.lst ds)
  | scr {a : Addr} {ns : List Int} : SqL K H a (ns.map V.int) → ¬ o.bad a → Rep K o H (.ref a) (.scr ns)
  | obj {k : Nat} : k < o.n → Rep K o H (.ref (o.ρ k)) (.obj k)
  | fl {k j : Nat} {a : Addr} : o.fo k j = some a → Rep K o H (.ref a) (.fl k j)
inductive RepL (K : PySem.W.Frag) (o : Om) (H : Hp) : List V → List D → Prop
  | nil : RepL K o H [] []
  | cons {v : V} {d : D} {vs : List V} {ds : List D} : Rep K o H v d → RepL K o H vs ds → RepL K o H (v :: vs) (d :: ds)
end

section
variable {K : PySem.W.Frag} {o o' : Om} {H H' : Hp} {v : V} {d : D} {vs ws : List V} {ds es : List D}
/-- a list read: tracked or known; the same later -/
structure Mono (K : PySem.W.Frag) (o o' : Om) (H H' : Hp) : Prop where
  t : ∀ a xs, SqT K H a xs → SqT K H' a xs
  l : ∀ a xs, ¬ o.bad a → SqL K H a xs → SqL K H' a xs
  h : ∀ a xs, ¬ o.bad a → H a = some (.lst xs) → H' a = some (.lst xs)
  b : ∀ a xs, SqL K H a xs → ¬ o.bad a → ¬ o'.bad a
  n : o.n ≤ o'.n
  r : ∀ k, k < o.n → o'.ρ k = o.ρ k
  f : ∀ k j l, o.fo k j = some l → o'.fo k j = some l
mutual
theorem Rep.mono (m : Mono K o o' H H') : ∀ {v : V} {d : D}, Rep K o H v d → Rep K o' H' v d
  | _, _, .non => .non
  | _, _, .bl b => .bl b
  | _, _, .int i => .int i
  | _, _, .str s => .str s
  | _, _, .tup h r => .tup (m.t _ _ h) (RepL.mono m r)
  | _, _, .lst h b r => .lst (m.h _ _ b h) (m.b _ _ (SqL.of h) b) (RepL.mono m r)
  | _, _, .scr h b => .scr (m.l _ _ b h) (m.b _ _ h b)
  | _, _, .obj (k := k) h => by
    rw [← m.r k h]
    exact .obj (Nat.lt_of_lt_of_le h m.n)
  | _, _, .fl h => .fl (m.f _ _ _ h)
theorem RepL.mono (m : Mono K o o' H H') : ∀ {vs : List V} {ds : List D}, RepL K o H vs ds → RepL K o' H' vs ds
  | _, _, .nil => .nil
  | _, _, .cons h r => .cons (Rep.mono m h) (RepL.mono m r)
end
/-- fewer bad ones -/
theorem Mono.less {B : Addr → Prop} (h : ∀ a, B a → o.bad a) : Mono K o { o with bad := B } H H :=
  ⟨fun _ _ q => q, fun _ _ _ q => q, fun _ _ _ q => q, fun _ _ _ n q => n (h _ q), Nat.le_refl _, fun _ _ => rfl, fun _ _ _ h => h⟩
theorem Mono.unplus {B : Addr → Prop} : Mono K (o.plus B) o H H :=
  ⟨fun _ _ q => q, fun _ _ _ q => q, fun _ _ _ q => q, fun _ _ _ n q => n (.inl q), Nat.le_refl _, fun _ _ => rfl, fun _ _ _ h => h⟩
mutual
/-- data without lists: whatever is bad -/
theorem Rep.flat {B : Addr → Prop} : ∀ {v : V} {d : D}, Rep K o H v d → d.flat = true → Rep K { o with bad := B } H v d
  | _, _, .non, _ => .non
  | _, _, .bl b, _ => .bl b
  | _, _, .int i, _ => .int i
  | _, _, .str s, _ => .str s
  | _, _, .tup h r, f => .tup h (RepL.flats r f)
  | _, _, .lst h b r, f => by cases f
  | _, _, .scr h b, f => by cases f
  | _, _, .obj h, _ => .obj h
  | _, _, .fl h, _ => .fl h
theorem RepL.flats {B : Addr → Prop} : ∀ {vs : List V} {ds : List D}, RepL K o H vs ds → D.flats ds = true → RepL K { o with bad := B } H vs ds
  | _, _, .nil, _ => .nil
  | _, _, .cons h r, f => by
    have f' : (D.flat _ && D.flats _) = true := f
    rw [Bool.and_eq_true] at f'
    exact .cons (Rep.flat h f'.1) (RepL.flats r f'.2)
end
theorem RepL.length : ∀ {vs : List V} {ds : List D}, RepL K o H vs ds → vs.length = ds.length
  | _, _, .nil => rfl
  | _, _, .cons _ r => congrArg Nat.succ (RepL.length r)
theorem RepL.get : ∀ {vs : List V} {ds : List D} {i : Nat} {d : D}, RepL K o H vs ds → ds[i]? = some d → ∃ v, vs[i]? = some v ∧ Rep K o H v d
  | _, _, _, _, .nil, e => by simp at e
  | _, _, 0, _, .cons h _, e => by simp at e; subst e; exact ⟨_, rfl, h⟩
  | _, _, i + 1, _, .cons _ r, e => by
    obtain ⟨v, h1, h2⟩ := RepL.get (i := i) r (by simpa using e)
    exact ⟨v, by simpa using h1, h2⟩
theorem RepL.getV : ∀ {vs : List V} {ds : List D} {i : Nat} {v : V}, RepL K o H vs ds → vs[i]? = some v → ∃ d, ds[i]? = some d ∧ Rep K o H v d
  | _, _, _, _, .nil, e => by simp at e
  | _, _, 0, _, .cons h _, e => by simp at e; subst e; exact ⟨_, rfl, h⟩
  | _, _, i + 1, _, .cons _ r, e => by
    obtain ⟨v, h1, h2⟩ := RepL.getV (i := i) r (by simpa using e)
    exact ⟨v, by simpa using h1, h2⟩
theorem RepL.append : ∀ {vs ws : List V} {ds es : List D}, RepL K o H vs ds → RepL K o H ws es → RepL K o H (vs ++ ws) (ds ++ es)
  | _, _, _, _, .nil, s => s
  | _, _, _, _, .cons h r, s => .cons h (RepL.append r s)
theorem RepL.take : ∀ {vs : List V} {ds : List D} (n : Nat), RepL K o H vs ds → RepL K o H (vs.take n) (ds.take n)
  | _, _, 0, _ => .nil
  | _, _, _ + 1, .nil => .nil
  | _, _, n + 1, .cons h r => .cons h (RepL.take n r)
theorem RepL.drop : ∀ {vs : List V} {ds : List D} (n : Nat), RepL K o H vs ds → RepL K o H (vs.drop n) (ds.drop n)
  | _, _, 0, r => r
  | _, _, _ + 1, .nil => .nil
  | _, _, n + 1, .cons _ r => RepL.drop n r
theorem RepL.set {v : V} {d : D} (h : Rep K o H v d) : ∀ {vs : List V} {ds : List D} (i : Nat), RepL K o H vs ds → RepL K o H (vs.set i v) (ds.set i d)
  | _, _, _, .nil => .nil
  | _, _, 0, .cons _ r => .cons h r
  | _, _, i + 1, .cons q r => .cons q (RepL.set h i r)
theorem RepL.reverse : ∀ {vs : List V} {ds : List D}, RepL K o H vs ds → RepL K o H vs.reverse ds.reverse
  | _, _, .nil => .nil
  | _, _, .cons h r => by
    rw [List.reverse_cons, List.reverse_cons]
    exact RepL.append (RepL.reverse r) (.cons h .nil)
theorem RepL.ints : ∀ {vs : List V} {ns : List Int}, RepL K o H vs (ns.map D.int) → vs = ns.map V.int
  | vs, [], h => by cases h; rfl
  | vs, n :: ns, h => by
    cases h with
    | cons a b =>
      cases a
      rw [List.map_cons, RepL.ints b]
theorem RepL.of_ints : ∀ (ns : List Int), RepL K o H (ns.map V.int) (ns.map D.int)
  | [] => .nil
  | n :: ns => .cons (.int n) (RepL.of_ints ns)
end

/-! ### the state -/
/-- a class: its object, its fields' names -/
structure CD where
  C : Addr
  fl : List Str
abbrev CT := Nat → Option CD
structure CDok (K : PySem.W.Frag) (c : CD) : Prop where
  cl : Cls K c.C
  no : ∀ f ∈ c.fl, NoAttr K c.C f
  nd : c.fl.Nodup
  sz : c.fl.length ≤ 900

/-- from (o, H) on to (o', H') -/
structure Ext (K : PySem.W.Frag) (o o' : Om) (H H' : Hp) : Prop where
  keep : ∀ a u, H a = some u → ¬ o.hot a → H' a = some u
  there : ∀ a u, H a = some u → ∃ u', H' a = some u'
  n : o.n ≤ o'.n
  r : ∀ k, k < o.n → o'.ρ k = o.ρ k
  badS : ∀ a, o.bad a → o'.bad a
  badN : ∀ a, o'.bad a → o.bad a ∨ (H a = none ∧ K.lookup a = none)
  hotN : ∀ a, o'.hot a → o.hot a ∨ H a = none
  f : ∀ k j l, o.fo k j = some l → o'.fo k j = some l

def SlotRep (K : PySem.W.Frag) (o : Om) (H : Hp) (at_ : Option Addr) (v : Option V) : Slot → Prop
  | .no => v = none ∧ at_ = none
  | .val d => at_ = none ∧ ∃ x, v = some x ∧ Rep K o H x d
  | .own ds => ∃ l vs, at_ = some l ∧ v = some (.ref l) ∧ H l = some (.lst vs) ∧ RepL K o H vs ds

structure CellRep (K : PySem.W.Frag) (ct : CT) (o : Om) (H : Hp) (k : Nat) (c : Cell) : Prop where
  ex : ∃ (cd : CD) (dx : Addr) (vfs : List (Str × V)), ct c.cls = some cd ∧ H (o.ρ k) = some (.ins cd.C dx vfs) ∧ c.fs.length = cd.fl.length ∧ (vfs.map (·.1)).Nodup ∧ (∀ f ∈ vfs.map (·.1), f ∈ cd.fl) ∧
    ∀ j f s, cd.fl[j]? = some f → c.fs[j]? = some s → SlotRep K o H (o.fo k j) (vfs.lookup f) s
structure SRel (K : PySem.W.Frag) (ct : CT) (o : Om) (S : Store) (H : Hp) : Prop where
  n : o.n = S.length
  kf : ∀ b u, H b = some u → K.lookup b = none
  cell : ∀ k c, S[k]? = some c → CellRep K ct o H k c
  inj : ∀ k k', k < o.n → k' < o.n → o.ρ k = o.ρ k' → k = k'
  foI : ∀ k j k' j' l, o.fo k j = some l → o.fo k' j' = some l → k = k' ∧ j = j'
  foS : ∀ k j l, o.fo k j = some l → ∃ c ds, S[k]? = some c ∧ c.fs[j]? = some (.own ds)
  hb : ∀ a, o.hot a → o.bad a
  ba : ∀ a, o.bad a → ∃ u, H a = some u
  cok : ∀ i cd, ct i = some cd → CDok K cd

section
variable {K : PySem.W.Frag} {ct : CT} {o o1 o' : Om} {S : Store} {H H1 H' : Hp} {a : Addr}
theorem SRel.foA (r : SRel K ct o S H) {k j : Nat} {l : Addr} (h : o.fo k j = some l) : ∃ vs, H l = some (.lst vs) := by
  obtain ⟨c, ds, e1, e2⟩ := r.foS k j l h
  obtain ⟨cd, dx, vfs, h1, h2, h3, h4, h5, h6⟩ := (r.cell k c e1).ex
  have hj : j < c.fs.length := (List.getElem?_eq_some_iff.mp e2).1
  obtain ⟨l', vs, q1, q2, q3, q4⟩ := h6 j (cd.fl[j]'(by omega)) _ (by simp) e2
  rw [h] at q1
  cases q1
  exact ⟨vs, q3⟩
theorem SRel.rhoA (r : SRel K ct o S H) {k : Nat} (h : k < o.n) : ∃ C dx vfs, H (o.ρ k) = some (.ins C dx vfs) := by
  have hk : k < S.length := by rw [← r.n]; exact h
  obtain ⟨cd, dx, vfs, h1, h2, _⟩ := (r.cell k S[k] (by simp [hk])).ex
  exact ⟨_, _, _, h2⟩
/-- what is hot is a list or an instance -/
theorem SRel.hotA (r : SRel K ct o S H) (h : o.hot a) : (∃ vs, H a = some (.lst vs)) ∨ ∃ C dx vfs, H a = some (.ins C dx vfs) := by
  rcases h with ⟨k, hk, rfl⟩ | ⟨k, j, e⟩
  · exact .inr (r.rhoA hk)
  · exact .inl (r.foA e)
theorem SRel.hotT (r : SRel K ct o S H) {xs : List V} (h : SqT K H a xs) : ¬ o.hot a := by
  intro z
  rcases h with (h | ⟨ob, h⟩) | ⟨ob, its, n, hk, _⟩
  · rcases r.hotA z with ⟨_, e⟩ | ⟨_, _, _, e⟩ <;> rw [h] at e <;> cases e
  · rcases r.hotA z with ⟨_, e⟩ | ⟨_, _, _, e⟩ <;> rw [h] at e <;> cases e
  · rcases r.hotA z with ⟨_, e⟩ | ⟨_, _, _, e⟩ <;> (rw [r.kf _ _ e] at hk; cases hk)
theorem Ext.refl : Ext K o o H H := ⟨fun _ _ q _ => q, fun _ u q => ⟨u, q⟩, Nat.le_refl _, fun _ _ => rfl, fun _ q => q, fun _ q => .inl q, fun _ q => .inl q, fun _ _ _ h => h⟩
theorem Ext.back (x : Ext K o o1 H H1) (h : H1 a = none) : H a = none := by
  cases e : H a with
  | none => rfl
  | some u =>
    obtain ⟨u', e'⟩ := x.there a u e
    rw [h] at e'; cases e'
theorem Ext.trans (x : Ext K o o1 H H1) (y : Ext K o1 o' H1 H') : Ext K o o' H H' := by
  refine ⟨fun a u h n => ?_, fun a u h => ?_, Nat.le_trans x.n y.n, fun k h => ?_, fun a h => y.badS a (x.badS a h), fun a h => ?_, fun a h => ?_, fun k j l h => y.f k j l (x.f k j l h)⟩
  · refine y.keep a u (x.keep a u h n) fun z => ?_
    rcases x.hotN a z with q | q
    · exact n q
    · rw [h] at q; cases q
  · obtain ⟨u1, h1⟩ := x.there a u h
    exact y.there a u1 h1
  · rw [y.r k (Nat.lt_of_lt_of_le h x.n), x.r k h]
  · rcases y.badN a h with q | ⟨q1, q2⟩
    · exact x.badN a q
    · exact .inr ⟨x.back q1, q2⟩
  · rcases y.hotN a h with q | q
    · exact x.hotN a q
    · exact .inr (x.back q)
/-- what was said is said later -/
theorem Ext.mono (x : Ext K o o' H H') (r : SRel K ct o S H) : Mono K o o' H H' := by
  refine ⟨fun a xs h => ?_, fun a xs nb h => ?_, fun a xs nb h => x.keep _ _ h fun z => nb (r.hb a z), fun a xs h nb z => ?_, x.n, x.r, x.f⟩
  · have nh := r.hotT h
    rcases h with (h | ⟨ob, h⟩) | h
    · exact .inl (.inl (x.keep _ _ h nh))
    · exact .inl (.inr ⟨ob, x.keep _ _ h nh⟩)
    · exact .inr h
  · have nh : ¬ o.hot a := fun z => nb (r.hb a z)
    rcases h with (h | ⟨ob, h⟩) | h
    · exact .inl (.inl (x.keep _ _ h nh))
    · exact .inl (.inr ⟨ob, x.keep _ _ h nh⟩)
    · exact .inr h
  · rcases x.badN a z with q | ⟨q1, q2⟩
    · exact nb q
    · rcases h with (h | ⟨ob, h⟩) | ⟨ob, its, n, hk, _⟩
      · rw [h] at q1; cases q1
      · rw [h] at q1; cases q1
      · rw [q2] at hk; cases hk
theorem Ext.rep (x : Ext K o o' H H') (r : SRel K ct o S H) {v : V} {d : D} (h : Rep K o H v d) : Rep K o' H' v d := h.mono (x.mono r)
theorem Ext.repL (x : Ext K o o' H H') (r : SRel K ct o S H) {vs : List V} {ds : List D} (h : RepL K o H vs ds) : RepL K o' H' vs ds := h.mono (x.mono r)
theorem Ext.grown {p : Addr} {u : HO} (hp : H p = none) : Ext K o o H (upd H p u) := by
  have ne : ∀ {b w}, H b = some w → b ≠ p := fun h z => by rw [z, hp] at h; cases h
  exact ⟨fun a w h _ => by rw [upd_ne (ne h)]; exact h, fun a w h => ⟨w, by rw [upd_ne (ne h)]; exact h⟩, Nat.le_refl _, fun _ _ => rfl, fun _ q => q, fun _ q => .inl q, fun _ q => .inl q, fun _ _ _ h => h⟩
/-- the heap grew by a new untracked-before object that is neither -/
theorem SRel.grown {p : Addr} {u : HO} (r : SRel K ct o S H) (hp : H p = none) (kf : ∀ b w, upd H p u b = some w → K.lookup b = none) : SRel K ct o S (upd H p u) := by
  have ne : ∀ {b w}, H b = some w → b ≠ p := fun h z => by rw [z, hp] at h; cases h
  have x : Mono K o o H (upd H p u) := by
    refine ⟨fun a xs h => ?_, fun a xs _ h => ?_, fun a xs _ h => by rw [upd_ne (ne h)]; exact h, fun _ _ _ n => n, Nat.le_refl _, fun _ _ => rfl, fun _ _ _ h => h⟩
    · rcases h with (h | ⟨ob, h⟩) | h
      · exact .inl (.inl (by rw [upd_ne (ne h)]; exact h))
      · exact .inl (.inr ⟨ob, by rw [upd_ne (ne h)]; exact h⟩)
      · exact .inr h
    · rcases h with (h | ⟨ob, h⟩) | h
      · exact .inl (.inl (by rw [upd_ne (ne h)]; exact h))
      · exact .inl (.inr ⟨ob, by rw [upd_ne (ne h)]; exact h⟩)
      · exact .inr h
  refine ⟨r.n, kf, fun k c e => ?_, r.inj, r.foI, r.foS, r.hb, fun a h => let ⟨w, e⟩ := r.ba a h; ⟨w, by rw [upd_ne (ne e)]; exact e⟩, r.cok⟩
  obtain ⟨cd, dx, vfs, h1, h2, h3, h4, h5, h6⟩ := (r.cell k c e).ex
  refine ⟨cd, dx, vfs, h1, by rw [upd_ne (ne h2)]; exact h2, h3, h4, h5, fun j f s e1 e2 => ?_⟩
  have q := h6 j f s e1 e2
  cases s with
  | no => exact q
  | val d =>
    obtain ⟨q1, x', q2, q3⟩ := q
    exact ⟨q1, x', q2, q3.mono x⟩
  | own ds =>
    obtain ⟨l, vs, q1, q2, q3, q4⟩ := q
    exact ⟨l, vs, q1, q2, by rw [upd_ne (ne q3)]; exact q3, q4.mono x⟩
/-- a field's own list, read -/
def deref (S : Store) : D → D
  | .fl k j => match S[k]? with
    | some c => match c.fs[j]? with
      | some (.own ds) => .lst ds
      | _ => .fl k j
    | none => .fl k j
  | d => d
theorem SRel.fl (r : SRel K ct o S H) {k j : Nat} (h : o.fo k j = some a) : ∃ c ds vs, S[k]? = some c ∧ c.fs[j]? = some (.own ds) ∧ H a = some (.lst vs) ∧ RepL K o H vs ds ∧ deref S (.fl k j) = .lst ds := by
  obtain ⟨c, ds, e1, e2⟩ := r.foS k j a h
  obtain ⟨cd, dx, vfs, h1, h2, h3, h4, h5, h6⟩ := (r.cell k c e1).ex
  have hj : j < c.fs.length := (List.getElem?_eq_some_iff.mp e2).1
  obtain ⟨l', vs, q1, q2, q3, q4⟩ := h6 j (cd.fl[j]'(by omega)) _ (by simp) e2
  rw [h] at q1
  cases q1
  refine ⟨c, ds, vs, e1, e2, q3, q4, ?_⟩
  unfold deref
  dsimp only
  rw [e1]
  dsimp only
  rw [e2]
end
end DL

end
section
set_option maxRecDepth 100000
set_option maxHeartbeats 2000000
/-! The data layer: expressions. -/
namespace DL
open PySem PySem.Spec PyProof.Rows L2

structure ERel (K : PySem.W.Frag) (ct : CT) (o : Om) (G : Env) (S : Store) (σ : L2.St) (H : Hp) : Prop where
  s : SRel K ct o S H
  len : G.length = σ.length
  v : ∀ i d, look G i = some d → ∃ x, σ[i]? = some (some x) ∧ Rep K o H x d
abbrev Wish := Exc → Om → Store → Hp → Prop
def Res {α : Type} (K : PySem.W.Frag) (ct : CT) (W : Wish) (o : Om) (H : Hp) (r : R α) (Q : α → Store → Prop) : Prop := match r with
  | .ok a S => Q a S
  | .exc x S => ∀ o' H', Ext K o o' H H' → SRel K ct o' S H' → W x o' S H'
  | .bad => False
/-- what follows a value -/
def After (K : PySem.W.Frag) (ct : CT) (o : Om) (H : Hp) (Q : VK) (d : D) (S' : Store) : Prop := ∀ o' v H', Ext K o o' H H' → SRel K ct o' S' H' → Rep K o' H' v d → Q v H'
def AfterL (K : PySem.W.Frag) (ct : CT) (o : Om) (H : Hp) (Q : List V → Hp → Prop) (d : List D) (S' : Store) : Prop := ∀ o' v H', Ext K o o' H H' → SRel K ct o' S' H' → RepL K o' H' v d → Q v H'
def AfterB (K : PySem.W.Frag) (ct : CT) (o : Om) (H : Hp) (Q : Bool → Hp → Prop) (b : Bool) (S' : Store) : Prop := ∀ o' H', Ext K o o' H H' → SRel K ct o' S' H' → Q b H'
abbrev Tx := Env → Store → R Bool
def tD (K : PySem.W.Frag) (ct : CT) (W : Wish) (t : Ex) : TE := fun σ H Q => ∃ o G S, ERel K ct o G S σ H ∧ Res K ct W o H (t G S) (After K ct o H Q)
def tDs (K : PySem.W.Frag) (ct : CT) (W : Wish) (t : Exs) : TA := fun σ H Q => ∃ o G S, ERel K ct o G S σ H ∧ Res K ct W o H (t G S) (AfterL K ct o H Q)
def tDb (K : PySem.W.Frag) (ct : CT) (W : Wish) (t : Tx) : TT := fun σ H Q => ∃ o G S, ERel K ct o G S σ H ∧ Res K ct W o H (t G S) (AfterB K ct o H Q)
abbrev PD (X : Cx) (ct : CT) (W : Wish) (e : Expr) (t : Ex) : Prop := PE X e (tD X.K ct W t)
abbrev PDs (X : Cx) (ct : CT) (W : Wish) (es : List Expr) (t : Exs) : Prop := PA X es (tDs X.K ct W t)
abbrev PDb (X : Cx) (ct : CT) (W : Wish) (e : Expr) (t : Tx) : Prop := PT X e (tDb X.K ct W t)

def KF (K : PySem.W.Frag) (H : Hp) : Prop := ∀ b u, H b = some u → K.lookup b = none
section
variable {X : Cx} {ct : CT} {W : Wish} {pins : List (Addr × Obj)} {σ : L2.St} {H H1 H' : Hp} {s : Shared} {o o1 o' : Om} {G : Env} {S S1 : Store} {K : PySem.W.Frag}
theorem kf_of (I : Inv X pins σ H s) : KF X.K H := fun b u h => by
  cases e : X.K.lookup b with
  | none => rfl
  | some ob =>
    have := (I.bs b ob (I.mod.kin b ob e)).2
    rw [h] at this; cases this
theorem ERel.ext (r : ERel K ct o G S σ H) (x : Ext K o o' H H') (q : SRel K ct o' S1 H') : ERel K ct o' G S1 σ H' :=
  ⟨q, r.len, fun i d h => let ⟨v, e, p⟩ := r.v i d h; ⟨v, e, x.rep r.s p⟩⟩
theorem PE.imp {e : Expr} {t t' : TE} (h : PE X e t) (k : ∀ σ H Q, t' σ H Q → t σ H fun v H' => KF X.K H' → Q v H') : PE X e t' :=
  ⟨fun pins s σ H Q I w => wpAny_mono (h.run pins s σ H _ I (k σ H Q w)) (fun _ _ ⟨v, H', I', r, q⟩ => ⟨v, H', I', r, q (kf_of I')⟩) fun _ _ z => z⟩
theorem PT.imp {e : Expr} {t t' : TT} (h : PT X e t) (k : ∀ σ H Q, t' σ H Q → t σ H fun v H' => KF X.K H' → Q v H') : PT X e t' :=
  ⟨fun pins s σ H Q I w => wpAny_mono (h.run pins s σ H _ I (k σ H Q w)) (fun _ _ ⟨H', I', q⟩ => ⟨H', I', q (kf_of I')⟩) fun _ _ z => z⟩
theorem PA.imp {es : List Expr} {t t' : TA} (h : PA X es t) (k : ∀ σ H Q, t' σ H Q → t σ H fun v H' => KF X.K H' → Q v H') : PA X es t' :=
  ⟨fun pos pins s σ H Q I w => wpAny_mono (h.run pos pins s σ H _ I (k σ H Q w)) (fun _ _ ⟨v, H', I', r, q⟩ => ⟨v, H', I', r, q (kf_of I')⟩) fun _ _ z => z⟩

/-- one part, then what is made of its value -/
theorem Res.then {α β : Type} {r : R α} {f : α → Store → R β} {P : α → Store → Prop} {Z : β → Store → Prop} (h : Res K ct W o H (r.bind f) Z) (k : ∀ d S1, Res K ct W o H (f d S1) Z → P d S1) : Res K ct W o H r P := by
  cases e : r with
  | ok d S1 => rw [e] at h; exact k d S1 h
  | exc y S1 => rw [e] at h; exact h
  | bad => rw [e] at h; exact h
theorem Res.later {α : Type} {r : R α} {Z Z' : α → Store → Prop} (h : Res K ct W o H r Z) (x : Ext K o o1 H H1) (k : ∀ a S, Z a S → Z' a S) : Res K ct W o1 H1 r Z' := by
  cases e : r with
  | ok d S1 => rw [e] at h; exact k _ _ h
  | exc y S1 => rw [e] at h; exact fun o2 H2 x2 s2 => h o2 H2 (x.trans x2) s2
  | bad => rw [e] at h; exact h
theorem After.later {Q : VK} {d : D} {S' : Store} (x : Ext K o o1 H H1) (h : After K ct o H Q d S') : After K ct o1 H1 Q d S' := fun o2 v H2 x2 s2 r2 => h o2 v H2 (x.trans x2) s2 r2
theorem AfterL.later {Q : List V → Hp → Prop} {d : List D} {S' : Store} (x : Ext K o o1 H H1) (h : AfterL K ct o H Q d S') : AfterL K ct o1 H1 Q d S' := fun o2 v H2 x2 s2 r2 => h o2 v H2 (x.trans x2) s2 r2
theorem AfterB.later {Q : Bool → Hp → Prop} {d : Bool} {S' : Store} (x : Ext K o o1 H H1) (h : AfterB K ct o H Q d S') : AfterB K ct o1 H1 Q d S' := fun o2 H2 x2 s2 => h o2 H2 (x.trans x2) s2
theorem go {t : Ex} {f : D → Store → R D} {Q R : VK} (er : ERel K ct o G S σ H) (h : Res K ct W o H ((t G S).bind f) (After K ct o H Q))
    (k : ∀ o1 S1 H1 v d, Ext K o o1 H H1 → ERel K ct o1 G S1 σ H1 → Rep K o1 H1 v d → Res K ct W o1 H1 (f d S1) (After K ct o1 H1 Q) → R v H1) : tD K ct W t σ H R :=
  ⟨o, G, S, er, h.then fun d S1 h' o1 v H1 x1 s1 r1 => k o1 S1 H1 v d x1 (er.ext x1 s1) r1 (h'.later x1 fun _ _ z => z.later x1)⟩
theorem goB {t : Ex} {f : D → Store → R Bool} {Q : Bool → Hp → Prop} {R : VK} (er : ERel K ct o G S σ H) (h : Res K ct W o H ((t G S).bind f) (AfterB K ct o H Q))
    (k : ∀ o1 S1 H1 v d, Ext K o o1 H H1 → ERel K ct o1 G S1 σ H1 → Rep K o1 H1 v d → Res K ct W o1 H1 (f d S1) (AfterB K ct o1 H1 Q) → R v H1) : tD K ct W t σ H R :=
  ⟨o, G, S, er, h.then fun d S1 h' o1 v H1 x1 s1 r1 => k o1 S1 H1 v d x1 (er.ext x1 s1) r1 (h'.later x1 fun _ _ z => z.later x1)⟩
theorem goL {t : Ex} {f : D → Store → R (List D)} {Q : List V → Hp → Prop} {R : VK} (er : ERel K ct o G S σ H) (h : Res K ct W o H ((t G S).bind f) (AfterL K ct o H Q))
    (k : ∀ o1 S1 H1 v d, Ext K o o1 H H1 → ERel K ct o1 G S1 σ H1 → Rep K o1 H1 v d → Res K ct W o1 H1 (f d S1) (AfterL K ct o1 H1 Q) → R v H1) : tD K ct W t σ H R :=
  ⟨o, G, S, er, h.then fun d S1 h' o1 v H1 x1 s1 r1 => k o1 S1 H1 v d x1 (er.ext x1 s1) r1 (h'.later x1 fun _ _ z => z.later x1)⟩
theorem goT {t : Tx} {f : Bool → Store → R D} {Q : VK} {R : Bool → Hp → Prop} (er : ERel K ct o G S σ H) (h : Res K ct W o H ((t G S).bind f) (After K ct o H Q))
    (k : ∀ o1 S1 H1 d, Ext K o o1 H H1 → ERel K ct o1 G S1 σ H1 → Res K ct W o1 H1 (f d S1) (After K ct o1 H1 Q) → R d H1) : tDb K ct W t σ H R :=
  ⟨o, G, S, er, h.then fun d S1 h' o1 H1 x1 s1 => k o1 S1 H1 d x1 (er.ext x1 s1) (h'.later x1 fun _ _ z => z.later x1)⟩
theorem goTB {t : Tx} {f : Bool → Store → R Bool} {Q : Bool → Hp → Prop} {R : Bool → Hp → Prop} (er : ERel K ct o G S σ H) (h : Res K ct W o H ((t G S).bind f) (AfterB K ct o H Q))
    (k : ∀ o1 S1 H1 d, Ext K o o1 H H1 → ERel K ct o1 G S1 σ H1 → Res K ct W o1 H1 (f d S1) (AfterB K ct o1 H1 Q) → R d H1) : tDb K ct W t σ H R :=
  ⟨o, G, S, er, h.then fun d S1 h' o1 H1 x1 s1 => k o1 S1 H1 d x1 (er.ext x1 s1) (h'.later x1 fun _ _ z => z.later x1)⟩
theorem goA {t : Exs} {f : List D → Store → R D} {Q : VK} {R : List V → Hp → Prop} (er : ERel K ct o G S σ H) (h : Res K ct W o H ((t G S).bind f) (After K ct o H Q))
    (k : ∀ o1 S1 H1 v d, Ext K o o1 H H1 → ERel K ct o1 G S1 σ H1 → RepL K o1 H1 v d → Res K ct W o1 H1 (f d S1) (After K ct o1 H1 Q) → R v H1) : tDs K ct W t σ H R :=
  ⟨o, G, S, er, h.then fun d S1 h' o1 v H1 x1 s1 r1 => k o1 S1 H1 v d x1 (er.ext x1 s1) r1 (h'.later x1 fun _ _ z => z.later x1)⟩
theorem goAL {t : Exs} {f : List D → Store → R (List D)} {Q : List V → Hp → Prop} {R : List V → Hp → Prop} (er : ERel K ct o G S σ H) (h : Res K ct W o H ((t G S).bind f) (AfterL K ct o H Q))
    (k : ∀ o1 S1 H1 v d, Ext K o o1 H H1 → ERel K ct o1 G S1 σ H1 → RepL K o1 H1 v d → Res K ct W o1 H1 (f d S1) (AfterL K ct o1 H1 Q) → R v H1) : tDs K ct W t σ H R :=
  ⟨o, G, S, er, h.then fun d S1 h' o1 v H1 x1 s1 r1 => k o1 S1 H1 v d x1 (er.ext x1 s1) r1 (h'.later x1 fun _ _ z => z.later x1)⟩
/-- a new tuple, a new list -/
theorem new_tup (r : SRel K ct o S H) {p : Addr} {vs : List V} {ds : List D} (hp : H p = none) (kf : KF K (upd H p (.tup vs))) (q : RepL K o H vs ds) {Q : VK} (h : After K ct o H Q (.tup ds) S) : Q (.ref p) (upd H p (.tup vs)) :=
  h o _ _ (.grown hp) (r.grown hp kf) (.tup (.of upd_same) ((Ext.grown hp).repL r q))
theorem new_lst (r : SRel K ct o S H) {p : Addr} {vs : List V} {ds : List D} (hp : H p = none) (kf : KF K (upd H p (.lst vs))) (q : RepL K o H vs ds) {Q : VK} (h : After K ct o H Q (.lst ds) S) : Q (.ref p) (upd H p (.lst vs)) :=
  h o _ _ (.grown hp) (r.grown hp kf) (.lst upd_same (fun z => by obtain ⟨u, e⟩ := r.ba _ z; rw [hp] at e; cases e) ((Ext.grown hp).repL r q))
end

/-! ### names, constants -/
def evar (i : Nat) : Ex := fun G S => match look G i with
  | some d => .ok d S
  | none => .bad
def ec (d : D) : Ex := fun _ S => .ok d S
section
variable {X : Cx} {ct : CT} {W : Wish} {pos : Pos}
theorem pd_var (i : Nat) {x : Str} (hN : X.N[i]? = some x := by rfl) (hv : Vis X.env.scope x := by first | exact Or.inl rfl | exact Or.inr (Or.inl rfl) | exact Or.inr (Or.inr rfl)) (hd : (x == ("__debug__" : Str)) = false := by decide)
    (hcd : (x == ("__classdict__" : Str)) = false := by decide) : PD X ct W (.Name x pos) (evar i) :=
  PE.imp (pe_var hN hv hd hcd) fun σ H Q ⟨o, G, S, er, h⟩ => by
    unfold evar at h
    cases e : look G i with
    | none => rw [e] at h; exact h.elim
    | some d =>
      rw [e] at h
      obtain ⟨v, e1, r⟩ := er.v i d e
      exact ⟨v, e1, fun _ => h o v H .refl er.s r⟩
theorem pd_int {i : Int} {j : Nat} : PD X ct W (.Constant (.int i) j pos) (ec (.int i)) :=
  PE.imp pe_int fun σ H Q ⟨o, G, S, er, h⟩ _ => h o _ H .refl er.s (.int i)
theorem pd_bl {b : Bool} {j : Nat} : PD X ct W (.Constant (.bool b) j pos) (ec (.bl b)) :=
  PE.imp pe_bl fun σ H Q ⟨o, G, S, er, h⟩ _ => h o _ H .refl er.s (.bl b)
theorem pd_non {j : Nat} : PD X ct W (.Constant .none j pos) (ec .non) :=
  PE.imp pe_non fun σ H Q ⟨o, G, S, er, h⟩ _ => h o _ H .refl er.s .non
theorem pd_str {x : Str} {j : Nat} (l : List Nat) (e : x = ⟨l.toArray⟩ := by decide +kernel) : PD X ct W (.Constant (.str x) j pos) (ec (.str l)) :=
  PE.imp pe_str fun σ H Q ⟨o, G, S, er, h⟩ _ => by subst e; exact h o _ H .refl er.s (.str l)
/-- a module's constant -/
theorem pd_glob {x : Str} {u : Value} {v : V} {d : D} (hg : Gl X x) (hm : X.mg x = some u) (r : RelV v u) (rep : ∀ o H, Rep X.K o H v d) (hd : (x == ("__debug__" : Str)) = false := by decide) : PD X ct W (.Name x pos) (ec d) :=
  PE.imp (pe_glob hg hm r hd) fun σ H Q ⟨o, G, S, er, h⟩ _ => h o _ H .refl er.s (rep o H)
end

/-! ### operators -/
def ebin (f : D → D → Option D) (a b : Ex) : Ex := fun G S => (a G S).bind fun x S1 => (b G S1).bind fun y S2 => match f x y with
  | some z => .ok z S2
  | none => .bad
def eun (f : D → Option D) (a : Ex) : Ex := fun G S => (a G S).bind fun x S1 => match f x with
  | some z => .ok z S1
  | none => .bad
/-- data in, a value out -/
def rOf (K : PySem.W.Frag) (ct : CT) (f : D → D → Option D) : R2 := fun v w H Q => ∃ o S x y z, SRel K ct o S H ∧ Rep K o H v x ∧ Rep K o H w y ∧ f x y = some z ∧ After K ct o H Q z S
def uOf (K : PySem.W.Frag) (ct : CT) (f : D → Option D) : V → Hp → VK → Prop := fun v H Q => ∃ o S x z, SRel K ct o S H ∧ Rep K o H v x ∧ f x = some z ∧ After K ct o H Q z S
section
variable {X : Cx} {ct : CT} {W : Wish} {pos : Pos} {a b c : Expr} {ta tb tc : Ex} {f g : D → D → Option D} {f' : D → Option D} {K : PySem.W.Frag}
theorem tD_bin {σ : L2.St} {H : Hp} {Q : VK} (h : tD K ct W (ebin f ta tb) σ H Q) : tOp (rOf K ct f) (tD K ct W ta) (tD K ct W tb) σ H Q := by
  obtain ⟨o, G, S, er, h⟩ := h
  refine go er h fun o1 S1 H1 v x x1 er1 rx h1 => go er1 h1 fun o2 S2 H2 w y x2 er2 ry h2 => ?_
  cases e : f x y with
  | none => rw [e] at h2; exact h2.elim
  | some z =>
    rw [e] at h2
    exact ⟨o2, S2, x, y, z, er2.s, x2.rep er1.s rx, ry, e, h2⟩
theorem tD_un {σ : L2.St} {H : Hp} {Q : VK} (h : tD K ct W (eun f' ta) σ H Q) : tUn (uOf K ct f') (tD K ct W ta) σ H Q := by
  obtain ⟨o, G, S, er, h⟩ := h
  refine go er h fun o1 S1 H1 v x x1 er1 rx h1 => ?_
  cases e : f' x with
  | none => rw [e] at h1; exact h1.elim
  | some z =>
    rw [e] at h1
    exact ⟨o1, S1, x, z, er1.s, rx, e, h1⟩
end
/-- an operation's rule by data -/
def OpS (X : Cx) (ct : CT) (F : Value → Value → Sem Value) (f : D → D → Option D) : Prop := OpR X F (rOf X.K ct f)
def UnS (X : Cx) (ct : CT) (F : Value → Sem Value) (f : D → Option D) : Prop := UnR X F (uOf X.K ct f)
section
variable {X : Cx} {ct : CT} {W : Wish} {pos : Pos} {a b c : Expr} {ta tb tc : Ex} {f g : D → D → Option D} {f' : D → Option D} {F F' : Value → Value → Sem Value}
theorem OpR.imp {r r' : R2} (h : OpR X F r) (k : ∀ x y H Q, r' x y H Q → r x y H fun v H' => KF X.K H' → Q v H') : OpR X F r' :=
  fun pins s σ H x y v u Q I rx ry q => wpAny_mono (h pins s σ H x y v u _ I rx ry (k x y H Q q)) (fun _ _ ⟨v, H', I', r, q⟩ => ⟨v, H', I', r, q (kf_of I')⟩) fun _ _ z => z
theorem UnR.imp {F : Value → Sem Value} {r r' : V → Hp → VK → Prop} (h : UnR X F r) (k : ∀ x H Q, r' x H Q → r x H fun v H' => KF X.K H' → Q v H') : UnR X F r' :=
  fun pins s σ H x v Q I rx q => wpAny_mono (h pins s σ H x v _ I rx (k x H Q q)) (fun _ _ ⟨v, H', I', r, q⟩ => ⟨v, H', I', r, q (kf_of I')⟩) fun _ _ z => z
theorem CallR.imp {F : Value} {r r' : List V → Hp → VK → Prop} (h : CallR X F r) (k : ∀ x H Q, r' x H Q → r x H fun v H' => KF X.K H' → Q v H') : CallR X F r' :=
  fun pins s σ H x v Q I rx q => wpAny_mono (h pins s σ H x v _ I rx (k x H Q q)) (fun _ _ ⟨v, H', I', r, q⟩ => ⟨v, H', I', r, q (kf_of I')⟩) fun _ _ z => z
theorem MtR.imp {id : String} {r r' : V → List V → Hp → VK → Prop} (h : MtR X id r) (k : ∀ x xs H Q, r' x xs H Q → r x xs H fun v H' => KF X.K H' → Q v H') : MtR X id r' :=
  fun pins s σ H x xs v us Q I rx rs q => wpAny_mono (h pins s σ H x xs v us _ I rx rs (k x xs H Q q)) (fun _ _ ⟨v, H', I', r, q⟩ => ⟨v, H', I', r, q (kf_of I')⟩) fun _ _ z => z
theorem PE.wk {e : Expr} {t t' : TE} (h : PE X e t) (k : ∀ σ H Q, t' σ H Q → t σ H Q) : PE X e t' := ⟨fun pins s σ H Q I w => h.run pins s σ H Q I (k σ H Q w)⟩
theorem PT.wk {e : Expr} {t t' : TT} (h : PT X e t) (k : ∀ σ H Q, t' σ H Q → t σ H Q) : PT X e t' := ⟨fun pins s σ H Q I w => h.run pins s σ H Q I (k σ H Q w)⟩
theorem PA.wk {es : List Expr} {t t' : TA} (h : PA X es t) (k : ∀ σ H Q, t' σ H Q → t σ H Q) : PA X es t' := ⟨fun pos pins s σ H Q I w => h.run pos pins s σ H Q I (k σ H Q w)⟩
theorem PW.wk {e : Expr} {t t' : TT} (h : PW X e t) (k : ∀ σ H Q, t' σ H Q → t σ H Q) : PW X e t' := ⟨fun wh pins s σ H Q I w => h.run wh pins s σ H Q I (k σ H Q w)⟩
theorem pd_bin {op : Operator} (ho : OpS X ct (binaryOp op) f) (ha : PD X ct W a ta) (hb : PD X ct W b tb) : PD X ct W (.BinOp a op b pos) (ebin f ta tb) := PE.wk (pe_op ho ha hb) fun _ _ _ h => tD_bin h
theorem pd_un {op : UnaryOp} (ho : UnS X ct (unaryOp op) f') (ha : PD X ct W a ta) : PD X ct W (.UnaryOp op a pos) (eun f' ta) := PE.wk (pe_un ho ha) fun _ _ _ h => tD_un h
theorem pd_cmp {op : CmpOp} (ho : OpS X ct (compareOp op) f) (ha : PD X ct W a ta) (hb : PD X ct W b tb) (hm : behindInMarks op b = false) : PD X ct W (.Compare a [op] [b] pos) (ebin f ta tb) := PE.wk (pe_cmpR ho ha hb hm) fun _ _ _ h => tD_bin h
/-- a test out of a value -/
def tst (t : Ex) : Tx := fun G S => (t G S).bind fun x S1 => match x with
  | .bl b => .ok b S1
  | _ => .bad
/-- a value that gives True or False as a test -/
theorem PDb.of_bl {e : Expr} {t : Ex} (h : PT X e (tTest (tD X.K ct W t))) : PDb X ct W e (tst t) := PT.wk h fun σ H Q ⟨o, G, S, er, h⟩ => goB er h fun o1 S1 H1 v d x1 er1 r1 h1 => by
  cases r1 with
  | bl b => exact ⟨b, rfl, h1 o1 H1 .refl er1.s⟩
  | _ => exact h1.elim
theorem pdb_cmp {op : CmpOp} (ho : OpS X ct (compareOp op) f) (ha : PD X ct W a ta) (hb : PD X ct W b tb) (hm : behindInMarks op b = false) : PDb X ct W (.Compare a [op] [b] pos) (tst (ebin f ta tb)) :=
  PDb.of_bl (PT.wk (pt_cmpR ho ha hb hm) fun _ _ _ h => tD_bin h)
/-- a op b op' c -/
def echain (f g : D → D → Option D) (a b c : Ex) : Ex := fun G S => (a G S).bind fun x S1 => (b G S1).bind fun y S2 => match f x y with
  | some (.bl true) => (c G S2).bind fun z S3 => match g y z with
    | some w => .ok w S3
    | none => .bad
  | some (.bl false) => .ok (.bl false) S2
  | _ => .bad
theorem tD_chain {σ : L2.St} {H : Hp} {Q : VK} (h : tD X.K ct W (echain f g ta tb tc) σ H Q) : tChain (rOf X.K ct f) (rOf X.K ct g) (tD X.K ct W ta) (tD X.K ct W tb) (tD X.K ct W tc) σ H Q := by
  obtain ⟨o, G, S, er, h⟩ := h
  refine go er h fun o1 S1 H1 v x x1 er1 rx h1 => go er1 h1 fun o2 S2 H2 w y x2 er2 ry h2 => ?_
  cases e : f x y with
  | none => rw [e] at h2; exact h2.elim
  | some z =>
    rw [e] at h2
    refine ⟨o2, S2, x, y, z, er2.s, x2.rep er1.s rx, ry, e, ?_⟩
    intro o3 u H3 x3 s3 r3
    cases r3 with
    | bl b =>
      refine ⟨b, rfl, ?_⟩
      cases b with
      | false => exact h2 o3 _ H3 x3 s3 (.bl false)
      | true =>
        refine go (er2.ext x3 s3) (h2.later x3 fun _ _ z => z.later x3) fun o4 S4 H4 w4 z4 x4 er4 r4 h4 => ?_
        cases e4 : g y z4 with
        | none => rw [e4] at h4; exact h4.elim
        | some z5 =>
          rw [e4] at h4
          exact ⟨o4, S4, y, z4, z5, er4.s, x4.rep s3 (x3.rep er2.s ry), r4, e4, h4⟩
    | _ => exact h2.elim
theorem pd_chain {op op' : CmpOp} (ho : OpS X ct (compareOp op) f) (ho' : OpS X ct (compareOp op') g) (ha : PD X ct W a ta) (hb : PD X ct W b tb) (hc : PD X ct W c tc) (hm : lastMarks [op, op'] [b, c] = false) :
    PD X ct W (.Compare a [op, op'] [b, c] pos) (echain f g ta tb tc) := PE.wk (pe_chain ho ho' ha hb hc hm) fun _ _ _ h => tD_chain h
theorem pdb_chain {op op' : CmpOp} (ho : OpS X ct (compareOp op) f) (ho' : OpS X ct (compareOp op') g) (ha : PD X ct W a ta) (hb : PD X ct W b tb) (hc : PD X ct W c tc) (hm : lastMarks [op, op'] [b, c] = false) :
    PDb X ct W (.Compare a [op, op'] [b, c] pos) (tst (echain f g ta tb tc)) := PDb.of_bl (PT.wk (pt_chain ho ho' ha hb hc hm) fun _ _ _ h => tD_chain h)

/-! ### truth -/
def D.truth : D → Option Bool
  | .non => some false
  | .bl b => some b
  | .int i => some (i != 0)
  | .str s => if s.length ≤ 16777216 then some (!s.isEmpty) else none
  | .tup xs => some (!xs.isEmpty)
  | .lst xs => some (!xs.isEmpty)
  | .scr xs => some (!xs.isEmpty)
  | .obj _ => none
  | .fl _ _ => none
theorem RepL.empty {K : PySem.W.Frag} {o : Om} {H : Hp} {vs : List V} {ds : List D} (h : RepL K o H vs ds) : vs.isEmpty = ds.isEmpty := by
  cases h <;> rfl
theorem str_len (s : List Nat) : (⟨s.toArray⟩ : Str).length = s.length := by show s.toArray.size = _; simp
theorem Rep.truth {K : PySem.W.Frag} {o : Om} {H : Hp} {v : V} {d : D} (h : Rep K o H v d) {k : Bool} (e : d.truth = some k) : TruV K v H k := by
  cases h with
  | non => cases e; rfl
  | bl b => cases e; rfl
  | int i => cases e; rfl
  | str s =>
    have e : (if s.length ≤ 16777216 then some (!s.isEmpty) else none) = some k := e
    by_cases hs : s.length ≤ 16777216
    · rw [if_pos hs] at e
      cases e
      refine ⟨by rw [str_len, sizeLine_eq]; exact hs, ?_⟩
      rw [str_len]
      cases s with
      | nil => rfl
      | cons a r =>
        show true = _
        symm
        rw [bne_iff_ne]
        simp only [List.length_cons]
        omega
    · rw [if_neg hs] at e; cases e
  | tup ht r => cases e; exact .inr (.inl ⟨_, ht, by rw [r.empty]⟩)
  | lst ht _ r => cases e; exact .inl ⟨_, SqL.of ht, by rw [r.empty]⟩
  | scr ht _ => cases e; exact .inl ⟨_, ht, by simp⟩
  | obj _ => cases e
  | fl _ => cases e
def tru (t : Ex) : Tx := fun G S => (t G S).bind fun x S1 => match x.truth with
  | some b => .ok b S1
  | none => .bad
theorem pdb_tru {e : Expr} {t : Ex} (h : PD X ct W e t) (he : ∀ whole, isTrue e X.env whole = (do let v ← whole; standAt e.pos; holding [v] (truthy v)) := by intro _; rfl) : PDb X ct W e (tru t) :=
  PT.wk (pt_truth h he) fun σ H Q ⟨o, G, S, er, h⟩ => goB er h fun o1 S1 H1 v d x1 er1 r1 h1 => by
    cases e : d.truth with
    | none => rw [e] at h1; exact h1.elim
    | some k =>
      rw [e] at h1
      exact ⟨k, r1.truth e, h1 o1 H1 .refl er1.s⟩

/-! ### and, or, not, if -/
def band (a b : Tx) : Tx := fun G S => (a G S).bind fun x S1 => if x = true then b G S1 else .ok false S1
def bor (a b : Tx) : Tx := fun G S => (a G S).bind fun x S1 => if x = true then .ok true S1 else b G S1
def bnot (a : Tx) : Tx := fun G S => (a G S).bind fun x S1 => .ok (!x) S1
def evb (a : Tx) : Ex := fun G S => (a G S).bind fun x S1 => .ok (.bl x) S1
def eite (c : Tx) (a b : Ex) : Ex := fun G S => (c G S).bind fun x S1 => if x = true then a G S1 else b G S1
abbrev PDw (X : Cx) (ct : CT) (W : Wish) (e : Expr) (t : Tx) : Prop := PW X e (tDb X.K ct W t)
variable {rest : List Expr} {xa xb xc : Tx}
theorem pdw_and1 (ha : PDb X ct W a xa) : PDw X ct W (.BoolOp .And [a] pos) xa := pw_and1 ha
theorem pdw_or1 (ha : PDb X ct W a xa) : PDw X ct W (.BoolOp .Or [a] pos) xa := pw_or1 ha
theorem pdw_and (ha : PDb X ct W a xa) (hb : PDw X ct W (.BoolOp .And (b :: rest) pos) xb) : PDw X ct W (.BoolOp .And (a :: b :: rest) pos) (band xa xb) :=
  PW.wk (pw_and ha hb) fun σ H Q ⟨o, G, S, er, h⟩ => goTB er h fun o1 S1 H1 d x1 er1 h1 => by
    cases d with
    | true => exact ⟨o1, G, S1, er1, h1⟩
    | false => exact h1 o1 H1 .refl er1.s
theorem pdw_or (ha : PDb X ct W a xa) (hb : PDw X ct W (.BoolOp .Or (b :: rest) pos) xb) : PDw X ct W (.BoolOp .Or (a :: b :: rest) pos) (bor xa xb) :=
  PW.wk (pw_or ha hb) fun σ H Q ⟨o, G, S, er, h⟩ => goTB er h fun o1 S1 H1 d x1 er1 h1 => by
    cases d with
    | true => exact h1 o1 H1 .refl er1.s
    | false => exact ⟨o1, G, S1, er1, h1⟩
theorem pdb_bool {e : Expr} (h : PDw X ct W e xa) : PDb X ct W e xa := h.pt
theorem pdb_not (ha : PDb X ct W a xa) : PDb X ct W (.UnaryOp .Not a pos) (bnot xa) :=
  PT.wk (pt_not ha) fun σ H Q ⟨o, G, S, er, h⟩ => goTB er h fun o1 S1 H1 d x1 er1 h1 => h1 o1 H1 .refl er1.s
theorem pd_ite (hc : PDb X ct W c xc) (ha : PD X ct W a ta) (hb : PD X ct W b tb) : PD X ct W (.IfExp c a b pos) (eite xc ta tb) :=
  PE.wk (pe_ifExp hc ha hb) fun σ H Q ⟨o, G, S, er, h⟩ => goT er h fun o1 S1 H1 d x1 er1 h1 => by
    cases d with
    | true => exact ⟨o1, G, S1, er1, h1⟩
    | false => exact ⟨o1, G, S1, er1, h1⟩
/-- a and b, a or b, not a, as values of True and False -/
def eand (a b : Ex) : Ex := fun G S => (a G S).bind fun x S1 => match x with
  | .bl true => b G S1
  | .bl false => .ok (.bl false) S1
  | _ => .bad
def eor (a b : Ex) : Ex := fun G S => (a G S).bind fun x S1 => match x with
  | .bl true => .ok (.bl true) S1
  | .bl false => b G S1
  | _ => .bad
def enot (a : Ex) : Ex := fun G S => (a G S).bind fun x S1 => match x.truth with
  | some b => .ok (.bl (!b)) S1
  | none => .bad
theorem pd_one {op : BoolOp} (ha : PD X ct W a ta) : PD X ct W (.BoolOp op [a] pos) ta := pe_one ha
theorem pd_and (ha : PD X ct W a ta) (hb : PD X ct W (.BoolOp .And (b :: rest) pos) tb) : PD X ct W (.BoolOp .And (a :: b :: rest) pos) (eand ta tb) :=
  PE.wk (pe_and ha hb) fun σ H Q ⟨o, G, S, er, h⟩ => go er h fun o1 S1 H1 v d x1 er1 r1 h1 => by
    cases r1 with
    | bl k =>
      refine ⟨k, rfl, ?_⟩
      cases k with
      | true => exact ⟨o1, G, S1, er1, h1⟩
      | false => exact h1 o1 _ H1 .refl er1.s (.bl false)
    | _ => exact h1.elim
theorem pd_or (ha : PD X ct W a ta) (hb : PD X ct W (.BoolOp .Or (b :: rest) pos) tb) : PD X ct W (.BoolOp .Or (a :: b :: rest) pos) (eor ta tb) :=
  PE.wk (pe_or ha hb) fun σ H Q ⟨o, G, S, er, h⟩ => go er h fun o1 S1 H1 v d x1 er1 r1 h1 => by
    cases r1 with
    | bl k =>
      refine ⟨k, rfl, ?_⟩
      cases k with
      | false => exact ⟨o1, G, S1, er1, h1⟩
      | true => exact h1 o1 _ H1 .refl er1.s (.bl true)
    | _ => exact h1.elim
theorem pd_not (ha : PD X ct W a ta) : PD X ct W (.UnaryOp .Not a pos) (enot ta) :=
  PE.wk (pe_notT ha) fun σ H Q ⟨o, G, S, er, h⟩ => go er h fun o1 S1 H1 v d x1 er1 r1 h1 => by
    cases e : d.truth with
    | none => rw [e] at h1; exact h1.elim
    | some k =>
      rw [e] at h1
      exact ⟨k, r1.truth e, h1 o1 _ H1 .refl er1.s (.bl _)⟩

/-! ### arguments, displays -/
def enil : Exs := fun _ S => .ok [] S
def econs (a : Ex) (r : Exs) : Exs := fun G S => (a G S).bind fun x S1 => (r G S1).bind fun xs S2 => .ok (x :: xs) S2
def etup (t : Exs) : Ex := fun G S => (t G S).bind fun xs S1 => if xs.length ≤ 16777216 then .ok (.tup xs) S1 else .bad
def elst (t : Exs) : Ex := fun G S => (t G S).bind fun xs S1 => if xs.length ≤ 16777216 then .ok (.lst xs) S1 else .bad
variable {e : Expr} {es : List Expr} {te : Ex} {tes : Exs}
theorem pds_nil : PDs X ct W [] enil := PA.wk pa_nil fun σ H Q ⟨o, G, S, er, h⟩ => h o [] H .refl er.s .nil
theorem pds_cons (ha : PD X ct W e te) (hr : PDs X ct W es tes) (hs : starEach (e :: es) X.env = (false, eval e X.env) :: starEach es X.env := by rfl) : PDs X ct W (e :: es) (econs te tes) :=
  PA.wk (pa_cons ha hr hs) fun σ H Q ⟨o, G, S, er, h⟩ => goL er h fun o1 S1 H1 v d x1 er1 r1 h1 => goAL er1 h1 fun o2 S2 H2 vs ds x2 er2 r2 h2 => h2 o2 _ H2 .refl er2.s (.cons (x2.rep er1.s r1) r2)
theorem PA.kf {es : List Expr} {t : TA} (h : PA X es t) : PA X es (fun σ H Q => t σ H Q) := h
theorem PE.kf {e : Expr} {t : TE} (h : PE X e t) : PE X e (fun σ H Q => t σ H fun v H' => KF X.K H' → Q v H') := PE.imp h fun _ _ _ q => q
theorem pd_tup {k : Nat} (h : PDs X ct W es tes) : PD X ct W (.Tuple es k pos) (etup tes) :=
  PE.wk (PE.kf (pe_tup h)) fun σ H Q ⟨o, G, S, er, h⟩ => goA er h fun o1 S1 H1 v d x1 er1 r1 h1 => by
    by_cases hz : d.length ≤ 16777216
    · rw [if_pos hz] at h1
      exact ⟨by rw [r1.length, sizeLine_eq]; exact hz, fun p hp kf => new_tup er1.s hp kf r1 h1⟩
    · rw [if_neg hz] at h1; exact h1.elim
theorem pd_lst (h : PDs X ct W es tes) : PD X ct W (.List es pos) (elst tes) :=
  PE.wk (PE.kf (pe_lst h)) fun σ H Q ⟨o, G, S, er, h⟩ => goA er h fun o1 S1 H1 v d x1 er1 r1 h1 => by
    by_cases hz : d.length ≤ 16777216
    · rw [if_pos hz] at h1
      exact ⟨by rw [r1.length, sizeLine_eq]; exact hz, fun p hp kf => new_lst er1.s hp kf r1 h1⟩
    · rw [if_neg hz] at h1; exact h1.elim
end
end DL

end
section
set_option maxRecDepth 100000
set_option maxHeartbeats 2000000
/-! The data layer: operators. -/
namespace DL
open PySem PySem.Spec PyProof.Rows L2

def opAdd : D → D → Option D
  | .int i, .int j => some (.int (i + j))
  | .str s, .str t => if s.length + t.length ≤ 16777216 then some (.str (s ++ t)) else none
  | .tup s, .tup t => if s.length + t.length ≤ 16777216 then some (.tup (s ++ t)) else none
  | .lst s, .lst t => if s.length + t.length ≤ 16777216 then some (.lst (s ++ t)) else none
  | _, _ => none
def opSub : D → D → Option D
  | .int i, .int j => some (.int (i - j))
  | _, _ => none
def mulOk (i j : Int) : Bool := decide (i.natAbs < 2 ^ 64) || decide (j.natAbs < 2 ^ 64) || decide (i.natAbs.log2 + j.natAbs.log2 < 1000000)
def repS (n : Nat) (s : List Nat) : List Nat := (List.replicate n s).flatten
def repL (n : Nat) (s : List D) : List D := (List.replicate n s).flatten
def opMul : D → D → Option D
  | .int i, .int j => if mulOk i j = true then some (.int (i * j)) else none
  | .str s, .int j => if j.natAbs ≤ 16777216 ∧ s.length * j.toNat ≤ 16777216 then some (.str (repS j.toNat s)) else none
  | .tup s, .int j => if s ≠ [] ∧ 2 ≤ j ∧ j ≤ 1000 ∧ s.length ≤ 1000 then some (.tup (repL j.toNat s)) else none
  | .lst s, .int j => if j.natAbs ≤ 16777216 ∧ s.length * j.toNat ≤ 16777216 then some (.lst (repL j.toNat s)) else none
  | _, _ => none
def opDiv : D → D → Option D
  | .int i, .int j => if 0 < j ∧ j.natAbs.log2 < 9000 then some (.int (i / j)) else none
  | _, _ => none
def opMod : D → D → Option D
  | .int i, .int j => if 0 < j then some (.int (i % j)) else none
  | _, _ => none
def opPow : D → D → Option D
  | .int i, .int j => if 0 ≤ j ∧ j ≤ 1000000 ∧ i.natAbs < 2 ^ 64 then some (.int (i ^ j.toNat)) else none
  | _, _ => none
def opShl : D → D → Option D
  | .int i, .int j => if 0 ≤ j ∧ j ≤ 1000000 ∧ i.natAbs.log2 < 10000000 then some (.int (i * 2 ^ j.toNat)) else none
  | _, _ => none
def opShr : D → D → Option D
  | .int i, .int j => if 0 ≤ j then some (.int (i / 2 ^ j.toNat)) else none
  | _, _ => none
def opAnd : D → D → Option D
  | .int i, .int j => some (.int (Builtin.bitAnd i j))
  | _, _ => none
def opOr : D → D → Option D
  | .int i, .int j => some (.int (Builtin.bitOr i j))
  | _, _ => none
def opXor : D → D → Option D
  | .int i, .int j => some (.int (Builtin.bitXor i j))
  | _, _ => none
def opNeg : D → Option D
  | .int i => some (.int (-i))
  | _ => none

section
variable {X : Cx} {ct : CT}
theorem OpR.kf {F : Value → Value → Sem Value} {r : R2} (h : OpR X F r) : OpR X F (fun x y H Q => r x y H fun v H' => KF X.K H' → Q v H') := OpR.imp h fun _ _ _ _ q => q
/-- ints alone -/
theorem opS_int {F : Value → Value → Sem Value} {C : Int → Int → Prop} {g : Int → Int → V} {f : D → D → Option D} (h : OpR X F (rI C g)) (k : ∀ (x y z : D), f x y = some z → ∃ i j, x = .int i ∧ y = .int j ∧ C i j ∧ ∀ o H, Rep X.K o H (g i j) z) : OpS X ct F f :=
  OpR.imp h fun v w H Q ⟨o, S, x, y, z, sr, rx, ry, e, q⟩ => by
    obtain ⟨i, j, rfl, rfl, hc, hr⟩ := k x y z e
    cases rx
    cases ry
    exact ⟨i, j, rfl, rfl, hc, fun _ => q o _ H .refl sr (hr o H)⟩
theorem opS_int0 {F : Value → Value → Sem Value} {g : Int → Int → V} {f : D → D → Option D} (h : OpR X F (rI0 g)) (k : ∀ (x y z : D), f x y = some z → ∃ i j, x = .int i ∧ y = .int j ∧ ∀ o H, Rep X.K o H (g i j) z) : OpS X ct F f :=
  OpR.imp h fun v w H Q ⟨o, S, x, y, z, sr, rx, ry, e, q⟩ => by
    obtain ⟨i, j, rfl, rfl, hr⟩ := k x y z e
    cases rx
    cases ry
    exact ⟨i, j, rfl, rfl, fun _ => q o _ H .refl sr (hr o H)⟩
theorem str_app (s t : List Nat) : (⟨s.toArray⟩ : Str) ++ (⟨t.toArray⟩ : Str) = ⟨(s ++ t).toArray⟩ := by
  show Str.append _ _ = _
  unfold Str.append
  simp
theorem os_add : OpS X ct (binaryOp .Add) opAdd := by
  intro pins s σ H v w u1 u2 Q I rv rw ⟨o, S, x, y, z, sr, rx, ry, e, q⟩
  cases rx with
  | int i =>
    cases ry with
    | int j =>
      cases e
      exact op_add pins s σ H _ _ u1 u2 Q I rv rw ⟨i, j, rfl, rfl, q o _ H .refl sr (.int _)⟩
    | _ => cases e
  | str a =>
    cases ry with
    | str b =>
      have e : (if a.length + b.length ≤ 16777216 then some (D.str (a ++ b)) else none) = some z := e
      by_cases hz : a.length + b.length ≤ 16777216
      · rw [if_pos hz] at e
        cases e
        exact op_add_str pins s σ H _ _ u1 u2 Q I rv rw ⟨_, _, rfl, rfl, by rw [str_len, str_len, sizeLine_eq]; exact hz, by rw [str_app]; exact q o _ H .refl sr (.str _)⟩
      · rw [if_neg hz] at e; cases e
    | _ => cases e
  | tup ha ra =>
    rename_i ds
    cases ry with
    | tup hb rb =>
      rename_i es
      have e : (if ds.length + es.length ≤ 16777216 then some (D.tup (ds ++ es)) else none) = some z := e
      by_cases hz : ds.length + es.length ≤ 16777216
      · rw [if_pos hz] at e
        cases e
        refine OpR.kf op_catA pins s σ H _ _ u1 u2 Q I rv rw ⟨_, _, _, _, rfl, rfl, ha, hb, by rw [ra.length, rb.length, sizeLine_eq]; exact hz, fun e1 kf => ?_, fun _ e1 kf => ?_, fun _ _ p hp kf => new_tup sr hp kf (ra.append rb) q⟩
        · subst e1
          cases ra
          exact q o _ H .refl sr (.tup hb rb)
        · subst e1
          cases rb
          rw [List.append_nil] at q
          exact q o _ H .refl sr (.tup ha ra)
      · rw [if_neg hz] at e; cases e
    | _ => cases e
  | lst ha na ra =>
    rename_i ds
    cases ry with
    | lst hb nb rb =>
      rename_i es
      have e : (if ds.length + es.length ≤ 16777216 then some (D.lst (ds ++ es)) else none) = some z := e
      by_cases hz : ds.length + es.length ≤ 16777216
      · rw [if_pos hz] at e
        cases e
        exact OpR.kf op_cat pins s σ H _ _ u1 u2 Q I rv rw ⟨_, _, _, _, rfl, rfl, ha, hb, by rw [ra.length, rb.length, sizeLine_eq]; exact hz, fun p hp kf => new_lst sr hp kf (ra.append rb) q⟩
      · rw [if_neg hz] at e; cases e
    | _ => cases e
  | _ => cases e
theorem os_sub : OpS X ct (binaryOp .Sub) opSub := opS_int0 op_sub fun x y z e => by
  unfold opSub at e
  split at e
  · cases e; exact ⟨_, _, rfl, rfl, fun o H => .int _⟩
  · cases e
theorem os_mod : OpS X ct (binaryOp .Mod) opMod := opS_int op_mod fun x y z e => by
  unfold opMod at e
  split at e
  · split at e
    · cases e; exact ⟨_, _, rfl, rfl, by assumption, fun o H => .int _⟩
    · cases e
  · cases e
theorem os_div : OpS X ct (binaryOp .FloorDiv) opDiv := opS_int op_fdivW fun x y z e => by
  unfold opDiv at e
  split at e
  · split at e
    · rename_i h; cases e; exact ⟨_, _, rfl, rfl, h, fun o H => .int _⟩
    · cases e
  · cases e
theorem os_pow : OpS X ct (binaryOp .Pow) opPow := opS_int op_pow fun x y z e => by
  unfold opPow at e
  split at e
  · split at e
    · rename_i h; cases e; exact ⟨_, _, rfl, rfl, h, fun o H => .int _⟩
    · cases e
  · cases e
theorem shl_guard {i j : Int} (h : 0 ≤ j ∧ j ≤ 1000000 ∧ i.natAbs.log2 < 10000000) : CShl i j := by
  refine ⟨h.1, ?_⟩
  have b : Builtin.Int.intBits i ≤ i.natAbs.log2 + 1 := by
    unfold Builtin.Int.intBits
    split <;> omega
  have e : (2 : Int) ^ 27 = 134217728 := by decide
  omega
theorem os_shl : OpS X ct (binaryOp .LShift) opShl := opS_int op_shlW fun x y z e => by
  unfold opShl at e
  split at e
  · split at e
    · rename_i h; cases e; exact ⟨_, _, rfl, rfl, shl_guard h, fun o H => .int _⟩
    · cases e
  · cases e
theorem os_shr : OpS X ct (binaryOp .RShift) opShr := opS_int op_shr fun x y z e => by
  unfold opShr at e
  split at e
  · split at e
    · rename_i h; cases e; exact ⟨_, _, rfl, rfl, h, fun o H => .int _⟩
    · cases e
  · cases e
theorem os_and : OpS X ct (binaryOp .BitAnd) opAnd := opS_int0 op_and fun x y z e => by
  unfold opAnd at e
  split at e
  · cases e; exact ⟨_, _, rfl, rfl, fun o H => .int _⟩
  · cases e
theorem os_or : OpS X ct (binaryOp .BitOr) opOr := opS_int0 op_or fun x y z e => by
  unfold opOr at e
  split at e
  · cases e; exact ⟨_, _, rfl, rfl, fun o H => .int _⟩
  · cases e
theorem os_xor : OpS X ct (binaryOp .BitXor) opXor := opS_int0 op_xor fun x y z e => by
  unfold opXor at e
  split at e
  · cases e; exact ⟨_, _, rfl, rfl, fun o H => .int _⟩
  · cases e
theorem us_neg : UnS X ct (unaryOp .USub) opNeg := UnR.imp un_neg fun v H Q ⟨o, S, x, z, sr, rx, e, q⟩ => by
  cases rx with
  | int i => cases e; exact ⟨i, rfl, fun _ => q o _ H .refl sr (.int _)⟩
  | _ => cases e
theorem mul_guard {i j : Int} (h : mulOk i j = true) : IntMulOk i j := by
  unfold mulOk at h
  rw [Bool.or_eq_true, Bool.or_eq_true] at h
  have p : (2 : Nat) ^ 64 = 18446744073709551616 := by decide
  have p2 : (2 : Int) ^ 64 = 18446744073709551616 := by decide
  rcases h with (h | h) | h
  · have h := of_decide_eq_true h
    exact CMul.ok (.inl ⟨by omega, by omega⟩)
  · have h := of_decide_eq_true h
    exact CMul.ok (.inr ⟨by omega, by omega⟩)
  · have h : i.natAbs.log2 + j.natAbs.log2 < 1000000 := of_decide_eq_true h
    exact CMulW.ok h
theorem str_rep (n : Nat) (s : List Nat) : (List.replicate n s.toArray).foldl (· ++ ·) #[] = (repS n s).toArray := by
  have : ∀ (k : Nat) (acc : List Nat), (List.replicate k s.toArray).foldl (· ++ ·) acc.toArray = (acc ++ (List.replicate k s).flatten).toArray := by
    intro k
    induction k with
    | zero => intro acc; simp
    | succ k ih =>
      intro acc
      rw [List.replicate_succ, List.foldl_cons, List.append_toArray, ih, List.replicate_succ, List.flatten_cons, List.append_assoc]
  have h := this n []
  rw [List.nil_append] at h
  exact h
theorem repS_len (n : Nat) (s : List Nat) : (repS n s).length = s.length * n := by
  unfold repS
  rw [List.length_flatten, List.map_replicate, List.sum_replicate_nat, Nat.mul_comm]
theorem RepL.rep {K : PySem.W.Frag} {o : Om} {H : Hp} {vs : List V} {ds : List D} (h : RepL K o H vs ds) : ∀ n : Nat, RepL K o H (List.replicate n vs).flatten (repL n ds)
  | 0 => .nil
  | n + 1 => by
    unfold repL
    rw [List.replicate_succ, List.replicate_succ, List.flatten_cons, List.flatten_cons]
    exact h.append (h.rep n)
theorem mul_strD {pins : List (Addr × Obj)} {s : Shared} {σ : L2.St} {H : Hp} {a : List Nat} {t u : Tok} {j : Int} {Q : VK} (I : Inv X pins σ H s) (hz : j.natAbs ≤ 16777216 ∧ a.length * j.toNat ≤ 16777216) (q : Q (.str ⟨(repS j.toNat a).toArray⟩) H) :
    wpAny (model X.prog X.w) X.A (binaryOp .Mult (.str ⟨a.toArray⟩ t) (.int j u)) (EP X pins σ Q) X.xe s := by
  have hl : (⟨a.toArray⟩ : Str).length = a.length := str_len a
  refine PySem.P.mul_str ?_ (fun h1 h2 => ?_) (fun h1 h2 => ?_) ?_
  · rw [decide_eq_false (by omega), decide_eq_false (by omega)]; rfl
  · rw [hl]
    intro z
    have h3 : ((2 : Int) ^ 63 - 1) / j < (a.length : Int) := z
    have e : ((2 : Int) ^ 63 - 1) = 9223372036854775807 := by decide
    rw [e] at h3
    have h4 : (9223372036854775807 : Int) < (a.length : Int) * j := by
      have := Int.lt_mul_of_ediv_lt (by omega : (0 : Int) < j) h3
      exact this
    have h5 : (a.length : Int) * j = ((a.length * j.toNat : Nat) : Int) := by
      rw [Int.natCast_mul, Int.toNat_of_nonneg (by omega)]
    omega
  · rw [hl]
    unfold Builtin.Str.tooLong
    rw [sizeLine_eq]
    exact decide_eq_false (by omega)
  · have fin : ∀ (x : Str), x = ⟨(repS j.toNat a).toArray⟩ → ∀ t' tk, EP X pins σ Q (.str x t') { s with toks := tk } := fun x e t' tk => ⟨.str ⟨(repS j.toNat a).toArray⟩, H, I.tok _, ⟨t', by rw [e]⟩, q⟩
    split
    · rename_i h1
      refine ⟨by decide, fin _ ?_ _ _⟩
      have : j.toNat = 0 := by omega
      rw [this]
      rfl
    · split
      · rename_i h1 h2
        show EP X pins σ Q (.str ⟨a.toArray⟩ t) s
        have e : repS j.toNat a = a := by
          rw [Bool.or_eq_true] at h2
          rcases h2 with h2 | h2
          · have : j = 1 := eq_of_beq h2
            subst this
            show (List.replicate 1 a).flatten = a
            simp
          · have h3 := eq_of_beq h2
            rw [hl] at h3
            have : a = [] := List.eq_nil_of_length_eq_zero h3
            subst this
            unfold repS
            simp
        exact ⟨.str ⟨a.toArray⟩, H, I, ⟨t, rfl⟩, by rw [e] at q; exact q⟩
      · refine ⟨?_, fin _ (by rw [str_rep]) _ _⟩
        show Array.size _ ≤ _
        rw [str_rep, List.size_toArray, repS_len, sizeLine_eq]
        exact hz.2
theorem os_mul : OpS X ct (binaryOp .Mult) opMul := by
  intro pins s σ H v w u1 u2 Q I rv rw ⟨o, S, x, y, z, sr, rx, ry, e, q⟩
  cases rx with
  | int i =>
    cases ry with
    | int j =>
      have e : (if mulOk i j = true then some (D.int (i * j)) else none) = some z := e
      by_cases hz : mulOk i j = true
      · rw [if_pos hz] at e
        cases e
        obtain ⟨t, rfl⟩ := rv
        obtain ⟨t', rfl⟩ := rw
        exact mul_int ⟨.int (i * j), H, I.tok _, ⟨_, rfl⟩, q o _ H .refl sr (.int _)⟩ (mul_guard hz)
      · rw [if_neg hz] at e; cases e
    | _ => cases e
  | str a =>
    cases ry with
    | int j =>
      have e : (if j.natAbs ≤ 16777216 ∧ a.length * j.toNat ≤ 16777216 then some (D.str (repS j.toNat a)) else none) = some z := e
      by_cases hz : j.natAbs ≤ 16777216 ∧ a.length * j.toNat ≤ 16777216
      · rw [if_pos hz] at e
        cases e
        obtain ⟨t, rfl⟩ := rv
        obtain ⟨t', rfl⟩ := rw
        exact mul_strD I hz (q o _ H .refl sr (.str _))
      · rw [if_neg hz] at e; cases e
    | _ => cases e
  | tup ha ra =>
    rename_i ds
    cases ry with
    | int j =>
      have e : (if ds ≠ [] ∧ 2 ≤ j ∧ j ≤ 1000 ∧ ds.length ≤ 1000 then some (D.tup (repL j.toNat ds)) else none) = some z := e
      by_cases hz : ds ≠ [] ∧ 2 ≤ j ∧ j ≤ 1000 ∧ ds.length ≤ 1000
      · rw [if_pos hz] at e
        cases e
        refine OpR.kf op_repT pins s σ H _ _ u1 u2 Q I rv rw ⟨_, j, _, rfl, rfl, ha, fun e1 => ?_, hz.2.1, hz.2.2.1, by rw [ra.length]; exact hz.2.2.2, fun p hp kf => new_tup sr hp kf (ra.rep _) q⟩
        subst e1
        cases ra
        exact hz.1 rfl
      · rw [if_neg hz] at e; cases e
    | _ => cases e
  | lst ha na ra =>
    rename_i ds
    cases ry with
    | int j =>
      have e : (if j.natAbs ≤ 16777216 ∧ ds.length * j.toNat ≤ 16777216 then some (D.lst (repL j.toNat ds)) else none) = some z := e
      by_cases hz : j.natAbs ≤ 16777216 ∧ ds.length * j.toNat ≤ 16777216
      · rw [if_pos hz] at e
        cases e
        exact OpR.kf op_rep pins s σ H _ _ u1 u2 Q I rv rw ⟨_, j, _, rfl, rfl, ha, by omega, by omega, by rw [ra.length, sizeLine_eq]; exact hz.2, fun p hp kf => new_lst sr hp kf (ra.rep _) q⟩
      · rw [if_neg hz] at e; cases e
    | _ => cases e
  | _ => cases e

/-! ### comparisons -/
mutual
/-- data that == compares, not too deep -/
def D.cmp : Nat → D → Bool
  | _, .non => true
  | _, .bl _ => true
  | _, .int _ => true
  | _, .str s => s.all (· < 0x110000)
  | n, .tup xs => match n with
    | 0 => false
    | n + 1 => D.cmps n xs
  | n, .lst xs => match n with
    | 0 => false
    | n + 1 => D.cmps n xs
  | _, _ => false
def D.cmps : Nat → List D → Bool
  | _, [] => true
  | n, x :: r => D.cmp n x && D.cmps n r
end
mutual
def D.pd : D → PyData
  | .bl b => .bool b
  | .int i => .int i
  | .str s => .str ⟨s.toArray⟩
  | .tup xs => .tuple (D.pds xs)
  | .lst xs => .list (D.pds xs)
  | _ => .none
def D.pds : List D → List PyData
  | [] => []
  | x :: r => D.pd x :: D.pds r
end
mutual
/-- == of such data -/
def D.eq : D → D → Bool
  | .non, .non => true
  | .bl a, .bl b => a == b
  | .bl a, .int j => (if a then 1 else 0) == j
  | .int i, .bl b => i == (if b then 1 else 0)
  | .int i, .int j => i == j
  | .str x, .str y => x == y
  | .tup xs, .tup ys => D.eqs xs ys
  | .lst xs, .lst ys => D.eqs xs ys
  | _, _ => false
def D.eqs : List D → List D → Bool
  | [], [] => true
  | x :: xs, y :: ys => D.eq x y && D.eqs xs ys
  | _, _ => false
end
theorem beq_arr (a b : List Nat) : ((⟨a.toArray⟩ : Str) == ⟨b.toArray⟩) = (a == b) := by
  rw [Bool.eq_iff_iff]
  simp
mutual
theorem D.cmp_ok : ∀ (n : Nat) (d : D), D.cmp n d = true → (D.pd d).canLay0 = true ∧ (D.pd d).depth ≤ n
  | _, .non, _ => ⟨rfl, Nat.zero_le _⟩
  | _, .bl _, _ => ⟨rfl, Nat.zero_le _⟩
  | _, .int _, _ => ⟨rfl, Nat.zero_le _⟩
  | _, .str s, h => ⟨by
      have h' : s.all (· < 0x110000) = true := h
      show PyData.strOk ⟨s.toArray⟩ = true
      unfold PyData.strOk
      simpa using h', Nat.zero_le _⟩
  | 0, .tup xs, h => by cases h
  | n + 1, .tup xs, h => by
    obtain ⟨h1, h2⟩ := D.cmps_ok n xs h
    exact ⟨h1, Nat.succ_le_succ h2⟩
  | 0, .lst xs, h => by cases h
  | n + 1, .lst xs, h => by
    obtain ⟨h1, h2⟩ := D.cmps_ok n xs h
    exact ⟨h1, Nat.succ_le_succ h2⟩
  | _, .obj _, h => by cases h
  | _, .scr _, h => by cases h
theorem D.cmps_ok : ∀ (n : Nat) (ds : List D), D.cmps n ds = true → PyData.canLayAll0 (D.pds ds) = true ∧ PyData.depthAll (D.pds ds) ≤ n
  | _, [], _ => ⟨rfl, Nat.zero_le _⟩
  | n, x :: r, h => by
    have h' : (D.cmp n x && D.cmps n r) = true := h
    rw [Bool.and_eq_true] at h'
    obtain ⟨a1, a2⟩ := D.cmp_ok n x h'.1
    obtain ⟨b1, b2⟩ := D.cmps_ok n r h'.2
    refine ⟨?_, ?_⟩
    · show (PyData.canLay0 _ && PyData.canLayAll0 _) = true
      rw [a1, b1] <;> rfl
    · show max _ _ ≤ n
      exact Nat.max_le.mpr ⟨a2, b2⟩
end
mutual
theorem D.eq_pd : ∀ (n : Nat) (x y : D), D.cmp n x = true → D.cmp n y = true → PyData.eqv (D.pd x) (D.pd y) = D.eq x y
  | n, .non, y, _, hy => by cases y <;> first | rfl | cases hy
  | n, .bl b, y, _, hy => by cases y <;> first | rfl | cases hy
  | n, .int b, y, _, hy => by cases y <;> first | rfl | cases hy
  | n, .str b, y, _, hy => by
    cases y with
    | str c => exact beq_arr b c
    | _ => first | rfl | cases hy
  | 0, .tup xs, _, h, _ => by cases h
  | n + 1, .tup xs, y, h, hy => by
    cases y with
    | tup ys => exact D.eqs_pd n xs ys h hy
    | _ => first | rfl | cases hy
  | 0, .lst xs, _, h, _ => by cases h
  | n + 1, .lst xs, y, h, hy => by
    cases y with
    | lst ys => exact D.eqs_pd n xs ys h hy
    | _ => first | rfl | cases hy
  | _, .obj _, _, h, _ => by cases h
  | _, .scr _, _, h, _ => by cases h
theorem D.eqs_pd : ∀ (n : Nat) (xs ys : List D), D.cmps n xs = true → D.cmps n ys = true → PyData.eqvAll (D.pds xs) (D.pds ys) = D.eqs xs ys
  | n, [], [], _, _ => rfl
  | n, [], _ :: _, _, _ => rfl
  | n, _ :: _, [], _, _ => rfl
  | n, x :: xs, y :: ys, h, h2 => by
    have h' : (D.cmp n x && D.cmps n xs) = true := h
    have h2' : (D.cmp n y && D.cmps n ys) = true := h2
    rw [Bool.and_eq_true] at h' h2'
    show (PyData.eqv _ _ && PyData.eqvAll _ _) = (D.eq x y && D.eqs xs ys)
    rw [D.eq_pd n x y h'.1 h2'.1, D.eqs_pd n xs ys h'.2 h2'.2]
end
mutual
theorem Rep.dp {K : PySem.W.Frag} {o : Om} {H : Hp} : ∀ (n : Nat) {v : V} {d : D}, Rep K o H v d → D.cmp n d = true → Dp K H v (D.pd d)
  | _, _, _, .non, _ => .non
  | _, _, _, .bl b, _ => .bl b
  | _, _, _, .int b, _ => .int b
  | _, _, _, .str b, _ => .str _
  | 0, _, _, .tup h r, e => by cases e
  | n + 1, _, _, .tup h r, e => .tup h (RepL.dp n r e)
  | 0, _, _, .lst h _ r, e => by cases e
  | n + 1, _, _, .lst h _ r, e => .lst (.of h) (RepL.dp n r e)
  | _, _, _, .obj _, e => by cases e
  | _, _, _, .scr _ _, e => by cases e
theorem RepL.dp {K : PySem.W.Frag} {o : Om} {H : Hp} : ∀ (n : Nat) {vs : List V} {ds : List D}, RepL K o H vs ds → D.cmps n ds = true → DpAll K H vs (D.pds ds)
  | _, _, _, .nil, _ => .nil
  | n, _, _, .cons h r, e => by
    have e' : (D.cmp n _ && D.cmps n _) = true := e
    rw [Bool.and_eq_true] at e'
    exact .cons (Rep.dp n h e'.1) (RepL.dp n r e'.2)
end
/-- two that == compares without looking within -/
def D.scl : D → D → Bool
  | .non, .non => true | .non, .int _ => true | .int _, .non => true | .non, .bl _ => true | .bl _, .non => true | .non, .str _ => true | .str _, .non => true
  | .int _, .int _ => true | .bl _, .bl _ => true | .str _, .str _ => true
  | .int _, .str _ => true | .str _, .int _ => true | .bl _, .str _ => true | .str _, .bl _ => true
  | _, _ => false
def opEq : D → D → Option D := fun x y => if D.scl x y = true ∨ (D.cmp 60 x = true ∧ D.cmp 60 y = true) then some (.bl (D.eq x y)) else none
def opNe : D → D → Option D := fun x y => if D.scl x y = true ∨ (D.cmp 60 x = true ∧ D.cmp 60 y = true) then some (.bl (!D.eq x y)) else none
theorem dec_arr (a b : List Nat) : decide (V.str ⟨a.toArray⟩ = V.str ⟨b.toArray⟩) = (a == b) := by
  rw [Bool.eq_iff_iff]
  simp
theorem scl_ok {K : PySem.W.Frag} {o : Om} {H : Hp} {v w : V} {x y : D} (rx : Rep K o H v x) (ry : Rep K o H w y) (h : D.scl x y = true) : scal v w = true ∧ decide (v = w) = D.eq x y := by
  cases rx with
  | non => cases ry <;> first | exact ⟨rfl, by simp [D.eq]⟩ | cases h
  | bl b => cases ry <;> first | exact ⟨rfl, dec_bl⟩ | exact ⟨rfl, by simp [D.eq]⟩ | cases h
  | int b => cases ry <;> first | exact ⟨rfl, dec_int⟩ | exact ⟨rfl, by simp [D.eq]⟩ | cases h
  | str b => cases ry <;> first | exact ⟨rfl, dec_arr _ _⟩ | exact ⟨rfl, by simp [D.eq]⟩ | cases h
  | _ => cases ry <;> cases h
theorem os_eq (hu : X.A.units + 64 < cLine) : OpS X ct (compareOp .Eq) opEq := by
  intro pins s σ H v w u1 u2 Q I rv rw ⟨o, S, x, y, z, sr, rx, ry, e, q⟩
  unfold opEq at e
  split at e
  · rename_i h
    cases e
    rcases h with h | ⟨h1, h2⟩
    · obtain ⟨a1, a2⟩ := scl_ok rx ry h
      exact op_eq pins s σ H v w u1 u2 Q I rv rw ⟨a1, by rw [a2]; exact q o _ H .refl sr (.bl _)⟩
    · refine op_eqD hu pins s σ H v w u1 u2 Q I rv rw ⟨_, _, rx.dp 60 h1, ry.dp 60 h2, ?_, ?_, by rw [D.eq_pd 60 x y h1 h2]; exact q o _ H .refl sr (.bl _)⟩
      · obtain ⟨c1, c2⟩ := D.cmp_ok 60 x h1
        unfold SeqAt.shaped
        rw [c1, decide_eq_true (by omega)] <;> rfl
      · obtain ⟨c1, c2⟩ := D.cmp_ok 60 y h2
        unfold SeqAt.shaped
        rw [c1, decide_eq_true (by omega)] <;> rfl
  · cases e
theorem os_ne (hu : X.A.units + 64 < cLine) : OpS X ct (compareOp .NotEq) opNe := by
  intro pins s σ H v w u1 u2 Q I rv rw ⟨o, S, x, y, z, sr, rx, ry, e, q⟩
  unfold opNe at e
  split at e
  · rename_i h
    cases e
    rcases h with h | ⟨h1, h2⟩
    · obtain ⟨a1, a2⟩ := scl_ok rx ry h
      exact op_ne pins s σ H v w u1 u2 Q I rv rw ⟨a1, by rw [a2]; exact q o _ H .refl sr (.bl _)⟩
    · refine op_neD hu pins s σ H v w u1 u2 Q I rv rw ⟨_, _, rx.dp 60 h1, ry.dp 60 h2, ?_, ?_, by rw [D.eq_pd 60 x y h1 h2]; exact q o _ H .refl sr (.bl _)⟩
      · obtain ⟨c1, c2⟩ := D.cmp_ok 60 x h1
        unfold SeqAt.shaped
        rw [c1, decide_eq_true (by omega)] <;> rfl
      · obtain ⟨c1, c2⟩ := D.cmp_ok 60 y h2
        unfold SeqAt.shaped
        rw [c1, decide_eq_true (by omega)] <;> rfl
  · cases e
def opLt : D → D → Option D
  | .int i, .int j => some (.bl (decide (i < j)))
  | _, _ => none
def opLe : D → D → Option D
  | .int i, .int j => some (.bl (decide (i ≤ j)))
  | _, _ => none
def opGt : D → D → Option D
  | .int i, .int j => some (.bl (decide (j < i)))
  | _, _ => none
def opGe : D → D → Option D
  | .int i, .int j => some (.bl (decide (j ≤ i)))
  | _, _ => none
theorem os_lt : OpS X ct (compareOp .Lt) opLt := opS_int0 op_lt fun x y z e => by
  unfold opLt at e
  split at e
  · cases e; exact ⟨_, _, rfl, rfl, fun o H => .bl _⟩
  · cases e
theorem os_le : OpS X ct (compareOp .LtE) opLe := opS_int0 op_le fun x y z e => by
  unfold opLe at e
  split at e
  · cases e; exact ⟨_, _, rfl, rfl, fun o H => .bl _⟩
  · cases e
theorem os_gt : OpS X ct (compareOp .Gt) opGt := opS_int0 op_gt fun x y z e => by
  unfold opGt at e
  split at e
  · cases e; exact ⟨_, _, rfl, rfl, fun o H => .bl _⟩
  · cases e
theorem os_ge : OpS X ct (compareOp .GtE) opGe := opS_int0 op_ge fun x y z e => by
  unfold opGe at e
  split at e
  · cases e; exact ⟨_, _, rfl, rfl, fun o H => .bl _⟩
  · cases e
/-- is None -/
def D.isNon : D → Bool
  | .non => true
  | _ => false
def opIs : D → D → Option D
  | x, .non => some (.bl x.isNon)
  | _, _ => none
def opIsNot : D → D → Option D
  | x, .non => some (.bl (!x.isNon))
  | _, _ => none
theorem isNon_ok {K : PySem.W.Frag} {o : Om} {H : Hp} {v : V} {x : D} (rx : Rep K o H v x) : decide (v = .non) = x.isNon := by
  cases rx <;> first | rfl | simp [D.isNon]
theorem os_is : OpS X ct (compareOp .Is) opIs := OpR.imp op_isN fun v w H Q ⟨o, S, x, y, z, sr, rx, ry, e, q⟩ => by
  cases ry with
  | non => cases e; exact ⟨rfl, fun _ => by rw [isNon_ok rx]; exact q o _ H .refl sr (.bl _)⟩
  | _ => cases e
theorem os_isNot : OpS X ct (compareOp .IsNot) opIsNot := OpR.imp op_notN fun v w H Q ⟨o, S, x, y, z, sr, rx, ry, e, q⟩ => by
  cases ry with
  | non => cases e; exact ⟨rfl, fun _ => by rw [isNon_ok rx]; exact q o _ H .refl sr (.bl _)⟩
  | _ => cases e
/-- x in a list or a tuple of flat things -/
def D.flt : D → Bool
  | .non => true
  | .bl _ => true
  | .int _ => true
  | .str _ => true
  | _ => false
def D.items : D → Option (List D)
  | .tup xs => some xs
  | .lst xs => some xs
  | _ => none
def inD (x : D) (xs : List D) : Bool := xs.any fun y => D.eq y x
def opIn : D → D → Option D := fun x y => match y.items with
  | some ys => if x.flt = true ∧ ys.all D.flt = true then some (.bl (inD x ys)) else none
  | none => none
def opNotIn : D → D → Option D := fun x y => match y.items with
  | some ys => if x.flt = true ∧ ys.all D.flt = true then some (.bl (!inD x ys)) else none
  | none => none
theorem flt_ok {K : PySem.W.Frag} {o : Om} {H : Hp} {v : V} {x : D} (rx : Rep K o H v x) (h : x.flt = true) : flatV v = true := by
  cases rx <;> first | rfl | cases h
theorem flts_ok {K : PySem.W.Frag} {o : Om} {H : Hp} : ∀ {vs : List V} {ds : List D}, RepL K o H vs ds → ds.all D.flt = true → vs.all flatV = true
  | _, _, .nil, _ => rfl
  | _, _, .cons a r, h => by
    rw [List.all_cons, Bool.and_eq_true] at h ⊢
    exact ⟨flt_ok a h.1, flts_ok r h.2⟩
theorem beq_cps (a b : List Nat) : ((⟨a.toArray⟩ : Str) == ⟨b.toArray⟩) = (a == b) := beq_arr a b
theorem eqV_ok {K : PySem.W.Frag} {o : Om} {H : Hp} {v w : V} {x y : D} (rx : Rep K o H v x) (ry : Rep K o H w y) (hx : x.flt = true) (hy : y.flt = true) : eqV v w = D.eq x y := by
  cases rx <;> first | (cases hx; done) | skip
  all_goals (cases ry <;> first | (cases hy; done) | rfl | exact beq_arr _ _)
theorem inV_ok {K : PySem.W.Frag} {o : Om} {H : Hp} {v : V} {x : D} (rx : Rep K o H v x) (hx : x.flt = true) : ∀ {vs : List V} {ds : List D}, RepL K o H vs ds → ds.all D.flt = true → inV v vs = inD x ds
  | _, _, .nil, _ => rfl
  | _, _, .cons a r, h => by
    rw [List.all_cons, Bool.and_eq_true] at h
    unfold inV inD
    rw [List.any_cons, List.any_cons, eqV_ok a rx h.1 hx]
    have := inV_ok rx hx r h.2
    unfold inV inD at this
    rw [this]
theorem items_ok {K : PySem.W.Frag} {o : Om} {H : Hp} {w : V} {y : D} {ys : List D} (ry : Rep K o H w y) (e : y.items = some ys) : ∃ p vs, w = .ref p ∧ (SqL K H p vs ∨ SqT K H p vs) ∧ RepL K o H vs ys := by
  cases ry with
  | tup h r => cases e; exact ⟨_, _, rfl, .inr h, r⟩
  | lst h _ r => cases e; exact ⟨_, _, rfl, .inl (.of h), r⟩
  | _ => cases e
theorem os_in : OpS X ct (compareOp .In) opIn := OpR.imp op_in_seq fun v w H Q ⟨o, S, x, y, z, sr, rx, ry, e, q⟩ => by
  unfold opIn at e
  split at e
  · rename_i ys ey
    split at e
    · rename_i h
      cases e
      obtain ⟨p, vs, rfl, hq, r⟩ := items_ok ry ey
      exact ⟨p, vs, rfl, hq, flt_ok rx h.1, flts_ok r h.2, fun _ => by
        show Q (.bl (inV v vs)) H
        rw [inV_ok rx h.1 r h.2]
        exact q o _ H .refl sr (.bl _)⟩
    · cases e
  · cases e
theorem os_notIn : OpS X ct (compareOp .NotIn) opNotIn := OpR.imp op_notIn_seq fun v w H Q ⟨o, S, x, y, z, sr, rx, ry, e, q⟩ => by
  unfold opNotIn at e
  split at e
  · rename_i ys ey
    split at e
    · rename_i h
      cases e
      obtain ⟨p, vs, rfl, hq, r⟩ := items_ok ry ey
      exact ⟨p, vs, rfl, hq, flt_ok rx h.1, flts_ok r h.2, fun _ => by
        show Q (.bl (!inV v vs)) H
        rw [inV_ok rx h.1 r h.2]
        exact q o _ H .refl sr (.bl _)⟩
    · cases e
  · cases e
end
end DL

end
section
set_option maxRecDepth 100000
set_option maxHeartbeats 2000000
/-! The data layer: subscripts, slices, built-ins. -/
namespace DL
open PySem PySem.Spec PyProof.Rows L2

/-! ### places -/
def opIx : D → D → Option D
  | .tup xs, .int i => atI xs i
  | .lst xs, .int i => atI xs i
  | .scr ns, .int i => (atI ns i).map D.int
  | .str s, .int i => if s.length ≤ 16777216 then (atI s i).map fun c => .str [c] else none
  | _, _ => none
theorem RepL.atI {K : PySem.W.Frag} {o : Om} {H : Hp} {vs : List V} {ds : List D} {i : Int} {d : D} (h : RepL K o H vs ds) (e : L2.atI ds i = some d) : ∃ v, L2.atI vs i = some v ∧ Rep K o H v d := by
  unfold L2.atI at e ⊢
  rw [h.length]
  cases e2 : ixN ds.length i with
  | none => rw [e2] at e; cases e
  | some j =>
    rw [e2] at e
    exact h.get e
theorem atI_map {α β : Type} (f : α → β) (xs : List α) (i : Int) : L2.atI (xs.map f) i = (L2.atI xs i).map f := by
  unfold L2.atI
  rw [List.length_map]
  cases ixN xs.length i with
  | none => rfl
  | some j => simp
section
variable {X : Cx} {ct : CT} {W : Wish} {pos : Pos} {a b c : Expr} {ta tb tc : Ex}
theorem IxR.imp {r r' : R2} (h : IxR X r) (k : ∀ x y H Q, r' x y H Q → r x y H fun v H' => KF X.K H' → Q v H') : IxR X r' :=
  fun value slice pins s σ H x y v u Q I rx ry q hs => wpAny_mono (h value slice pins s σ H x y v u _ I rx ry (k x y H Q q) hs) (fun _ _ ⟨v, H', I', r, q⟩ => ⟨v, H', I', r, q (kf_of I')⟩) fun _ _ z => z
/-- a[b] -/
def eix (a b : Ex) : Ex := fun G S => (a G S).bind fun x S1 => (b G S1).bind fun y S2 => match opIx (deref S2 x) y with
  | some z => .ok z S2
  | none => .bad
def rIx (K : PySem.W.Frag) (ct : CT) : R2 := fun v w H Q => ∃ o S x y z, SRel K ct o S H ∧ Rep K o H v x ∧ Rep K o H w y ∧ opIx (deref S x) y = some z ∧ After K ct o H Q z S
theorem ixs_ok : IxR X (rIx X.K ct) := IxR.imp ix_seq fun v w H Q ⟨o, S, x, y, z, sr, rx, ry, e, q⟩ => by
  cases ry with
  | int i =>
    cases rx with
    | tup h r =>
      obtain ⟨u, e1, r1⟩ := r.atI e
      exact .inr (.inl ⟨_, _, i, u, rfl, rfl, h, e1, fun _ => q o _ H .refl sr r1⟩)
    | lst h _ r =>
      obtain ⟨u, e1, r1⟩ := r.atI e
      exact .inl ⟨_, _, i, u, rfl, rfl, .of h, e1, fun _ => q o _ H .refl sr r1⟩
    | fl h =>
      obtain ⟨c, ds, vs, _, _, h1, h2, h3⟩ := sr.fl h
      rw [h3] at e
      obtain ⟨u, e1, r1⟩ := h2.atI e
      exact .inl ⟨_, _, i, u, rfl, rfl, .of h1, e1, fun _ => q o _ H .refl sr r1⟩
    | @scr a ns h nb =>
      have e : (L2.atI ns i).map D.int = some z := e
      obtain ⟨n, e1, e2⟩ := Option.map_eq_some_iff.mp e
      subst e2
      exact .inl ⟨_, _, i, .int n, rfl, rfl, h, by rw [atI_map, e1]; rfl, fun _ => q o _ H .refl sr (.int n)⟩
    | str s =>
      have e : (if s.length ≤ 16777216 then (L2.atI s i).map (fun c => D.str [c]) else none) = some z := e
      by_cases hz : s.length ≤ 16777216
      · rw [if_pos hz] at e
        obtain ⟨n, e1, e2⟩ := Option.map_eq_some_iff.mp e
        subst e2
        exact .inr (.inr ⟨_, i, n, rfl, rfl, by rw [str_len, sizeLine_eq]; exact hz, by simpa using e1, fun _ => q o _ H .refl sr (.str [n])⟩)
      · rw [if_neg hz] at e; cases e
    | _ => cases e
  | _ => exact absurd e (by cases deref S x <;> simp [opIx])
theorem tD_ix {K : PySem.W.Frag} {σ : L2.St} {H : Hp} {Q : VK} (h : tD K ct W (eix ta tb) σ H Q) : tOp (rIx K ct) (tD K ct W ta) (tD K ct W tb) σ H Q := by
  obtain ⟨o, G, S, er, h⟩ := h
  refine go er h fun o1 S1 H1 v x x1 er1 rx h1 => go er1 h1 fun o2 S2 H2 w y x2 er2 ry h2 => ?_
  cases e : opIx (deref S2 x) y with
  | none => rw [e] at h2; exact h2.elim
  | some z =>
    rw [e] at h2
    exact ⟨o2, S2, x, y, z, er2.s, x2.rep er1.s rx, ry, e, h2⟩
theorem pd_ix (ha : PD X ct W a ta) (hb : PD X ct W b tb) (hs : PlainIx b) : PD X ct W (.Subscript a b pos) (eix ta tb) := PE.wk (pe_ix ixs_ok ha hb hs) fun _ _ _ h => tD_ix h

/-! ### slices -/
abbrev Ox := Env → Store → R (Option Int)
def AfterO (K : PySem.W.Frag) (ct : CT) (o : Om) (H : Hp) (Q : Option Int → Hp → Prop) (b : Option Int) (S' : Store) : Prop := ∀ o' H', Ext K o o' H H' → SRel K ct o' S' H' → Q b H'
def tDo (K : PySem.W.Frag) (ct : CT) (W : Wish) (t : Ox) : TO := fun σ H Q => ∃ o G S, ERel K ct o G S σ H ∧ Res K ct W o H (t G S) (AfterO K ct o H Q)
def PDo (X : Cx) (ct : CT) (W : Wish) (e : Option Expr) (t : Ox) : Prop := PO X e (tDo X.K ct W t)
theorem PO.wk {e : Option Expr} {t t' : TO} (h : PO X e t) (k : ∀ σ H Q, t' σ H Q → t σ H Q) : PO X e t' := ⟨fun pins s σ H Q I w => h.run pins s σ H Q I (k σ H Q w)⟩
def onone : Ox := fun _ S => .ok none S
def osome (t : Ex) : Ox := fun G S => (t G S).bind fun x S1 => match x with
  | .int i => .ok (some i) S1
  | _ => .bad
theorem pdo_none : PDo X ct W none onone := PO.wk po_none fun σ H Q ⟨o, G, S, er, h⟩ => h o H .refl er.s
theorem pdo_some (ha : PD X ct W a ta) : PDo X ct W (some a) (osome ta) := PO.wk (po_some ha) fun σ H Q ⟨o, G, S, er, h⟩ => by
  refine ⟨o, G, S, er, Res.then h fun d S1 h' o1 v H1 x1 s1 r1 => ?_⟩
  cases r1 with
  | int i => exact ⟨i, rfl, h' o1 H1 x1 s1⟩
  | _ => exact h'.elim
/-- xs[lo:hi] -/
def cutL {α : Type} (xs : List α) (lo hi : Option Int) : List α := (xs.drop (HT.sIx xs.length 0 lo)).take (HT.sIx xs.length xs.length hi - HT.sIx xs.length 0 lo)
def D.cut (lo hi : Option Int) : D → Option D
  | .tup xs => some (.tup (cutL xs lo hi))
  | .lst xs => some (.lst (cutL xs lo hi))
  | .str s => if s.length ≤ 16777216 then some (.str (cutL s lo hi)) else none
  | _ => none
def ecut (a : Ex) (lo hi : Ox) : Ex := fun G S => (a G S).bind fun x S1 => (lo G S1).bind fun l S2 => (hi G S2).bind fun h S3 => match x.cut l h with
  | some z => .ok z S3
  | none => .bad
theorem RepL.cut {K : PySem.W.Frag} {o : Om} {H : Hp} {vs : List V} {ds : List D} (h : RepL K o H vs ds) (lo hi : Option Int) : RepL K o H (cutV vs lo hi) (cutL ds lo hi) := by
  unfold cutV cutL
  rw [h.length]
  exact (h.drop _).take _
theorem goO {K : PySem.W.Frag} {σ : L2.St} {H : Hp} {o : Om} {G : Env} {S : Store} {t : Ox} {f : Option Int → Store → R D} {Q : VK} {R : Option Int → Hp → Prop} (er : ERel K ct o G S σ H) (h : Res K ct W o H ((t G S).bind f) (After K ct o H Q))
    (k : ∀ o1 S1 H1 d, Ext K o o1 H H1 → ERel K ct o1 G S1 σ H1 → Res K ct W o1 H1 (f d S1) (After K ct o1 H1 Q) → R d H1) : tDo K ct W t σ H R :=
  ⟨o, G, S, er, h.then fun d S1 h' o1 H1 x1 s1 => k o1 S1 H1 d x1 (er.ext x1 s1) (h'.later x1 fun _ _ z => z.later x1)⟩
theorem SlR.imp {r r' : V → Option Int → Option Int → Hp → VK → Prop} (h : SlR X r) (k : ∀ x lo hi H Q, r' x lo hi H Q → r x lo hi H fun v H' => KF X.K H' → Q v H') : SlR X r' :=
  fun pins s σ H x v vl vu lo hi sl Q I rx hs pl pu q => by
    obtain ⟨T, id, a1, a2, a3⟩ := h pins s σ H x v vl vu lo hi sl _ I rx hs pl pu (k x lo hi H Q q)
    exact ⟨T, id, a1, a2, wpAny_mono a3 (fun _ _ ⟨v, H', I', r, q⟩ => ⟨v, H', I', r, q (kf_of I')⟩) fun _ _ z => z⟩
def cutOf (K : PySem.W.Frag) (ct : CT) : V → Option Int → Option Int → Hp → VK → Prop := fun v lo hi H Q => ∃ o S x z, SRel K ct o S H ∧ Rep K o H v x ∧ x.cut lo hi = some z ∧ After K ct o H Q z S
theorem sl_ok : SlR X (cutOf X.K ct) := SlR.imp (SlR.or sl_list (SlR.or sl_tupA sl_str)) fun v lo hi H Q ⟨o, S, x, z, sr, rx, e, q⟩ => by
  cases rx with
  | @tup a vs ds h r =>
    cases e
    refine .inr (.inl ⟨_, _, rfl, h, fun hw _ => ?_, fun _ p hp kf => new_tup sr hp kf (r.cut lo hi) q⟩)
    have e : cutL ds lo hi = ds := by
      unfold cutL
      rw [← r.length, hw.1, hw.2, r.length]
      simp
    rw [e] at q
    exact q o _ H .refl sr (.tup h r)
  | lst h _ r =>
    cases e
    exact .inl ⟨_, _, rfl, .of h, fun p hp kf => new_lst sr hp kf (r.cut lo hi) q⟩
  | str s =>
    have e : (if s.length ≤ 16777216 then some (D.str (cutL s lo hi)) else none) = some z := e
    by_cases hz : s.length ≤ 16777216
    · rw [if_pos hz] at e
      cases e
      refine .inr (.inr ⟨_, rfl, by rw [str_len, sizeLine_eq]; exact hz, fun _ => ?_⟩)
      have e : cutS ⟨s.toArray⟩ lo hi = ⟨(cutL s lo hi).toArray⟩ := by
        unfold cutS cutL
        rw [str_len]
      rw [e]
      exact q o _ H .refl sr (.str _)
    · rw [if_neg hz] at e; cases e
  | _ => cases e
theorem pd_cut {lo hi : Option Expr} {tl th : Ox} {p2 : Pos} (ha : PD X ct W a ta) (hl : PDo X ct W lo tl) (hh : PDo X ct W hi th) : PD X ct W (.Subscript a (.Slice lo hi none p2) pos) (ecut ta tl th) :=
  PE.wk (pe_slice sl_ok ha hl hh) fun σ H Q ⟨o, G, S, er, h⟩ => go er h fun o1 S1 H1 v x x1 er1 rx h1 => goO er1 h1 fun o2 S2 H2 l x2 er2 h2 => goO er2 h2 fun o3 S3 H3 u x3 er3 h3 => by
    cases e : x.cut l u with
    | none => rw [e] at h3; exact h3.elim
    | some z =>
      rw [e] at h3
      exact ⟨o3, S3, x, z, er3.s, x3.rep er2.s (x2.rep er1.s rx), e, h3⟩

/-! ### built-ins by name -/
def cOf (K : PySem.W.Frag) (ct : CT) (f : List D → Option D) : List V → Hp → VK → Prop := fun vs H Q => ∃ o S ds z, SRel K ct o S H ∧ RepL K o H vs ds ∧ f ds = some z ∧ After K ct o H Q z S
def CallS (X : Cx) (ct : CT) (F : Value) (f : List D → Option D) : Prop := CallR X F (cOf X.K ct f)
def ecal (f : List D → Option D) (t : Exs) : Ex := fun G S => (t G S).bind fun xs S1 => match f xs with
  | some z => .ok z S1
  | none => .bad
variable {x : Str} {p : Pos} {es : List Expr} {tes : Exs} {id T : String} {f : List D → Option D}
theorem tD_cal {K : PySem.W.Frag} {σ : L2.St} {H : Hp} {Q : VK} (h : tD K ct W (ecal f tes) σ H Q) : tCB (cOf K ct f) (tDs K ct W tes) σ H Q := by
  obtain ⟨o, G, S, er, h⟩ := h
  refine goA er h fun o1 S1 H1 v d x1 er1 r1 h1 => ?_
  cases e : f d with
  | none => rw [e] at h1; exact h1.elim
  | some z =>
    rw [e] at h1
    exact ⟨o1, S1, d, z, er1.s, r1, e, h1⟩
theorem pd_callB (hc : CallS X ct (.builtin id) f) (hg : Gl X x) (hm : X.mg x = none) (hv : bootBuiltins x = some (.builtin id)) (ha : PDs X ct W (a :: es) tes) (hn : x ≠ "__name__" := by decide) (hdb : (x == ("__debug__" : Str)) = false := by decide)
    (he : starEach (a :: es) X.env = (false, eval a X.env) :: starEach es X.env := by rfl) (hpl : (backTo pos (starEach es X.env)).any (·.1) = false := by rfl) : PD X ct W (.Call (.Name x p) (a :: es) [] pos) (ecal f tes) :=
  PE.wk (pe_callB hc hg hm hv ha hn hdb he hpl) fun _ _ _ h => tD_cal h
theorem pd_callT (hc : CallS X ct (.type T) f) (hg : Gl X x) (hm : X.mg x = none) (hv : bootBuiltins x = some (.type T)) (ha : PDs X ct W (a :: es) tes) (hn : x ≠ "__name__" := by decide) (hdb : (x == ("__debug__" : Str)) = false := by decide)
    (he : starEach (a :: es) X.env = (false, eval a X.env) :: starEach es X.env := by rfl) (hpl : (backTo pos (starEach es X.env)).any (·.1) = false := by rfl) : PD X ct W (.Call (.Name x p) (a :: es) [] pos) (ecal f tes) :=
  PE.wk (pe_callTy hc hg hm hv ha hn hdb he hpl) fun _ _ _ h => tD_cal h
theorem CallR.kf {F : Value} {r : List V → Hp → VK → Prop} (h : CallR X F r) : CallR X F (fun xs H Q => r xs H fun v H' => KF X.K H' → Q v H') := CallR.imp h fun _ _ _ q => q
theorem RepL.one {K : PySem.W.Frag} {o : Om} {H : Hp} {vs : List V} {d : D} (h : RepL K o H vs [d]) : ∃ v, vs = [v] ∧ Rep K o H v d := by
  cases h with
  | cons a r => cases r; exact ⟨_, rfl, a⟩
theorem RepL.two {K : PySem.W.Frag} {o : Om} {H : Hp} {vs : List V} {d e : D} (h : RepL K o H vs [d, e]) : ∃ v w, vs = [v, w] ∧ Rep K o H v d ∧ Rep K o H w e := by
  cases h with
  | cons a r =>
    cases r with
    | cons b r => cases r; exact ⟨_, _, rfl, a, b⟩
def fLen : List D → Option D
  | [.str s] => if s.length ≤ 16777216 then some (.int s.length) else none
  | [.tup xs] => some (.int xs.length)
  | [.lst xs] => some (.int xs.length)
  | [.scr xs] => some (.int xs.length)
  | _ => none
theorem cs_len : CallS X ct (.builtin "len") fLen := CallR.imp call_len fun vs H Q ⟨o, S, ds, z, sr, rx, e, q⟩ => by
  unfold fLen at e
  split at e
  · rename_i s
    split at e
    · rename_i hz
      cases e
      obtain ⟨v, rfl, r⟩ := rx.one
      cases r
      exact ⟨_, s.length, rfl, ⟨by rw [str_len, sizeLine_eq]; exact hz, (str_len s).symm⟩, fun _ => q o _ H .refl sr (.int _)⟩
    · cases e
  · rename_i xs
    cases e
    obtain ⟨v, rfl, r⟩ := rx.one
    cases r with
    | tup h r => exact ⟨_, xs.length, rfl, .inr ⟨_, h, r.length.symm⟩, fun _ => q o _ H .refl sr (.int _)⟩
  · rename_i xs
    cases e
    obtain ⟨v, rfl, r⟩ := rx.one
    cases r with
    | lst h _ r => exact ⟨_, xs.length, rfl, .inl ⟨_, .of h, r.length.symm⟩, fun _ => q o _ H .refl sr (.int _)⟩
  · rename_i xs
    cases e
    obtain ⟨v, rfl, r⟩ := rx.one
    cases r with
    | scr h _ => exact ⟨_, xs.length, rfl, .inl ⟨_, h, by rw [List.length_map]⟩, fun _ => q o _ H .refl sr (.int _)⟩
  · cases e
/-- len(a) -/
def elen (a : Ex) : Ex := fun G S => (a G S).bind fun x S1 => match fLen [deref S1 x] with
  | some z => .ok z S1
  | none => .bad
theorem pd_len (hg : Gl X "len") (hm : X.mg "len" = none) (ha : PD X ct W a ta) (he : starEach [a] X.env = (false, eval a X.env) :: starEach [] X.env := by rfl) : PD X ct W (.Call (.Name "len" p) [a] [] pos) (elen ta) :=
  PE.imp (pe_callB call_len hg hm (by decide +kernel) (pa_cons ha pa_nil he) (by decide) (by decide) he (by rfl)) fun σ H Q ⟨o, G, S, er, h⟩ => go er h fun o1 S1 H1 v d x1 er1 r1 h1 => by
    cases e : fLen [deref S1 d] with
    | none => rw [e] at h1; exact h1.elim
    | some z =>
      rw [e] at h1
      cases r1 with
      | str s =>
        have e : (if s.length ≤ 16777216 then some (D.int s.length) else none) = some z := e
        by_cases hz : s.length ≤ 16777216
        · rw [if_pos hz] at e
          cases e
          exact ⟨_, s.length, rfl, ⟨by rw [str_len, sizeLine_eq]; exact hz, (str_len s).symm⟩, fun _ => h1 o1 _ H1 .refl er1.s (.int _)⟩
        · rw [if_neg hz] at e; cases e
      | @tup _ _ xs h r => cases e; exact ⟨_, xs.length, rfl, .inr ⟨_, h, r.length.symm⟩, fun _ => h1 o1 _ H1 .refl er1.s (.int _)⟩
      | @lst _ _ xs h _ r => cases e; exact ⟨_, xs.length, rfl, .inl ⟨_, .of h, r.length.symm⟩, fun _ => h1 o1 _ H1 .refl er1.s (.int _)⟩
      | @scr _ xs h _ => cases e; exact ⟨_, xs.length, rfl, .inl ⟨_, h, by rw [List.length_map]⟩, fun _ => h1 o1 _ H1 .refl er1.s (.int _)⟩
      | fl h =>
        obtain ⟨c, ds, vs, _, _, q1, q2, q3⟩ := er1.s.fl h
        rw [q3] at e
        cases e
        exact ⟨_, ds.length, rfl, .inl ⟨_, .of q1, q2.length.symm⟩, fun _ => h1 o1 _ H1 .refl er1.s (.int _)⟩
      | _ => cases e
def fAbs : List D → Option D
  | [.int i] => some (.int (if i < 0 then -i else i))
  | _ => none
theorem cs_abs : CallS X ct (.builtin "abs") fAbs := CallR.imp call_abs fun vs H Q ⟨o, S, ds, z, sr, rx, e, q⟩ => by
  unfold fAbs at e
  split at e
  · cases e
    obtain ⟨v, rfl, r⟩ := rx.one
    cases r
    exact ⟨_, rfl, fun _ => q o _ H .refl sr (.int _)⟩
  · cases e
def fMax2 : List D → Option D
  | [.int i, .int j] => some (.int (if j > i then j else i))
  | _ => none
def fMin2 : List D → Option D
  | [.int i, .int j] => some (.int (if j < i then j else i))
  | _ => none
theorem cs_max2 (hc : X.calm = true) : CallS X ct (.builtin "max") fMax2 := CallR.imp (call_max2 hc) fun vs H Q ⟨o, S, ds, z, sr, rx, e, q⟩ => by
  unfold fMax2 at e
  split at e
  · cases e
    obtain ⟨v, w, rfl, r1, r2⟩ := rx.two
    cases r1
    cases r2
    exact ⟨_, _, rfl, fun _ => q o _ H .refl sr (.int _)⟩
  · cases e
theorem cs_min2 (hc : X.calm = true) : CallS X ct (.builtin "min") fMin2 := CallR.imp (call_min2 hc) fun vs H Q ⟨o, S, ds, z, sr, rx, e, q⟩ => by
  unfold fMin2 at e
  split at e
  · cases e
    obtain ⟨v, w, rfl, r1, r2⟩ := rx.two
    cases r1
    cases r2
    exact ⟨_, _, rfl, fun _ => q o _ H .refl sr (.int _)⟩
  · cases e
def fInt1 : List D → Option D
  | [.int i] => some (.int i)
  | [.bl k] => some (.int (if k then 1 else 0))
  | _ => none
theorem cs_int1 : CallS X ct (.type "int") fInt1 := CallR.imp call_int1 fun vs H Q ⟨o, S, ds, z, sr, rx, e, q⟩ => by
  unfold fInt1 at e
  split at e
  · cases e
    obtain ⟨v, rfl, r⟩ := rx.one
    cases r
    exact .inl ⟨_, rfl, fun _ => q o _ H .refl sr (.int _)⟩
  · cases e
    obtain ⟨v, rfl, r⟩ := rx.one
    cases r
    exact .inr ⟨_, rfl, fun _ => q o _ H .refl sr (.int _)⟩
  · cases e
def D.ints : List D → Option (List Int)
  | [] => some []
  | .int i :: r => (D.ints r).map (i :: ·)
  | _ => none
def D.bls : List D → Option (List Bool)
  | [] => some []
  | .bl i :: r => (D.bls r).map (i :: ·)
  | _ => none
def D.strs : List D → Option (List (List Nat))
  | [] => some []
  | .str i :: r => (D.strs r).map (i :: ·)
  | _ => none
theorem D.ints_eq : ∀ {ds : List D} {ns : List Int}, D.ints ds = some ns → ds = ns.map D.int
  | [], ns, h => by cases h; rfl
  | d :: r, ns, h => by
    cases d with
    | int i =>
      have h : (D.ints r).map (i :: ·) = some ns := h
      obtain ⟨m, h1, h2⟩ := Option.map_eq_some_iff.mp h
      subst h2
      rw [List.map_cons, ← D.ints_eq h1]
    | _ => cases h
theorem D.ints_map : ∀ (ns : List Int), D.ints (ns.map D.int) = some ns
  | [] => rfl
  | n :: r => by
    show (D.ints (r.map D.int)).map (n :: ·) = _
    rw [D.ints_map r] <;> rfl
theorem D.bls_eq : ∀ {ds : List D} {ns : List Bool}, D.bls ds = some ns → ds = ns.map D.bl
  | [], ns, h => by cases h; rfl
  | d :: r, ns, h => by
    cases d with
    | bl i =>
      have h : (D.bls r).map (i :: ·) = some ns := h
      obtain ⟨m, h1, h2⟩ := Option.map_eq_some_iff.mp h
      subst h2
      rw [List.map_cons, ← D.bls_eq h1]
    | _ => cases h
theorem D.bls_map : ∀ (ns : List Bool), D.bls (ns.map D.bl) = some ns
  | [] => rfl
  | n :: r => by
    show (D.bls (r.map D.bl)).map (n :: ·) = _
    rw [D.bls_map r] <;> rfl
theorem D.strs_eq : ∀ {ds : List D} {ns : List (List Nat)}, D.strs ds = some ns → ds = ns.map D.str
  | [], ns, h => by cases h; rfl
  | d :: r, ns, h => by
    cases d with
    | str i =>
      have h : (D.strs r).map (i :: ·) = some ns := h
      obtain ⟨m, h1, h2⟩ := Option.map_eq_some_iff.mp h
      subst h2
      rw [List.map_cons, ← D.strs_eq h1]
    | _ => cases h
theorem D.strs_map : ∀ (ns : List (List Nat)), D.strs (ns.map D.str) = some ns
  | [] => rfl
  | n :: r => by
    show (D.strs (r.map D.str)).map (n :: ·) = _
    rw [D.strs_map r] <;> rfl
theorem RepL.bls {K : PySem.W.Frag} {o : Om} {H : Hp} : ∀ {vs : List V} {ns : List Bool}, RepL K o H vs (ns.map D.bl) → vs = ns.map V.bl
  | vs, [], h => by cases h; rfl
  | vs, n :: ns, h => by
    cases h with
    | cons a b => cases a; rw [List.map_cons, RepL.bls b]
theorem RepL.strs {K : PySem.W.Frag} {o : Om} {H : Hp} : ∀ {vs : List V} {ns : List (List Nat)}, RepL K o H vs (ns.map D.str) → vs = ns.map fun s => V.str ⟨s.toArray⟩
  | vs, [], h => by cases h; rfl
  | vs, n :: ns, h => by
    cases h with
    | cons a b => cases a; rw [List.map_cons, RepL.strs b]
def fSum : List D → Option D
  | [.lst xs] => (D.ints xs).map fun ns => .int ns.sum
  | [.tup xs] => (D.ints xs).map fun ns => .int ns.sum
  | _ => none
theorem sum_tup {prog : Program} {w : World} {A : Around} {E : Value → Shared → Prop} {s : Shared} {t : Addr} {its : List Value} {ns : List Int} {Q : Value → Shared → Prop} (hh : A.handled = none) (ht : s.heap.IsTuple t its.toArray) (hi : IntsAre its ns)
    (h : ∀ h' tk t', (∀ b o, s.heap.get? b = some o → h'.get? b = some o) → Q (.int ns.sum t') { s with heap := h', toks := tk }) : wpAny (model prog w) A (call (.builtin "sum") [.ref t]) Q E s := by
  obtain ⟨xs, e⟩ := hi.allInts.items
  have hn : numsOf (intItems xs).toList = ns := by rw [← e]; exact hi.numsOf
  rw [nums_intItems] at hn
  rw [e] at ht
  refine PySem.W.ktm_sumG hh ht fun h' tk t' hk => ?_
  have := h h' tk t' hk
  rw [preSum_eq, List.take_of_length_le (by simp), hn]; exact this
theorem cr_sumT (hc : X.calm = true) : CallR X (.builtin "sum") (fun vs H Q => ∃ (a : Addr) (ns : List Int), vs = [V.ref a] ∧ SqT X.K H a (ns.map V.int) ∧ Q (.int ns.sum) H) := by
  intro pins s σ H vs us Q I r h
  obtain ⟨a, ns, rfl, hs, q⟩ := h
  obtain ⟨its, rv, hl, _⟩ := I.tuple hs
  rw [Vals.ref1 r]
  exact sum_tup (I.ok.hd hc) hl rv.ints fun h' tk t' hk => ⟨.int ns.sum, H, I.kept hk, ⟨_, rfl⟩, q⟩
theorem cs_sum (hc : X.calm = true) : CallS X ct (.builtin "sum") fSum := CallR.imp (CallR.or (cr_sum hc) (cr_sumT hc)) fun vs H Q ⟨o, S, ds, z, sr, rx, e, q⟩ => by
  unfold fSum at e
  split at e
  · obtain ⟨ns, e1, e2⟩ := Option.map_eq_some_iff.mp e
    subst e2
    obtain ⟨v, rfl, r⟩ := rx.one
    cases r with
    | lst h _ r =>
      rw [D.ints_eq e1] at r
      rw [r.ints] at h
      exact .inl ⟨_, ns, rfl, .of h, fun _ => q o _ H .refl sr (.int _)⟩
  · obtain ⟨ns, e1, e2⟩ := Option.map_eq_some_iff.mp e
    subst e2
    obtain ⟨v, rfl, r⟩ := rx.one
    cases r with
    | tup h r =>
      rw [D.ints_eq e1] at r
      rw [r.ints] at h
      exact .inr ⟨_, ns, rfl, h, fun _ => q o _ H .refl sr (.int _)⟩
  · cases e
def fAll : List D → Option D
  | [.lst xs] => (D.bls xs).map fun ns => .bl (ns.all fun b => b)
  | _ => none
def fAny : List D → Option D
  | [.lst xs] => (D.bls xs).map fun ns => .bl (ns.any fun b => b)
  | _ => none
theorem cs_all (hc : X.calm = true) : CallS X ct (.builtin "all") fAll := CallR.imp (cr_all hc) fun vs H Q ⟨o, S, ds, z, sr, rx, e, q⟩ => by
  unfold fAll at e
  split at e
  · obtain ⟨ns, e1, e2⟩ := Option.map_eq_some_iff.mp e
    subst e2
    obtain ⟨v, rfl, r⟩ := rx.one
    cases r with
    | lst h _ r =>
      rw [D.bls_eq e1] at r
      rw [r.bls] at h
      exact ⟨_, ns, rfl, .of h, fun _ => q o _ H .refl sr (.bl _)⟩
  · cases e
theorem cs_any (hc : X.calm = true) : CallS X ct (.builtin "any") fAny := CallR.imp (cr_any hc) fun vs H Q ⟨o, S, ds, z, sr, rx, e, q⟩ => by
  unfold fAny at e
  split at e
  · obtain ⟨ns, e1, e2⟩ := Option.map_eq_some_iff.mp e
    subst e2
    obtain ⟨v, rfl, r⟩ := rx.one
    cases r with
    | lst h _ r =>
      rw [D.bls_eq e1] at r
      rw [r.bls] at h
      exact ⟨_, ns, rfl, .of h, fun _ => q o _ H .refl sr (.bl _)⟩
  · cases e
def fTuple : List D → Option D
  | [.lst xs] => some (.tup xs)
  | [.tup xs] => some (.tup xs)
  | _ => none
theorem cs_tuple : CallS X ct (.type "tuple") fTuple := CallR.imp call_tuple_of fun vs H Q ⟨o, S, ds, z, sr, rx, e, q⟩ => by
  unfold fTuple at e
  split at e
  · cases e
    obtain ⟨v, rfl, r⟩ := rx.one
    cases r with
    | lst h _ r => exact ⟨_, _, rfl, .inl ⟨.of h, fun p hp kf => new_tup sr hp kf r q⟩⟩
  · cases e
    obtain ⟨v, rfl, r⟩ := rx.one
    cases r with
    | tup h r => exact ⟨_, _, rfl, .inr ⟨h, fun _ => q o _ H .refl sr (.tup h r)⟩⟩
  · cases e
def fList : List D → Option D
  | [.lst xs] => some (.lst xs)
  | [.tup xs] => some (.lst xs)
  | _ => none
theorem cs_list : CallS X ct (.type "list") fList := CallR.imp call_list_of fun vs H Q ⟨o, S, ds, z, sr, rx, e, q⟩ => by
  unfold fList at e
  split at e
  · cases e
    obtain ⟨v, rfl, r⟩ := rx.one
    cases r with
    | lst h _ r => exact ⟨_, _, rfl, .inl (.of h), fun p hp kf => new_lst sr hp kf r q⟩
  · cases e
    obtain ⟨v, rfl, r⟩ := rx.one
    cases r with
    | tup h r => exact ⟨_, _, rfl, .inr h, fun p hp kf => new_lst sr hp kf r q⟩
  · cases e

/-! ### isinstance of the built-in classes -/
inductive BT where
  | int | bool | str | tuple
def BT.nm : BT → String
  | .int => "int"
  | .bool => "bool"
  | .str => "str"
  | .tuple => "tuple"
def D.isT : D → BT → Option Bool
  | .non, _ => some false
  | .bl _, .int => some true
  | .bl _, .bool => some true
  | .bl _, _ => some false
  | .int _, .int => some true
  | .int _, _ => some false
  | .str _, .str => some true
  | .str _, _ => some false
  | .tup _, .tuple => some true
  | .tup _, _ => some false
  | .lst _, _ => some false
  | _, _ => none
def eisi (t : Ex) (T : BT) : Ex := fun G S => (t G S).bind fun x S1 => match x.isT T with
  | some b => .ok (.bl b) S1
  | none => .bad
theorem kit_all : (kitB "NoneType" "int" = some false ∧ kitB "NoneType" "bool" = some false ∧ kitB "NoneType" "str" = some false ∧ kitB "NoneType" "tuple" = some false) ∧
    (kitB "bool" "int" = some true ∧ kitB "bool" "bool" = some true ∧ kitB "bool" "str" = some false ∧ kitB "bool" "tuple" = some false) ∧
    (kitB "int" "int" = some true ∧ kitB "int" "bool" = some false ∧ kitB "int" "str" = some false ∧ kitB "int" "tuple" = some false) ∧
    (kitB "str" "int" = some false ∧ kitB "str" "bool" = some false ∧ kitB "str" "str" = some true ∧ kitB "str" "tuple" = some false) ∧
    (kitB "tuple" "int" = some false ∧ kitB "tuple" "bool" = some false ∧ kitB "tuple" "str" = some false ∧ kitB "tuple" "tuple" = some true) ∧
    (kitB "list" "int" = some false ∧ kitB "list" "bool" = some false ∧ kitB "list" "str" = some false ∧ kitB "list" "tuple" = some false) := by decide +kernel
theorem tyx_tup {K : PySem.W.Frag} {H : Hp} {a : Addr} {vs : List V} (h : SqT K H a vs) : TyX K H (.ref a) (.type "tuple") := by
  rcases h with (h | ⟨ob, h⟩) | ⟨ob, its, n, hk, hc, _⟩
  · exact .base (.tup h)
  · exact .fTuple h
  · exact .kTuple hk hc
theorem isT_ok {K : PySem.W.Frag} {o : Om} {H : Hp} {v : V} {d : D} {T : BT} {b : Bool} (r : Rep K o H v d) (e : d.isT T = some b) : ∃ n : String, TyX K H v (.type n) ∧ kitB n T.nm = some b := by
  obtain ⟨⟨a1, a2, a3, a4⟩, ⟨b1, b2, b3, b4⟩, ⟨c1, c2, c3, c4⟩, ⟨d1, d2, d3, d4⟩, ⟨e1, e2, e3, e4⟩, ⟨f1, f2, f3, f4⟩⟩ := kit_all
  cases r with
  | non => exact ⟨_, .base .non, by cases T <;> cases e <;> assumption⟩
  | bl k => exact ⟨_, .base (.bl k), by cases T <;> cases e <;> assumption⟩
  | int k => exact ⟨_, .base (.int k), by cases T <;> cases e <;> assumption⟩
  | str k => exact ⟨_, .base (.str _), by cases T <;> cases e <;> assumption⟩
  | tup h r => exact ⟨_, tyx_tup h, by cases T <;> cases e <;> assumption⟩
  | lst h _ r => exact ⟨_, .base (.lst h), by cases T <;> cases e <;> assumption⟩
  | obj _ => cases T <;> cases e
  | scr _ _ => cases T <;> cases e
  | fl _ => cases T <;> cases e
theorem pd_isi {T : BT} {y : Str} {p2 : Pos} (hg : Gl X "isinstance") (hm : X.mg "isinstance" = none) (ha : PD X ct W a ta) (hg2 : Gl X y) (hm2 : X.mg y = none) (hv2 : bootBuiltins y = some (.type T.nm)) (hn2 : y ≠ "__name__") (hd2 : (y == ("__debug__" : Str)) = false)
    (hv : bootBuiltins "isinstance" = some (.builtin "isinstance") := by decide +kernel) (hs : starEach [a, .Name y p2] X.env = (false, eval a X.env) :: starEach [.Name y p2] X.env := by rfl) :
    PD X ct W (.Call (.Name "isinstance" p) [a, .Name y p2] [] pos) (eisi ta T) :=
  PE.imp (pe_callB call_isi hg hm hv (pa_cons ha (pa_cons (pe_bltn (v := .ty T.nm) hg2 hm2 hv2 rfl hn2 hd2) pa_nil) hs) (by decide) (by decide) hs) fun σ H Q ⟨o, G, S, er, h⟩ => go er h fun o1 S1 H1 v d x1 er1 r1 h1 => by
    cases e : d.isT T with
    | none => rw [e] at h1; exact h1.elim
    | some b =>
      rw [e] at h1
      obtain ⟨n, ty, kb⟩ := isT_ok r1 e
      exact ⟨v, _, _, _, b, rfl, .ty _, ty, kit_ty kb, fun _ => h1 o1 _ H1 .refl er1.s (.bl b)⟩

/-! ### methods of texts, of ints -/
def mOf (K : PySem.W.Frag) (ct : CT) (f : D → List D → Option D) : V → List V → Hp → VK → Prop := fun v vs H Q => ∃ o S x ds z, SRel K ct o S H ∧ Rep K o H v x ∧ RepL K o H vs ds ∧ f x ds = some z ∧ After K ct o H Q z S
def ebits (t : Ex) : Ex := fun G S => (t G S).bind fun x S1 => match x with
  | .int i => .ok (.int (Builtin.Int.intBits i : Nat)) S1
  | _ => .bad
theorem pd_bits {apos : Pos} (ha : PD X ct W a ta) (hbase : attributeBase a "bit_length" X.env (eval a X.env) = eval a X.env := by rfl) (hline : (apos.endLine == pos.line) = true := by rfl) : PD X ct W (.Call (.Attribute a "bit_length" apos) [] [] pos) (ebits ta) :=
  PE.wk (pe_bits ha hbase hline) fun σ H Q ⟨o, G, S, er, h⟩ => go er h fun o1 S1 H1 v d x1 er1 r1 h1 => by
    cases r1 with
    | int i => exact ⟨i, rfl, h1 o1 _ H1 .refl er1.s (.int _)⟩
    | _ => exact h1.elim
/-- sep.join(xs) -/
def joinL (sep : List Nat) : List (List Nat) → List Nat
  | [] => []
  | [x] => x
  | x :: y :: r => x ++ sep ++ joinL sep (y :: r)
def ejoin (a b : Ex) : Ex := ebin (fun x y => match x, y.items with
  | .str s, some ys => match D.strs ys with
    | some ts => if (ts.map List.length).sum + ts.length * s.length ≤ 16777216 then some (.str (joinL s ts)) else none
    | none => none
  | _, _ => none) a b
end
end DL

end
section
set_option maxRecDepth 100000
set_option maxHeartbeats 2000000
/-! The data layer: calls of defs, fields, methods, new instances. -/
namespace DL
open PySem PySem.Spec PyProof.Rows L2

/-- a def's promise by a function of data (nothing is raised) -/
def spD (K : PySem.W.Frag) (ct : CT) (d : Fn) : Sp := fun vs H Q _ => ∃ o S ds, SRel K ct o S H ∧ RepL K o H vs ds ∧ match d ds S with
  | .ok z S' => After K ct o H Q z S'
  | _ => False
/-- the def at f does d -/
structure FA (P : Program) (w : World) (K : PySem.W.Frag) (mg : Str → Option Value) (base : Heap) (ct : CT) (k : Nat) (f : Addr) (d : Fn) : Prop where
  ex : ∃ (fd : FuncData) (ps : List Str), Binds K fd ps [] ∧ FnOk P w K mg base CX0 k f fd ps (spD K ct d) ∧ ∀ ds S z S', d ds S = .ok z S' → ds.length = ps.length
/-- at a call the written part is apart from what is tracked -/
theorem FnOk.kf {P : Program} {w : World} {K : PySem.W.Frag} {mg : Str → Option Value} {base : Heap} {CX : CXT} {k : Nat} {f : Addr} {fd : FuncData} {ps : List Str} {sp : Sp} (F : FnOk P w K mg base CX k f fd ps sp) :
    FnOk P w K mg base CX k f fd ps (fun vs H Q E => vs.length = ps.length ∧ (KF K H → sp vs H Q E)) := by
  refine ⟨fun _ _ _ _ h => h.1, fun A outer s H args us vs Q E hr e0 hb r h => F.run A outer s H args us vs Q E hr e0 hb r (h.2 fun b u hu => ?_)⟩
  cases e : K.lookup b with
  | none => rfl
  | some ob =>
    have := (e0.bs b ob (e0.mod.kin b ob e)).2
    rw [hu] at this; cases this
/-- the module's name x is a def that does d -/
structure FI (P : Program) (w : World) (K : PySem.W.Frag) (mg : Str → Option Value) (base : Heap) (ct : CT) (k : Nat) (x : Str) (d : Fn) : Prop where
  ex : ∃ f : Addr, mg x = some (.ref f) ∧ PySem.W.keepIn K (.ref f) = true ∧ FA P w K mg base ct k f d
def ecall (d : Fn) (t : Exs) : Ex := fun G S => (t G S).bind fun xs S1 => match d xs S1 with
  | .ok z S2 => .ok z S2
  | _ => .bad
abbrev XFI (X : Cx) (ct : CT) (k : Nat) (x : Str) (d : Fn) : Prop := FI X.prog X.w X.K X.mg X.base ct k x d
section
variable {X : Cx} {ct : CT} {W : Wish} {pos p apos : Pos} {a o : Expr} {es : List Expr} {ta to : Ex} {tes : Exs} {k j : Nat} {x : Str} {d : Fn}
theorem tD_call {K : PySem.W.Frag} {σ : L2.St} {H : Hp} {Q : VK} {E : XK} (h : tD K ct W (ecall d tes) σ H Q) : tCall (spD K ct d) [] E (tDs K ct W tes) σ H Q := by
  obtain ⟨o, G, S, er, h⟩ := h
  refine goA er h fun o1 S1 H1 v ds x1 er1 r1 h1 => ?_
  rw [List.append_nil]
  refine ⟨o1, S1, ds, er1.s, r1, ?_⟩
  cases e : d ds S1 with
  | ok z S2 => rw [e] at h1; exact h1
  | exc _ _ => rw [e] at h1; exact h1.elim
  | bad => rw [e] at h1; exact h1.elim
theorem pd_call (F : XFI X ct k x d) (hr : Room k X.A) (hg : Gl X x) (ha : PDs X ct W (a :: es) tes) (hdb : (x == ("__debug__" : Str)) = false := by decide)
    (he : starEach (a :: es) X.env = (false, eval a X.env) :: starEach es X.env := by rfl) (hpl : (backTo pos (starEach es X.env)).any (·.1) = false := by rfl) : PD X ct W (.Call (.Name x p) (a :: es) [] pos) (ecall d tes) := by
  obtain ⟨f, hm, kp, fd, ps, hb, hf, _⟩ := F.ex
  exact PE.wk (pe_call hf hr hg hm kp hb .nil pass0 ha hdb he hpl) fun _ _ _ h => tD_call h
theorem pd_call0 (F : XFI X ct k x d) (hr : Room k X.A) (hg : Gl X x) (hdb : (x == ("__debug__" : Str)) = false := by decide) : PD X ct W (.Call (.Name x p) [] [] pos) (ecall d enil) := by
  obtain ⟨f, hm, kp, fd, ps, hb, hf, _⟩ := F.ex
  exact PE.wk (pe_call0 hf hr hg hm kp hb .nil pass0 hdb) fun σ H Q ⟨o, G, S, er, h⟩ => by
    have h : Res X.K ct W o H (match d [] S with
      | .ok z S2 => .ok z S2
      | _ => .bad) (After X.K ct o H Q) := h
    refine ⟨o, S, [], er.s, .nil, ?_⟩
    cases e : d [] S with
    | ok z S2 => rw [e] at h; exact h
    | exc _ _ => rw [e] at h; exact h.elim
    | bad => rw [e] at h; exact h.elim

/-! ### fields -/
/-- the field j of an object of the class c -/
def fldOf (S : Store) (c j : Nat) : D → Option D
  | .obj k => match S[k]? with
    | some cell => if cell.cls = c then match cell.fs[j]? with
      | some (.val d) => some d
      | some (.own _) => some (.fl k j)
      | _ => none
      else none
    | none => none
  | _ => none
def efld (t : Ex) (c j : Nat) : Ex := fun G S => (t G S).bind fun x S1 => match fldOf S1 c j x with
  | some d => .ok d S1
  | none => .bad
theorem fld_ok {K : PySem.W.Frag} {o : Om} {S : Store} {H : Hp} {v : V} {x d : D} {c : Nat} {cd : CD} {f : Str} (sr : SRel K ct o S H) (r : Rep K o H v x) (hc : ct c = some cd) (hf : cd.fl[j]? = some f) (e : fldOf S c j x = some d) :
    ∃ a dx fs w, v = .ref a ∧ H a = some (.ins cd.C dx fs) ∧ fs.lookup f = some w ∧ Rep K o H w d := by
  cases r with
  | @obj k hk =>
    unfold fldOf at e
    dsimp only at e
    cases e1 : S[k]? with
    | none => rw [e1] at e; cases e
    | some cell =>
      rw [e1] at e
      have e : (if cell.cls = c then (match cell.fs[j]? with | some (.val d) => some d | some (.own _) => some (.fl k j) | _ => none) else none) = some d := e
      by_cases hcl : cell.cls = c
      · rw [if_pos hcl] at e
        obtain ⟨cd', dx, vfs, h1, h2, h3, h4, h5, h6⟩ := (sr.cell k cell e1).ex
        rw [hcl, hc] at h1
        cases h1
        cases e2 : cell.fs[j]? with
        | none => rw [e2] at e; cases e
        | some sl =>
          rw [e2] at e
          cases sl with
          | val d' =>
            cases e
            obtain ⟨_, w, q1, q2⟩ := h6 j f _ hf e2
            exact ⟨_, dx, vfs, w, rfl, h2, q1, q2⟩
          | own ds =>
            cases e
            obtain ⟨l, vs, q1, q2, _⟩ := h6 j f _ hf e2
            exact ⟨_, dx, vfs, _, rfl, h2, q2, .fl q1⟩
          | no => cases e
      · rw [if_neg hcl] at e; cases e
  | _ => cases e
theorem CDok.noF {K : PySem.W.Frag} {cd : CD} (h : CDok K cd) {f : Str} (hf : cd.fl[j]? = some f) : NoAttr K cd.C f := h.no f (List.mem_of_getElem? hf)
theorem pd_fld {c : Nat} {cd : CD} {f : Str} (ha : PD X ct W a ta) (hc : ct c = some cd) (hf : cd.fl[j]? = some f) (hb : attributeBase a f X.env (eval a X.env) = eval a X.env := by rfl) : PD X ct W (.Attribute a f pos) (efld ta c j) :=
  PE.imp (pe_fld ha hb) fun σ H Q ⟨o, G, S, er, h⟩ => go er h fun o1 S1 H1 v x x1 er1 r1 h1 => by
    cases e : fldOf S1 c j x with
    | none => rw [e] at h1; exact h1.elim
    | some d =>
      rw [e] at h1
      obtain ⟨a, dx, fs, w, q1, q2, q3, q4⟩ := fld_ok er1.s r1 hc hf e
      have ok := er1.s.cok c cd hc
      exact ⟨a, cd.C, dx, fs, w, q1, q2, ok.cl, ok.noF hf, q3, fun _ => h1 o1 w H1 .refl er1.s q4⟩

/-! ### methods -/
def clsOf (S : Store) : D → Option Nat
  | .obj k => match S[k]? with
    | some cell => some cell.cls
    | none => none
  | _ => none
/-- o.m(..), o of the class c: the def d -/
def emeth (t : Ex) (c : Nat) (d : Fn) (ts : Exs) : Ex := fun G S => (t G S).bind fun x S1 => if clsOf S1 x = some c then (ts G S1).bind fun xs S2 => match d (x :: xs) S2 with
  | .ok z S3 => .ok z S3
  | _ => .bad
  else .bad
theorem lookup_none_of {α : Type} {l : List (Str × α)} {m : Str} (h : m ∉ l.map (·.1)) : l.lookup m = none := by
  cases e : l.lookup m with
  | none => rfl
  | some v => exact absurd (List.mem_map.mpr ⟨(m, v), PySem.mem_of_lookup e, rfl⟩) h
theorem cls_ok {K : PySem.W.Frag} {o : Om} {S : Store} {H : Hp} {v : V} {x : D} {c : Nat} {cd : CD} (sr : SRel K ct o S H) (r : Rep K o H v x) (hc : ct c = some cd) (e : clsOf S x = some c) :
    ∃ a dx fs, v = .ref a ∧ H a = some (.ins cd.C dx fs) ∧ ∀ m, m ∉ cd.fl → fs.lookup m = none := by
  cases r with
  | @obj k hk =>
    unfold clsOf at e
    dsimp only at e
    cases e1 : S[k]? with
    | none => rw [e1] at e; cases e
    | some cell =>
      rw [e1] at e
      have e : some cell.cls = some c := e
      cases e
      obtain ⟨cd', dx, vfs, h1, h2, h3, h4, h5, h6⟩ := (sr.cell k cell e1).ex
      rw [hc] at h1
      cases h1
      exact ⟨_, dx, vfs, rfl, h2, fun m hm => lookup_none_of fun z => hm (h5 m z)⟩
  | _ => cases e
structure MI (P : Program) (w : World) (K : PySem.W.Frag) (mg : Str → Option Value) (base : Heap) (ct : CT) (k : Nat) (C : Addr) (m : Str) (d : Fn) : Prop where
  ex : ∃ f : Addr, Meth K C m f ∧ FA P w K mg base ct k f d
theorem tD_meth {K : PySem.W.Frag} {σ : L2.St} {H : Hp} {Q : VK} {E : XK} {c : Nat} {cd : CD} {m : Str} (hc : ct c = some cd) (hm : m ∉ cd.fl) (h : tD K ct W (emeth to c d tes) σ H Q) : tMeth cd.C m (spD K ct d) [] E (tD K ct W to) (tDs K ct W tes) σ H Q := by
  obtain ⟨o, G, S, er, h⟩ := h
  refine go er h fun o1 S1 H1 v x x1 er1 r1 h1 => ?_
  by_cases e : clsOf S1 x = some c
  · rw [if_pos e] at h1
    obtain ⟨a, dx, fs, q1, q2, q3⟩ := cls_ok er1.s r1 hc e
    refine ⟨a, dx, fs, q1, q2, q3 m hm, ?_⟩
    refine goA er1 h1 fun o2 S2 H2 vs ds x2 er2 r2 h2 => ?_
    rw [List.append_nil]
    refine ⟨o2, S2, x :: ds, er2.s, .cons (x2.rep er1.s r1) r2, ?_⟩
    cases e : d (x :: ds) S2 with
    | ok z S3 => rw [e] at h2; exact h2
    | exc _ _ => rw [e] at h2; exact h2.elim
    | bad => rw [e] at h2; exact h2.elim
  · rw [if_neg e] at h1; exact h1.elim
theorem pd_meth {pl : Sem Bool} {c : Nat} {cd : CD} {m : Str} (ho : PD X ct W o to) (hc : ct c = some cd) (ok : CDok X.K cd) (hm : m ∉ cd.fl) (M : MI X.prog X.w X.K X.mg X.base ct k cd.C m d) (hr : Room k X.A) (ha : PDs X ct W (a :: es) tes)
    (hst : starEach (a :: es) X.env = (false, eval a X.env) :: starEach es X.env := by rfl) (hpl : (backTo pos (starEach es X.env)).any (·.1) = false := by rfl)
    (ht : eval (.Call (.Attribute o m apos) (a :: es) [] pos) X.env = (do
      let ov ← eval o X.env
      standAt apos.atName
      let (f, first) ← holding [ov] (getMethod ov m pl)
      callWith pos f first (backTo pos (starEach (a :: es) X.env)) (backToKw pos (keywordEach [] X.env))) := by rfl) :
    PD X ct W (.Call (.Attribute o m apos) (a :: es) [] pos) (emeth to c d tes) := by
  obtain ⟨f, hM, fd, ps, hb, hf, _⟩ := M.ex
  exact PE.wk (pe_meth ho ok.cl hM hf hr hb .nil pass0 ha hst hpl ht) fun _ _ _ h => tD_meth hc hm h
theorem pd_meth0 {pl : Sem Bool} {c : Nat} {cd : CD} {m : Str} (ho : PD X ct W o to) (hc : ct c = some cd) (ok : CDok X.K cd) (hm : m ∉ cd.fl) (M : MI X.prog X.w X.K X.mg X.base ct k cd.C m d) (hr : Room k X.A)
    (ht : eval (.Call (.Attribute o m apos) [] [] pos) X.env = (do
      let ov ← eval o X.env
      standAt apos.atName
      let (f, first) ← holding [ov] (getMethod ov m pl)
      callWith pos f first (backTo pos (starEach [] X.env)) (backToKw pos (keywordEach [] X.env))) := by rfl) :
    PD X ct W (.Call (.Attribute o m apos) [] [] pos) (emeth to c d enil) := by
  obtain ⟨f, hM, fd, ps, hb, hf, _⟩ := M.ex
  refine PE.wk (pe_meth0 ho ok.cl hM hf hr hb .nil pass0 ht) fun σ H Q h => ?_
  obtain ⟨a, G, S, er, h⟩ := h
  refine go er h fun o1 S1 H1 v x x1 er1 r1 h1 => ?_
  by_cases e : clsOf S1 x = some c
  · rw [if_pos e] at h1
    obtain ⟨a, dx, fs, q1, q2, q3⟩ := cls_ok er1.s r1 hc e
    refine ⟨a, dx, fs, q1, q2, q3 m hm, ?_⟩
    refine ⟨o1, S1, [x], er1.s, .cons r1 .nil, ?_⟩
    have h1 : Res X.K ct W o1 H1 (match d [x] S1 with
      | .ok z S2 => .ok z S2
      | _ => .bad) (After X.K ct o1 H1 Q) := h1
    cases e : d [x] S1 with
    | ok z S3 => rw [e] at h1; exact h1
    | exc _ _ => rw [e] at h1; exact h1.elim
    | bad => rw [e] at h1; exact h1.elim
  · rw [if_neg e] at h1; exact h1.elim

/-! ### new instances -/
/-- C(..): a new object of nf fields, then __init__ -/
def enew (c nf : Nat) (d : Fn) (ts : Exs) : Ex := fun G S => (ts G S).bind fun xs S1 => match d (.obj S1.length :: xs) (S1 ++ [⟨c, List.replicate nf .no⟩]) with
  | .ok .non S2 => .ok (.obj S1.length) S2
  | _ => .bad
theorem SRel.made {K : PySem.W.Frag} {o : Om} {S : Store} {H : Hp} {c : Nat} {cd : CD} {x dx : Addr} (sr : SRel K ct o S H) (hc : ct c = some cd) (hx : H x = none) (hd : H dx = none) (ne : dx ≠ x) (kf : KF K (upd (upd H dx (.own x)) x (.ins cd.C dx []))) :
    ∃ o', Ext K o o' H (upd (upd H dx (.own x)) x (.ins cd.C dx [])) ∧ SRel K ct o' (S ++ [⟨c, List.replicate cd.fl.length .no⟩]) (upd (upd H dx (.own x)) x (.ins cd.C dx [])) ∧ o'.ρ S.length = x ∧ S.length < o'.n := by
  have nx : ∀ {b u}, H b = some u → b ≠ x := fun h z => by rw [z, hx] at h; cases h
  have nd : ∀ {b u}, H b = some u → b ≠ dx := fun h z => by rw [z, hd] at h; cases h
  have kp : ∀ {b u}, H b = some u → upd (upd H dx (.own x)) x (.ins cd.C dx []) b = some u := fun h => by rw [upd_ne (nx h), upd_ne (nd h)]; exact h
  have foN : ∀ j, o.fo S.length j = none := fun j => by
    cases e : o.fo S.length j with
    | none => rfl
    | some l =>
      obtain ⟨c, ds, e1, _⟩ := sr.foS _ _ _ e
      simp at e1
  have ex : Ext K o { n := o.n + 1, ρ := fun k => if k = S.length then x else o.ρ k, fo := o.fo, bad := fun a => o.bad a ∨ a = x } H (upd (upd H dx (.own x)) x (.ins cd.C dx [])) := by
    refine ⟨fun a u h _ => kp h, fun a u h => ⟨u, kp h⟩, Nat.le_succ _, fun k h => ?_, fun a h => .inl h, fun a h => ?_, fun a h => ?_, fun _ _ _ h => h⟩
    · have : k ≠ S.length := by rw [← sr.n]; exact Nat.ne_of_lt h
      show (if k = S.length then x else o.ρ k) = o.ρ k
      rw [if_neg this]
    · rcases h with h | h
      · exact .inl h
      · refine .inr ⟨by rw [h]; exact hx, ?_⟩
        rw [h]
        exact kf x (.ins cd.C dx []) upd_same
    · rcases h with ⟨k, h, e⟩ | h
      · have e : a = (if k = S.length then x else o.ρ k) := e
        by_cases z : k = S.length
        · rw [if_pos z] at e
          rw [e]
          exact .inr hx
        · rw [if_neg z] at e
          refine .inl (.inl ⟨k, ?_, e⟩)
          have h : k < o.n + 1 := h
          have := sr.n
          omega
      · exact .inl (.inr h)
  refine ⟨_, ex, ?_, if_pos rfl, by show S.length < o.n + 1; rw [sr.n]; exact Nat.lt_succ_self _⟩
  have m := ex.mono sr
  refine ⟨by show o.n + 1 = _; rw [sr.n]; simp, kf, fun k cell e => ?_, fun k k' h h' e => ?_, fun k j k' j' l h1 h2 => sr.foI k j k' j' l h1 h2, fun k j l h => ?_, fun a h => ?_, fun a h => ?_, sr.cok⟩
  · by_cases hk : k < S.length
    · rw [List.getElem?_append_left hk] at e
      obtain ⟨cd', dx', vfs, h1, h2, h3, h4, h5, h6⟩ := (sr.cell k cell e).ex
      refine ⟨cd', dx', vfs, h1, ?_, h3, h4, h5, fun j f s e1 e2 => ?_⟩
      · show upd _ _ _ (if k = S.length then x else o.ρ k) = _
        rw [if_neg (Nat.ne_of_lt hk)]
        exact kp h2
      · have q := h6 j f s e1 e2
        cases s with
        | no => exact q
        | val d =>
          obtain ⟨q1, x', q2, q3⟩ := q
          exact ⟨q1, x', q2, q3.mono m⟩
        | own ds =>
          obtain ⟨l, vs, q1, q2, q3, q4⟩ := q
          exact ⟨l, vs, q1, q2, kp q3, q4.mono m⟩
    · have hk' : k = S.length := by
        have := (List.getElem?_eq_some_iff.mp e).1
        simp at this
        omega
      subst hk'
      rw [List.getElem?_append_right (Nat.le_refl _)] at e
      simp at e
      subst e
      refine ⟨cd, dx, [], hc, ?_, by simp, List.nodup_nil, fun f h => (by simp at h), fun j f s e1 e2 => ?_⟩
      · show upd _ _ _ (if S.length = S.length then x else o.ρ S.length) = _
        rw [if_pos rfl, upd_same]
      · have e2 : (List.replicate cd.fl.length Slot.no)[j]? = some s := e2
        rw [List.getElem?_replicate] at e2
        split at e2
        · cases e2
          exact ⟨rfl, foN j⟩
        · cases e2
  · have h : k < o.n + 1 := h
    have h' : k' < o.n + 1 := h'
    have e : (if k = S.length then x else o.ρ k) = (if k' = S.length then x else o.ρ k') := e
    have hn := sr.n
    have apart : ∀ i, i < o.n → o.ρ i ≠ x := fun i hi z => by
      obtain ⟨_, _, _, q⟩ := sr.rhoA hi
      rw [z, hx] at q; cases q
    by_cases z : k = S.length
    · by_cases z' : k' = S.length
      · rw [z, z']
      · rw [if_pos z, if_neg z'] at e
        exact absurd e.symm (apart k' (by omega))
    · by_cases z' : k' = S.length
      · rw [if_neg z, if_pos z'] at e
        exact absurd e (apart k (by omega))
      · rw [if_neg z, if_neg z'] at e
        exact sr.inj k k' (by omega) (by omega) e
  · obtain ⟨cell, ds, e1, e2⟩ := sr.foS k j l h
    refine ⟨cell, ds, ?_, e2⟩
    rw [List.getElem?_append_left (List.getElem?_eq_some_iff.mp e1).1]
    exact e1
  · rcases h with ⟨k, h, e⟩ | h
    · have e : a = (if k = S.length then x else o.ρ k) := e
      by_cases z : k = S.length
      · rw [if_pos z] at e
        exact .inr e
      · rw [if_neg z] at e
        have h : k < o.n + 1 := h
        have := sr.n
        exact .inl (sr.hb a (.inl ⟨k, by omega, e⟩))
    · exact .inl (sr.hb a (.inr h))
  · rcases h with h | h
    · obtain ⟨u, e⟩ := sr.ba a h
      exact ⟨u, kp e⟩
    · rw [h]
      exact ⟨_, upd_same⟩
structure NI (P : Program) (w : World) (K : PySem.W.Frag) (mg : Str → Option Value) (base : Heap) (ct : CT) (k : Nat) (x : Str) (C : Addr) (d : Fn) : Prop where
  ex : ∃ f : Addr, mg x = some (.ref C) ∧ Mk K C f ∧ FA P w K mg base ct k f d
theorem new_sp {K : PySem.W.Frag} {o1 : Om} {S1 : Store} {H1 : Hp} {σ : L2.St} {G : Env} {Q : VK} {E : XK} {c : Nat} {cd : CD} {vs : List V} {ds : List D} {ps : List Str} (hc : ct c = some cd) (ar : ∀ ds S z S', d ds S = .ok z S' → ds.length = ps.length) (er1 : ERel K ct o1 G S1 σ H1) (r1 : RepL K o1 H1 vs ds)
    (h1 : Res K ct W o1 H1 (match d (.obj S1.length :: ds) (S1 ++ [⟨c, List.replicate cd.fl.length .no⟩]) with
      | .ok .non S2 => .ok (.obj S1.length) S2
      | _ => .bad) (After K ct o1 H1 Q)) (x dx : Addr) (hx : H1 x = none) (hd : H1 dx = none) (ne : dx ≠ x) :
    (V.ref x :: (vs ++ [])).length = ps.length ∧ (KF K (upd (upd H1 dx (.own x)) x (.ins cd.C dx [])) → spD K ct d (.ref x :: (vs ++ [])) (upd (upd H1 dx (.own x)) x (.ins cd.C dx [])) (fun v H2 => v = .non ∧ Q (.ref x) H2) E) := by
  refine ⟨?_, fun kf => ?_⟩
  · cases e : d (.obj S1.length :: ds) (S1 ++ [⟨c, List.replicate cd.fl.length .no⟩]) with
    | ok z S3 =>
      have := ar _ _ _ _ e
      rw [List.append_nil, List.length_cons, r1.length]
      rw [List.length_cons] at this
      exact this
    | exc _ _ => rw [e] at h1; exact h1.elim
    | bad => rw [e] at h1; exact h1.elim
  · obtain ⟨o2, x2, sr2, e1, e2⟩ := er1.s.made hc hx hd ne kf
    refine ⟨o2, _, .obj S1.length :: ds, sr2, .cons ?_ (by rw [List.append_nil]; exact x2.repL er1.s r1), ?_⟩
    · rw [← e1]
      exact .obj e2
    · cases e : d (.obj S1.length :: ds) (S1 ++ [⟨c, List.replicate cd.fl.length .no⟩]) with
      | ok z S3 =>
        rw [e] at h1
        cases z with
        | non =>
          intro o3 v H3 x3 s3 r3
          cases r3
          refine ⟨rfl, h1 o3 _ H3 (x2.trans x3) s3 ?_⟩
          have e3 : o3.ρ S1.length = x := by rw [x3.r _ e2]; exact e1
          rw [← e3]
          exact .obj (Nat.lt_of_lt_of_le e2 x3.n)
        | _ => exact h1.elim
      | exc _ _ => rw [e] at h1; exact h1.elim
      | bad => rw [e] at h1; exact h1.elim
theorem pd_new {c : Nat} {cd : CD} (hc : ct c = some cd) (N : NI X.prog X.w X.K X.mg X.base ct k x cd.C d) (hr : Room (k + 1) X.A) (hg : Gl X x) (ha : PDs X ct W (a :: es) tes) {nf : Nat} (hn : nf = cd.fl.length) (hdb : (x == ("__debug__" : Str)) = false := by decide)
    (he : starEach (a :: es) X.env = (false, eval a X.env) :: starEach es X.env := by rfl) (hpl : (backTo pos (starEach es X.env)).any (·.1) = false := by rfl) :
    PD X ct W (.Call (.Name x p) (a :: es) [] pos) (enew c nf d tes) := by
  obtain ⟨f, hm, M, fd, ps, hb, hf, ar⟩ := N.ex
  subst hn
  exact PE.wk (pe_make M (FnOk.kf hf) hr hg hm hb .nil pass0 ha hdb he hpl) fun σ H Q ⟨o, G, S, er, h⟩ => goA er h fun o1 S1 H1 v ds x1 er1 r1 h1 => fun x dx hx hd ne => new_sp hc ar er1 r1 h1 x dx hx hd ne
theorem pd_new0 {c : Nat} {cd : CD} (hc : ct c = some cd) (N : NI X.prog X.w X.K X.mg X.base ct k x cd.C d) (hr : Room (k + 1) X.A) (hg : Gl X x) {nf : Nat} (hn : nf = cd.fl.length) (hdb : (x == ("__debug__" : Str)) = false := by decide) :
    PD X ct W (.Call (.Name x p) [] [] pos) (enew c nf d enil) := by
  obtain ⟨f, hm, M, fd, ps, hb, hf, ar⟩ := N.ex
  subst hn
  exact PE.wk (pe_make0 M (FnOk.kf hf) hr hg hm hb .nil pass0 hdb) fun σ H Q ⟨o, G, S, er, h⟩ x dx hx hd ne => new_sp (Q := Q) hc ar er .nil h x dx hx hd ne
end
end DL

end
section
set_option maxRecDepth 100000
set_option maxHeartbeats 2000000
/-! The data layer: what is walked; comprehensions. -/
namespace DL
open PySem PySem.Spec PyProof.Rows L2

/-! ### walks -/
/-- J gives ds, as long as what was said is said -/
structure WD (K : PySem.W.Frag) (o : Om) (H : Hp) (J : It) (ds : List D) : Prop where
  goes : ∀ i o' H', i < ds.length → Mono K o o' H H' → J.go i H'
  stops : ∀ o' H', Mono K o o' H H' → J.stop ds.length H'
  yields : ∀ i o' H' x H'', i < ds.length → Mono K o o' H H' → J.yld i H' x H'' → (H'' = H' ∧ ∃ d, ds[i]? = some d ∧ Rep K o' H' x d) ∨ ∃ T vs xs, x = .ref T ∧ H' T = none ∧ H'' = upd H' T (.tup vs) ∧ ds[i]? = some (.tup xs) ∧ RepL K o' H' vs xs
abbrev Ix := Env → Store → R (List D)
def tI (K : PySem.W.Frag) (ct : CT) (W : Wish) (t : Ix) : TI := fun σ H Q => ∃ o G S, ERel K ct o G S σ H ∧ Res K ct W o H (t G S) fun ds S' => ∀ o' H' J, Ext K o o' H H' → SRel K ct o' S' H' → WD K o' H' J ds → Q J H'
abbrev PDi (X : Cx) (ct : CT) (W : Wish) (tg it : Expr) (t : Ix) : Prop := PI X tg it (tI X.K ct W t)
section
variable {K : PySem.W.Frag} {o o1 o2 : Om} {H H1 H2 : Hp} {ct : CT}
theorem Mono.refl : Mono K o o H H := ⟨fun _ _ h => h, fun _ _ _ h => h, fun _ _ _ h => h, fun _ _ _ n => n, Nat.le_refl _, fun _ _ => rfl, fun _ _ _ h => h⟩
theorem Mono.trans (x : Mono K o o1 H H1) (y : Mono K o1 o2 H1 H2) : Mono K o o2 H H2 where
  t := fun a xs h => y.t a xs (x.t a xs h)
  l := fun a xs n h => y.l a xs (x.b a xs h n) (x.l a xs n h)
  h := fun a xs n h => y.h a xs (x.b a xs (.of h) n) (x.h a xs n h)
  b := fun a xs h n => y.b a xs (x.l a xs n h) (x.b a xs h n)
  n := Nat.le_trans x.n y.n
  r := fun k h => by rw [y.r k (Nat.lt_of_lt_of_le h x.n), x.r k h]
  f := fun k j l h => y.f k j l (x.f k j l h)
theorem getElem?_lt {α : Type} {xs : List α} {i : Nat} (h : i < xs.length) : ∃ x, xs[i]? = some x := ⟨xs[i], by simp [h]⟩
theorem wd_list {a : Addr} {vs : List V} {ds : List D} (h : H a = some (.lst vs)) (nb : ¬ o.bad a) (r : RepL K o H vs ds) : WD K o H (Itl K a) ds := by
  have w := walk_list (K := K) (a := a) (xs := vs)
  have e := r.length
  refine ⟨fun i o' H' hi m => w.goes i H' (by omega) (.of (m.h _ _ nb h)), fun o' H' m => by rw [← e]; exact w.stops H' (.of (m.h _ _ nb h)), fun i o' H' x H'' hi m y => ?_⟩
  obtain ⟨h1, h2⟩ := w.yields i H' x H'' (by omega) (.of (m.h _ _ nb h)) y
  obtain ⟨d, h3, h4⟩ := (r.mono m).getV h2
  exact .inl ⟨h1, d, h3, h4⟩
theorem wd_tup {a : Addr} {vs : List V} {ds : List D} (h : SqT K H a vs) (r : RepL K o H vs ds) : WD K o H (Itt K a) ds := by
  have w := walk_tup (K := K) (a := a) (xs := vs)
  have e := r.length
  refine ⟨fun i o' H' hi m => w.goes i H' (by omega) (m.t _ _ h), fun o' H' m => by rw [← e]; exact w.stops H' (m.t _ _ h), fun i o' H' x H'' hi m y => ?_⟩
  obtain ⟨h1, h2⟩ := w.yields i H' x H'' (by omega) (m.t _ _ h) y
  obtain ⟨d, h3, h4⟩ := (r.mono m).getV h2
  exact .inl ⟨h1, d, h3, h4⟩
def rngD (lo : Int) (n : Nat) : List D := (List.range n).map fun (i : Nat) => .int (lo + (i : Int))
def rngC (lo c : Int) (n : Nat) : List D := (List.range n).map fun (i : Nat) => .int (lo + (i : Int) * c)
theorem rngD_len (lo : Int) (n : Nat) : (rngD lo n).length = n := by simp [rngD]
theorem rngC_len (lo c : Int) (n : Nat) : (rngC lo c n).length = n := by simp [rngC]
theorem wd_range {lo : Int} {n : Nat} : WD K o H (Itr lo n) (rngD lo n) := by
  have w := walk_range (lo := lo) (n := n)
  refine ⟨fun i o' H' hi m => w.goes i H' (by rw [rngD_len] at hi; exact hi) trivial, fun o' H' m => by rw [rngD_len]; exact w.stops H' trivial, fun i o' H' x H'' hi m y => ?_⟩
  rw [rngD_len] at hi
  obtain ⟨h1, h2⟩ := w.yields i H' x H'' hi trivial y
  subst h2
  exact .inl ⟨h1, .int (lo + i), by simp [rngD, hi], .int _⟩
theorem wd_rangeC {lo c : Int} {n : Nat} : WD K o H (Itc lo c n) (rngC lo c n) := by
  have w := walk_rangeC (lo := lo) (c := c) (n := n)
  refine ⟨fun i o' H' hi m => w.goes i H' (by rw [rngC_len] at hi; exact hi) trivial, fun o' H' m => by rw [rngC_len]; exact w.stops H' trivial, fun i o' H' x H'' hi m y => ?_⟩
  rw [rngC_len] at hi
  obtain ⟨h1, h2⟩ := w.yields i H' x H'' hi trivial y
  subst h2
  exact .inl ⟨h1, .int (lo + i * c), by simp [rngC, hi], .int _⟩
end
section
variable {X : Cx} {ct : CT} {W : Wish} {pos p : Pos} {tg e e2 a b c : Expr} {te ta tb tc : Ex} {t : Ix} {tes : Exs}
theorem PI.wk {tg it : Expr} {w w' : TI} (h : PI X tg it w) (k : ∀ σ H Q, w' σ H Q → w σ H Q) : PI X tg it w' := ⟨fun pins s σ H R I q => h.run pins s σ H R I (k σ H R q)⟩
theorem PI.wk2 {tg it : Expr} {w1 w2 w' : TI} (h1 : PI X tg it w1) (h2 : PI X tg it w2) (k : ∀ σ H Q, w' σ H Q → w1 σ H Q ∨ w2 σ H Q) : PI X tg it w' := ⟨fun pins s σ H R I q => (k σ H R q).elim (h1.run pins s σ H R I) (h2.run pins s σ H R I)⟩
/-- a list, a tuple -/
def iseq (t : Ex) : Ix := fun G S => (t G S).bind fun x S1 => match x with
  | .lst ds => .ok ds S1
  | .tup ds => .ok ds S1
  | _ => .bad
theorem pdi_seq (h : PD X ct W e te) : PDi X ct W tg e (iseq te) := by
  refine PI.wk2 (pi_list h) (pi_tup h) fun σ H Q ⟨o, G, S, er, q⟩ => ?_
  have q : Res X.K ct W o H ((te G S).bind fun x S1 => match x with
    | .lst ds => .ok ds S1
    | .tup ds => .ok ds S1
    | _ => .bad) (fun ds S' => ∀ o' H' J, Ext X.K o o' H H' → SRel X.K ct o' S' H' → WD X.K o' H' J ds → Q J H') := q
  cases ev : te G S with
  | ok d S1 =>
    rw [ev] at q
    cases d with
    | lst ds =>
      refine .inl ⟨o, G, S, er, ?_⟩
      rw [ev]
      intro o1 v H1 x1 s1 r1
      cases r1 with
      | lst hl nb r => exact ⟨_, rfl, ⟨_, .of hl⟩, q o1 H1 _ x1 s1 (wd_list hl nb r)⟩
    | tup ds =>
      refine .inr ⟨o, G, S, er, ?_⟩
      rw [ev]
      intro o1 v H1 x1 s1 r1
      cases r1 with
      | tup ht r => exact ⟨_, rfl, ⟨_, ht⟩, q o1 H1 _ x1 s1 (wd_tup ht r)⟩
    | _ => exact q.elim
  | exc y S1 =>
    rw [ev] at q
    exact .inl ⟨o, G, S, er, by rw [ev]; exact q⟩
  | bad =>
    rw [ev] at q
    exact q.elim
/-- a gate that no reckoning opens -/
noncomputable def gate {α : Type} (p : Prop) (x y : α) : α := @ite α p (Classical.propDecidable p) x y
theorem gate_pos {α : Type} {p : Prop} {x y : α} (h : p) : gate p x y = x := @if_pos p (Classical.propDecidable p) h α x y
theorem gate_neg {α : Type} {p : Prop} {x y : α} (h : ¬ p) : gate p x y = y := @if_neg p (Classical.propDecidable p) h α x y
/-- range -/
noncomputable def irng1 (t : Exs) : Ix := fun G S => (t G S).bind fun xs S1 => match xs with
  | [.int j] => gate (-(2 ^ 62) ≤ j ∧ j < 2 ^ 62) (.ok (rngD 0 j.toNat) S1) .bad
  | _ => .bad
noncomputable def irng2 (t : Exs) : Ix := fun G S => (t G S).bind fun xs S1 => match xs with
  | [.int i, .int j] => gate (-(2 ^ 62) ≤ i ∧ i < 2 ^ 62 ∧ -(2 ^ 62) ≤ j ∧ j < 2 ^ 62) (.ok (rngD i (j - i).toNat) S1) .bad
  | _ => .bad
/-- how many turns of range(i, j, c) -/
def rngN (i j c : Int) : Nat := if 0 < c then ((j - i + c - 1) / c).toNat else ((i - j - c - 1) / (-c)).toNat
def irng3 (t : Exs) : Ix := fun G S => (t G S).bind fun xs S1 => match xs with
  | [.int i, .int j, .int c] => if (-(2 ^ 62) ≤ i ∧ i < 2 ^ 62 ∧ -(2 ^ 62) ≤ j ∧ j < 2 ^ 62) ∧ c ≠ 0 ∧ c.natAbs < 1073741824 then .ok (rngC i c (rngN i j c)) S1 else .bad
  | _ => .bad
theorem goI {K : PySem.W.Frag} {σ : L2.St} {H : Hp} {o : Om} {G : Env} {S : Store} {f : List D → Store → R (List D)} {Q : It → Hp → Prop} {R : List V → Hp → Prop} (er : ERel K ct o G S σ H)
    (h : Res K ct W o H ((tes G S).bind f) (fun ds S' => ∀ o' H' J, Ext K o o' H H' → SRel K ct o' S' H' → WD K o' H' J ds → Q J H'))
    (k : ∀ o1 S1 H1 v d, Ext K o o1 H H1 → ERel K ct o1 G S1 σ H1 → RepL K o1 H1 v d → Res K ct W o1 H1 (f d S1) (fun ds S' => ∀ o' H' J, Ext K o1 o' H1 H' → SRel K ct o' S' H' → WD K o' H' J ds → Q J H') → R v H1) : tDs K ct W tes σ H R :=
  ⟨o, G, S, er, h.then fun d S1 h' o1 v H1 x1 s1 r1 => k o1 S1 H1 v d x1 (er.ext x1 s1) r1 (h'.later x1 fun _ _ z o' H' J x s w => z o' H' J (x1.trans x) s w)⟩
theorem pdi_range1 (hg : Gl X "range") (hm : X.mg "range" = none) (ha : PDs X ct W [a] tes) (hs : starEach [a] X.env = [(false, eval a X.env)] := by rfl) : PDi X ct W tg (.Call (.Name "range" p) [a] [] pos) (irng1 tes) :=
  PI.wk (pi_range1 hg hm ha hs) fun σ H Q ⟨o, G, S, er, h⟩ => goI er h fun o1 S1 H1 v d x1 er1 r1 h1 => by
    split at h1
    · rename_i j
      by_cases hz : -(2 ^ 62) ≤ j ∧ j < 2 ^ 62
      · rw [gate_pos hz] at h1
        obtain ⟨w, rfl, r⟩ := r1.one
        cases r
        exact ⟨j, rfl, hz.1, hz.2, h1 o1 H1 _ .refl er1.s wd_range⟩
      · rw [gate_neg hz] at h1
        exact h1.elim
    · exact h1.elim
theorem pdi_range2 (hg : Gl X "range") (hm : X.mg "range" = none) (ha : PDs X ct W [a, b] tes) (hs : starEach [a, b] X.env = [(false, eval a X.env), (false, eval b X.env)] := by rfl) (hs2 : starEach [b] X.env = [(false, eval b X.env)] := by rfl) : PDi X ct W tg (.Call (.Name "range" p) [a, b] [] pos) (irng2 tes) :=
  PI.wk (pi_range2 hg hm ha hs hs2) fun σ H Q ⟨o, G, S, er, h⟩ => goI er h fun o1 S1 H1 v d x1 er1 r1 h1 => by
    split at h1
    · rename_i i j
      by_cases hz : -(2 ^ 62) ≤ i ∧ i < 2 ^ 62 ∧ -(2 ^ 62) ≤ j ∧ j < 2 ^ 62
      · rw [gate_pos hz] at h1
        obtain ⟨w, u, rfl, r, r'⟩ := r1.two
        cases r
        cases r'
        exact ⟨i, j, rfl, hz, h1 o1 H1 _ .refl er1.s wd_range⟩
      · rw [gate_neg hz] at h1
        exact h1.elim
    · exact h1.elim
theorem RepL.three {K : PySem.W.Frag} {o : Om} {H : Hp} {vs : List V} {d e f : D} (h : RepL K o H vs [d, e, f]) : ∃ v w u, vs = [v, w, u] ∧ Rep K o H v d ∧ Rep K o H w e ∧ Rep K o H u f := by
  cases h with
  | cons a r =>
    obtain ⟨x, y, rfl, h1, h2⟩ := r.two
    exact ⟨_, _, _, rfl, a, h1, h2⟩
/-- zip of two lists, of two tuples -/
def izip (t : Exs) : Ix := fun G S => (t G S).bind fun xs S1 => match xs with
  | [.lst ds, .lst es] => .ok (List.zipWith (fun x y => D.tup [x, y]) ds es) S1
  | [.tup ds, .tup es] => .ok (List.zipWith (fun x y => D.tup [x, y]) ds es) S1
  | _ => .bad
theorem wd_zip {K : PySem.W.Frag} {o : Om} {H : Hp} {J : It} {vs ws : List V} {ds es : List D} {G : Hp → Prop} (w : Walk J (min vs.length ws.length) G (YPair (fun i => vs[i]?) (fun i => ws[i]?))) (hG : ∀ o' H', Mono K o o' H H' → G H')
    (r1 : RepL K o H vs ds) (r2 : RepL K o H ws es) : WD K o H J (List.zipWith (fun x y => D.tup [x, y]) ds es) := by
  have e : (List.zipWith (fun x y => D.tup [x, y]) ds es).length = min vs.length ws.length := by rw [List.length_zipWith, r1.length, r2.length]
  refine ⟨fun i o' H' hi m => w.goes i H' (by omega) (hG _ _ m), fun o' H' m => by rw [e]; exact w.stops H' (hG _ _ m), fun i o' H' x H'' hi m y => ?_⟩
  obtain ⟨T, u1, u2, h1, h2, h3, h4, h5⟩ := w.yields i H' x H'' (by omega) (hG _ _ m) y
  obtain ⟨d1, q1, q2⟩ := (r1.mono m).getV h4
  obtain ⟨d2, q3, q4⟩ := (r2.mono m).getV h5
  refine .inr ⟨T, _, [d1, d2], h1, h2, h3, ?_, .cons q2 (.cons q4 .nil)⟩
  rw [List.getElem?_zipWith, q1, q3]
theorem walk_zipT {K : PySem.W.Frag} {a b : Addr} {xs ys : List V} : Walk (RZ.ItzT K a b) (min xs.length ys.length) (fun H => SqT K H a xs ∧ SqT K H b ys) (YPair (fun i => xs[i]?) (fun i => ys[i]?)) := by
  refine ⟨fun i H hi q => ?_, fun H q => ⟨xs, ys, q.1, q.2, by omega⟩, fun i H v H' _ q y => ?_⟩
  · obtain ⟨x, hx⟩ := getElem?_lt (xs := xs) (i := i) (by omega)
    obtain ⟨y, hy⟩ := getElem?_lt (xs := ys) (i := i) (by omega)
    exact ⟨xs, ys, x, y, q.1, q.2, hx, hy⟩
  · obtain ⟨T, x, z, h1, h2, h3, h4, h5⟩ := y
    exact ⟨T, x, z, h1, h2, h3, h4 xs q.1, h5 ys q.2⟩
theorem pdi_zip {elts : List Expr} {kk : Nat} {tpos : Pos} (hg : Gl X "zip") (hm : X.mg "zip" = none) (ha : PDs X ct W [e, e2] tes) (hs : starEach [e, e2] X.env = (false, eval e X.env) :: starEach [e2] X.env := by rfl) (hpl : (backTo pos (starEach [e2] X.env)).any (·.1) = false := by rfl) :
    PDi X ct W (.Tuple elts kk tpos) (.Call (.Name "zip" p) [e, e2] [] pos) (izip tes) :=
  PI.wk (RZ.pi_zipA hg hm ha hs hpl) fun σ H Q ⟨o, G, S, er, h⟩ => goI er h fun o1 S1 H1 v d x1 er1 r1 h1 => by
    split at h1
    · obtain ⟨w, u, rfl, r, r'⟩ := r1.two
      cases r with
      | lst ha na ra =>
        cases r' with
        | lst hb nb rb => exact ⟨_, _, _, _, rfl, .inl ⟨.of ha, .of hb, h1 o1 H1 _ .refl er1.s (wd_zip (walk_zip rfl) (fun o' H' m => ⟨.of (m.h _ _ na ha), .of (m.h _ _ nb hb)⟩) ra rb)⟩⟩
    · obtain ⟨w, u, rfl, r, r'⟩ := r1.two
      cases r with
      | tup ha ra =>
        cases r' with
        | tup hb rb => exact ⟨_, _, _, _, rfl, .inr ⟨ha, hb, h1 o1 H1 _ .refl er1.s (wd_zip walk_zipT (fun o' H' m => ⟨m.t _ _ ha, m.t _ _ hb⟩) ra rb)⟩⟩
    · exact h1.elim

/-! ### targets -/
/-- a name, names in brackets: which slots a value goes to -/
inductive Tg where
  | nm (i : Nat)
  | tp (ts : List Tg)
mutual
def Tg.put : Tg → D → Env → Option Env
  | .nm i, d, G => some (G.set i (.val d))
  | .tp ts, .tup ds, G => Tg.puts ts ds G
  | .tp _, _, _ => none
def Tg.puts : List Tg → List D → Env → Option Env
  | [], [], G => some G
  | t :: ts, d :: ds, G => (Tg.put t d G).bind (Tg.puts ts ds)
  | _, _, _ => none
end
end
end DL

end
section
set_option maxRecDepth 100000
set_option maxHeartbeats 2000000
/-! The data layer: statements. -/
namespace DL
open PySem PySem.Spec PyProof.Rows L2

abbrev Lo := Nat → Option Addr
def Lo.B (lo : Lo) : Addr → Prop := fun a => ∃ i, lo i = some a
abbrev Om.wi (o : Om) (lo : Lo) : Om := o.plus lo.B
/-- a def's state: A where it began, lo the lists of its own -/
structure StRel (K : PySem.W.Frag) (ct : CT) (A : Om × Hp) (o : Om) (lo : Lo) (G : Env) (S : Store) (σ : L2.St) (H : Hp) : Prop where
  s : SRel K ct (o.wi lo) S H
  len : G.length = σ.length
  v : ∀ (i : Nat) (d : D), G[i]? = some (Slot.val d) → ∃ x, σ[i]? = some (some x) ∧ Rep K (o.wi lo) H x d
  w : ∀ (i : Nat) (ds : List D), G[i]? = some (Slot.own ds) → ∃ l vs, lo i = some l ∧ σ[i]? = some (some (.ref l)) ∧ H l = some (.lst vs) ∧ RepL K (o.wi lo) H vs ds
  wo : ∀ (i : Nat) l, lo i = some l → ∃ ds, G[i]? = some (Slot.own ds)
  inj : ∀ i j l, lo i = some l → lo j = some l → i = j
  nb : ∀ i l, lo i = some l → ¬ o.bad l
  nh : ∀ i l, lo i = some l → ¬ o.hot l
  fr : ∀ i l, lo i = some l → A.2 l = none
  x : Ext K A.1 o A.2 H
mutual
def Slot.flat : Slot → Bool
  | .no => true
  | .val d => d.flat
  | .own xs => D.flats xs
end
def Store.flat (S : Store) : Bool := S.all fun c => c.fs.all Slot.flat
section
variable {K : PySem.W.Frag} {ct : CT} {A : Om × Hp} {o o1 o' : Om} {lo lo' : Lo} {G G' : Env} {S S1 S' : Store} {σ σ' : L2.St} {H H1 H' : Hp}
theorem Om.ext {a b : Om} (h1 : a.n = b.n) (h2 : a.ρ = b.ρ) (h3 : a.fo = b.fo) (h4 : ∀ x, a.bad x ↔ b.bad x) : a = b := by
  obtain ⟨n, r, f, p⟩ := a
  obtain ⟨n', r', f', p'⟩ := b
  cases h1; cases h2; cases h3
  have : p = p' := funext fun x => propext (h4 x)
  rw [this]
theorem Mono.wi : Mono K (o.wi lo) o H H := Mono.unplus
theorem SRel.less (r : SRel K ct o S H) {B : Addr → Prop} (h : ∀ a, B a → o.bad a) (hb : ∀ a, o.hot a → B a) : SRel K ct { o with bad := B } S H := by
  refine ⟨r.n, r.kf, fun k c e => ?_, r.inj, r.foI, r.foS, fun a z => hb a z, fun a z => r.ba a (h a z), r.cok⟩
  obtain ⟨cd, dx, vfs, h1, h2, h3, h4, h5, h6⟩ := (r.cell k c e).ex
  refine ⟨cd, dx, vfs, h1, h2, h3, h4, h5, fun j f s e1 e2 => ?_⟩
  have q := h6 j f s e1 e2
  have m : Mono K o { o with bad := B } H H := Mono.less h
  cases s with
  | no => exact q
  | val d =>
    obtain ⟨q1, x', q2, q3⟩ := q
    exact ⟨q1, x', q2, q3.mono m⟩
  | own ds =>
    obtain ⟨l, vs, q1, q2, q3, q4⟩ := q
    exact ⟨l, vs, q1, q2, q3, q4.mono m⟩
theorem StRel.noB (r : StRel K ct A o lo G S σ H) {a : Addr} (h : o.hot a) : ¬ lo.B a := fun ⟨i, e⟩ => r.nh i a e h
theorem StRel.s0 (r : StRel K ct A o lo G S σ H) : SRel K ct o S H :=
  r.s.less (B := o.bad) (fun a z => .inl z) fun a z => (r.s.hb a z).resolve_right (r.noB z)
/-- every name seen -/
theorem StRel.full (r : StRel K ct A o lo G S σ H) : ERel K ct o G S σ H := by
  refine ⟨r.s0, r.len, fun i d e => ?_⟩
  unfold look at e
  cases e1 : G[i]? with
  | none => rw [e1] at e; cases e
  | some s =>
    rw [e1] at e
    cases s with
    | no => cases e
    | val d' =>
      cases e
      obtain ⟨x, q1, q2⟩ := r.v i _ e1
      exact ⟨x, q1, q2.mono Mono.wi⟩
    | own ds =>
      cases e
      obtain ⟨l, vs, q1, q2, q3, q4⟩ := r.w i _ e1
      exact ⟨_, q2, .lst q3 (r.nb i l q1) (q4.mono Mono.wi)⟩
/-- the lists of its own unseen -/
theorem StRel.hid (r : StRel K ct A o lo G S σ H) : ERel K ct (o.wi lo) (hide G) S σ H := by
  refine ⟨r.s, by unfold hide; rw [List.length_map]; exact r.len, fun i d e => ?_⟩
  unfold look hide at e
  rw [List.getElem?_map] at e
  cases e1 : G[i]? with
  | none => rw [e1] at e; cases e
  | some s =>
    rw [e1] at e
    cases s with
    | no => cases e
    | val d' =>
      cases e
      exact r.v i _ e1
    | own ds => cases e
theorem StRel.afterS (r : StRel K ct A o lo G S σ H) (x : Ext K (o.wi lo) o' H H1) (s1 : SRel K ct o' S1 H1) : ∃ o2, o' = o2.wi lo ∧ StRel K ct A o2 lo G S1 σ H1 := by
  have m := x.mono r.s
  have e : o' = ({ o' with bad := fun a => o'.bad a ∧ ¬ lo.B a } : Om).wi lo := by
    refine Om.ext rfl rfl rfl fun a => ⟨fun z => ?_, fun z => ?_⟩
    · by_cases q : lo.B a
      · exact .inr q
      · exact .inl ⟨z, q⟩
    · rcases z with ⟨z, _⟩ | z
      · exact z
      · exact x.badS a (.inr z)
  refine ⟨_, e, ?_⟩
  have hl : ∀ i l, lo i = some l → ∃ vs, H l = some (.lst vs) := fun i l h => by
    obtain ⟨ds, e1⟩ := r.wo i l h
    obtain ⟨l', vs, q1, q2, q3, q4⟩ := r.w i ds e1
    rw [h] at q1; cases q1
    exact ⟨vs, q3⟩
  have kp : ∀ i l u, lo i = some l → H l = some u → H1 l = some u := fun i l u h e1 => x.keep l u e1 fun z => r.nh i l h z
  refine ⟨e ▸ s1, r.len, fun i d h => ?_, fun i ds h => ?_, r.wo, r.inj, fun i l h z => z.2 ⟨i, h⟩, fun i l h z => ?_, r.fr, ?_⟩
  · obtain ⟨y, q1, q2⟩ := r.v i d h
    exact ⟨y, q1, e ▸ q2.mono m⟩
  · obtain ⟨l, vs, q1, q2, q3, q4⟩ := r.w i ds h
    exact ⟨l, vs, q1, q2, kp i l _ q1 q3, e ▸ q4.mono m⟩
  · obtain ⟨vs, q3⟩ := hl i l h
    rcases x.hotN l z with q | q
    · exact r.nh i l h q
    · rw [q3] at q; cases q
  · refine r.x.trans ⟨fun a u h n => x.keep a u h n, x.there, x.n, x.r, fun a z => ⟨x.badS a (.inl z), fun ⟨i, q⟩ => r.nb i a q z⟩, fun a z => ?_, fun a z => x.hotN a z, x.f⟩
    rcases x.badN a z.1 with (q | q) | q
    · exact .inl q
    · exact absurd q z.2
    · exact .inr q
theorem StRel.keptS (r : StRel K ct A o lo G S σ H) (x : Ext K (o.wi lo) o' H H1) : ∀ i l u, lo i = some l → H l = some u → H1 l = some u := fun i l u h e1 => x.keep l u e1 fun z => r.nh i l h z
theorem StRel.keptF (r : StRel K ct A o lo G S σ H) (x : Ext K o o' H H1) : ∀ i l u, lo i = some l → H l = some u → H1 l = some u := fun i l u h e1 => x.keep l u e1 fun z => r.nh i l h z
theorem StRel.monoF (r : StRel K ct A o lo G S σ H) (x : Ext K o o' H H1) : Mono K (o.wi lo) (o'.wi lo) H H1 := by
  have m := x.mono r.s0
  exact ⟨m.t, fun a xs nb h => m.l a xs (fun z => nb (.inl z)) h, fun a xs nb h => m.h a xs (fun z => nb (.inl z)) h, fun a xs h nb z => z.elim (m.b a xs h fun z => nb (.inl z)) fun z => nb (.inr z), m.n, m.r, m.f⟩
theorem StRel.afterF (r : StRel K ct A o lo G S σ H) (x : Ext K o o' H H1) (s1 : SRel K ct o' S1 H1) (fl : Store.flat S1 = true) : StRel K ct A o' lo G S1 σ H1 := by
  have m := r.monoF x
  have hl : ∀ i l, lo i = some l → ∃ vs, H l = some (.lst vs) := fun i l h => by
    obtain ⟨ds, e1⟩ := r.wo i l h
    obtain ⟨l', vs, q1, q2, q3, q4⟩ := r.w i ds e1
    rw [h] at q1; cases q1
    exact ⟨vs, q3⟩
  have kp : ∀ i l u, lo i = some l → H l = some u → H1 l = some u := fun i l u h e1 => x.keep l u e1 fun z => r.nh i l h z
  refine ⟨⟨s1.n, s1.kf, fun k c e => ?_, s1.inj, s1.foI, s1.foS, fun a z => .inl (s1.hb a z), fun a z => ?_, s1.cok⟩, r.len, fun i d h => ?_, fun i ds h => ?_, r.wo, r.inj, fun i l h z => ?_, fun i l h z => ?_, r.fr, r.x.trans x⟩
  · obtain ⟨cd, dx, vfs, h1, h2, h3, h4, h5, h6⟩ := (s1.cell k c e).ex
    refine ⟨cd, dx, vfs, h1, h2, h3, h4, h5, fun j f s e1 e2 => ?_⟩
    have q := h6 j f s e1 e2
    have fs : s.flat = true := by
      have := List.all_eq_true.mp fl c (List.mem_of_getElem? e)
      exact List.all_eq_true.mp this s (List.mem_of_getElem? e2)
    cases s with
    | no => exact q
    | val d =>
      obtain ⟨q1, x', q2, q3⟩ := q
      exact ⟨q1, x', q2, q3.flat fs⟩
    | own ds =>
      obtain ⟨l, vs, q1, q2, q3, q4⟩ := q
      exact ⟨l, vs, q1, q2, q3, q4.flats fs⟩
  · rcases z with z | ⟨i, z⟩
    · exact s1.ba a z
    · obtain ⟨vs, q⟩ := hl i a z
      exact ⟨_, kp i a _ z q⟩
  · obtain ⟨y, q1, q2⟩ := r.v i d h
    exact ⟨y, q1, q2.mono m⟩
  · obtain ⟨l, vs, q1, q2, q3, q4⟩ := r.w i ds h
    exact ⟨l, vs, q1, q2, kp i l _ q1 q3, q4.mono m⟩
  · obtain ⟨vs, q⟩ := hl i l h
    rcases x.badN l z with z | ⟨z, _⟩
    · exact r.nb i l h z
    · rw [q] at z; cases z
  · obtain ⟨vs, q⟩ := hl i l h
    rcases x.hotN l z with z | z
    · exact r.nh i l h z
    · rw [q] at z; cases z
/-- a slot gets a value -/
def Lo.rm (lo : Lo) (i : Nat) : Lo := fun j => if j = i then none else lo j
theorem Lo.rm_some {i j : Nat} {l : Addr} (h : lo.rm i j = some l) : j ≠ i ∧ lo j = some l := by
  unfold Lo.rm at h
  by_cases e : j = i
  · rw [if_pos e] at h; cases h
  · rw [if_neg e] at h; exact ⟨e, h⟩
theorem Lo.rmB {i : Nat} {a : Addr} (h : (lo.rm i).B a) : lo.B a := let ⟨j, e⟩ := h; ⟨j, (Lo.rm_some e).2⟩
theorem StRel.rmMono (i : Nat) : Mono K (o.wi lo) (o.wi (lo.rm i)) H H := Mono.less fun a z => z.elim .inl fun z => .inr (Lo.rmB z)
theorem StRel.rmS (r : StRel K ct A o lo G S σ H) (i : Nat) : SRel K ct (o.wi (lo.rm i)) S H :=
  r.s.less (B := (o.wi (lo.rm i)).bad) (fun a z => z.elim .inl fun z => .inr (Lo.rmB z)) fun a z => .inl ((r.s.hb a z).resolve_right (r.noB z))
theorem StRel.set (r : StRel K ct A o lo G S σ H) {i : Nat} {y : V} {d : D} (hy : Rep K (o.wi (lo.rm i)) H y d) : StRel K ct A o (lo.rm i) (G.set i (.val d)) S (σ.set i (some y)) H := by
  have m : Mono K (o.wi lo) (o.wi (lo.rm i)) H H := StRel.rmMono i
  refine ⟨r.rmS i, by rw [List.length_set, List.length_set]; exact r.len, fun j e h => ?_, fun j ds h => ?_, fun j l h => ?_, fun j k l h h' => r.inj j k l (Lo.rm_some h).2 (Lo.rm_some h').2, fun j l h => r.nb j l (Lo.rm_some h).2, fun j l h => r.nh j l (Lo.rm_some h).2, fun j l h => r.fr j l (Lo.rm_some h).2, r.x⟩
  · by_cases q : i = j
    · subst q
      have hi : i < G.length := by
        have := (List.getElem?_eq_some_iff.mp h).1
        rw [List.length_set] at this
        exact this
      rw [List.getElem?_set_self hi] at h
      cases h
      exact ⟨y, by rw [List.getElem?_set_self (by rw [← r.len]; exact hi)], hy⟩
    · rw [List.getElem?_set_ne q] at h
      obtain ⟨x, q1, q2⟩ := r.v j e h
      exact ⟨x, by rw [List.getElem?_set_ne q]; exact q1, q2.mono m⟩
  · by_cases q : i = j
    · subst q
      have hi : i < G.length := by
        have := (List.getElem?_eq_some_iff.mp h).1
        rw [List.length_set] at this
        exact this
      rw [List.getElem?_set_self hi] at h
      cases h
    · rw [List.getElem?_set_ne q] at h
      obtain ⟨l, vs, q1, q2, q3, q4⟩ := r.w j ds h
      exact ⟨l, vs, by unfold Lo.rm; rw [if_neg (Ne.symm q)]; exact q1, by rw [List.getElem?_set_ne q]; exact q2, q3, q4.mono m⟩
  · obtain ⟨q, h⟩ := Lo.rm_some h
    obtain ⟨ds, e⟩ := r.wo j l h
    exact ⟨ds, by rw [List.getElem?_set_ne (Ne.symm q)]; exact e⟩
/-- a list of its own is no longer changed -/
theorem StRel.frz (r : StRel K ct A o lo G S σ H) {i : Nat} {ds : List D} (h : G[i]? = some (.own ds)) : StRel K ct A o (lo.rm i) (G.set i (.val (.lst ds))) S σ H := by
  obtain ⟨l, vs, q1, q2, q3, q4⟩ := r.w i ds h
  have hs : σ.set i (some (.ref l)) = σ := by
    refine List.ext_getElem? fun j => ?_
    by_cases e : i = j
    · subst e
      rw [List.getElem?_set_self (List.getElem?_eq_some_iff.mp q2).1, q2]
    · rw [List.getElem?_set_ne e]
  have := r.set (i := i) (y := .ref l) (d := .lst ds) (.lst q3 (fun z => z.elim (r.nb i l q1) fun ⟨j, e⟩ => (Lo.rm_some e).1 (r.inj _ _ _ (Lo.rm_some e).2 q1)) (q4.mono (StRel.rmMono i)))
  rw [hs] at this
  exact this
/-- a new list of its own -/
def Lo.ad (lo : Lo) (i : Nat) (l : Addr) : Lo := fun j => if j = i then some l else lo j
theorem StRel.own {o0 : Om} {S0 : Store} (r0 : StRel K ct A o0 lo G S0 σ H') (r : StRel K ct A o lo G S σ H) (m0 : Mono K (o0.wi lo) (o.wi lo) H' H) (kp : ∀ i l u, lo i = some l → H' l = some u → H l = some u) {i : Nat} {l : Addr} {vs : List V} {ds : List D} (hi : i < G.length) (hl : H l = some (.lst vs)) (fr : H' l = none)
    (hb : ¬ (o.wi lo).bad l) (q : RepL K (o.wi lo) H vs ds) (fl : D.flats ds = true) (fS : Store.flat S = true) :
    StRel K ct A o (lo.ad i l) (G.set i (.own ds)) S (σ.set i (some (.ref l))) H ∧ Mono K (o0.wi lo) (o.wi (lo.ad i l)) H' H := by
  have kf := r.s.kf
  have adS : ∀ {j a}, lo.ad i l j = some a → (j = i ∧ a = l) ∨ (j ≠ i ∧ lo j = some a) := fun {j a} h => by
    unfold Lo.ad at h
    by_cases e : j = i
    · rw [if_pos e] at h; cases h; exact .inl ⟨e, rfl⟩
    · rw [if_neg e] at h; exact .inr ⟨e, h⟩
  have ne : ∀ {j a}, lo j = some a → a ≠ l := fun h e => hb (.inr ⟨_, e ▸ h⟩)
  have hn : ¬ o.hot l := fun z => hb (r.s.hb l z)
  have hB : ∀ a, (lo.ad i l).B a → a = l ∨ lo.B a := fun a ⟨j, h⟩ => (adS h).elim (fun z => .inl z.2) fun z => .inr ⟨j, z.2⟩
  have m : Mono K (o0.wi lo) (o.wi (lo.ad i l)) H' H := by
    refine ⟨m0.t, m0.l, m0.h, fun a xs h nb z => ?_, m0.n, m0.r, m0.f⟩
    rcases z with z | z
    · exact m0.b a xs h nb (.inl z)
    · rcases hB a z with z | z
      · subst z
        rcases h with (h | ⟨ob, h⟩) | ⟨ob, its, n, hk, _⟩
        · rw [fr] at h; cases h
        · rw [fr] at h; cases h
        · rw [kf _ _ hl] at hk; cases hk
      · exact m0.b a xs h nb (.inr z)
  refine ⟨⟨⟨r.s.n, r.s.kf, fun k c e => ?_, r.s.inj, r.s.foI, r.s.foS, fun a z => .inl ((r.s.hb a z).resolve_right (r.noB z)), fun a z => ?_, r.s.cok⟩, by rw [List.length_set, List.length_set]; exact r.len, fun j e h => ?_, fun j ds h => ?_, fun j a h => ?_, fun j k a h h' => ?_, fun j a h z => ?_, fun j a h => ?_, fun j a h => ?_, r.x⟩, m⟩
  · obtain ⟨cd, dx, vfs, h1, h2, h3, h4, h5, h6⟩ := (r.s.cell k c e).ex
    refine ⟨cd, dx, vfs, h1, h2, h3, h4, h5, fun j f s e1 e2 => ?_⟩
    have q := h6 j f s e1 e2
    have fs : s.flat = true := by
      have := List.all_eq_true.mp fS c (List.mem_of_getElem? e)
      exact List.all_eq_true.mp this s (List.mem_of_getElem? e2)
    cases s with
    | no => exact q
    | val d =>
      obtain ⟨q1, x', q2, q3⟩ := q
      exact ⟨q1, x', q2, q3.flat fs⟩
    | own ds =>
      obtain ⟨l, vs, q1, q2, q3, q4⟩ := q
      exact ⟨l, vs, q1, q2, q3, q4.flats fs⟩
  · rcases z with z | z
    · exact r.s.ba a (.inl z)
    · rcases hB a z with z | z
      · subst z; exact ⟨_, hl⟩
      · exact r.s.ba a (.inr z)
  · by_cases q : i = j
    · subst q
      rw [List.getElem?_set_self hi] at h
      cases h
    · rw [List.getElem?_set_ne q] at h
      obtain ⟨x, q1, q2⟩ := r0.v j e h
      exact ⟨x, by rw [List.getElem?_set_ne q]; exact q1, q2.mono m⟩
  · by_cases z : i = j
    · subst z
      rw [List.getElem?_set_self hi] at h
      cases h
      exact ⟨l, vs, by unfold Lo.ad; rw [if_pos rfl], by rw [List.getElem?_set_self (by rw [← r.len]; exact hi)], hl, q.flats fl⟩
    · rw [List.getElem?_set_ne z] at h
      obtain ⟨l', vs', q1, q2, q3, q4⟩ := r.w j ds h
      obtain ⟨l0, vs0, p1, p2, p3, p4⟩ := r0.w j ds h
      rw [q1] at p1; cases p1
      refine ⟨l', vs', by unfold Lo.ad; rw [if_neg (Ne.symm z)]; exact q1, by rw [List.getElem?_set_ne z]; exact q2, q3, ?_⟩
      rw [kp j l' _ q1 p3] at q3
      cases q3
      exact p4.mono m
  · rcases adS h with ⟨rfl, rfl⟩ | ⟨q, h⟩
    · exact ⟨ds, List.getElem?_set_self hi⟩
    · obtain ⟨ds', e⟩ := r.wo j a h
      exact ⟨ds', by rw [List.getElem?_set_ne (Ne.symm q)]; exact e⟩
  · rcases adS h with ⟨e1, e2⟩ | ⟨q, h⟩ <;> rcases adS h' with ⟨e3, e4⟩ | ⟨q', h'⟩
    · rw [e1, e3]
    · exact absurd e2 (ne h')
    · exact absurd e4 (ne h)
    · exact r.inj j k a h h'
  · rcases adS h with ⟨e1, e2⟩ | ⟨q, h⟩
    · subst e2; exact hb (.inl z)
    · exact r.nb j a h z
  · rcases adS h with ⟨e1, e2⟩ | ⟨q, h⟩
    · subst e2; exact hn
    · exact r.nh j a h
  · rcases adS h with ⟨e1, e2⟩ | ⟨q, h⟩
    · subst e2; exact r0.x.back fr
    · exact r.fr j a h
end
/-! ### parts of statements -/
/-- what follows a part of a statement -/
structure Then (K : PySem.W.Frag) (ct : CT) (A : Om × Hp) (o : Om) (lo : Lo) (G : Env) (σ : L2.St) (H : Hp) (o1 : Om) (S1 : Store) (H1 : Hp) : Prop where
  r : StRel K ct A o1 lo G S1 σ H1
  m : Mono K (o.wi lo) (o1.wi lo) H H1
  k : ∀ i l u, lo i = some l → H l = some u → H1 l = some u
def ResS {α : Type} (r : R α) (Q : α → Store → Prop) : Prop := match r with
  | .ok a S => Q a S
  | _ => False
def tM (K : PySem.W.Frag) (ct : CT) (A : Om × Hp) (t : Ex) : TE := fun σ H Q => ∃ o lo G S, StRel K ct A o lo G S σ H ∧ ResS (t G S) fun d S1 => ∀ o1 v H1, Then K ct A o lo G σ H o1 S1 H1 → Rep K (o1.wi lo) H1 v d → Q v H1
def tMb (K : PySem.W.Frag) (ct : CT) (A : Om × Hp) (t : Tx) : TT := fun σ H Q => ∃ o lo G S, StRel K ct A o lo G S σ H ∧ ResS (t G S) fun d S1 => ∀ o1 H1, Then K ct A o lo G σ H o1 S1 H1 → Q d H1
def tMi (K : PySem.W.Frag) (ct : CT) (A : Om × Hp) (t : Ix) : TI := fun σ H Q => ∃ o lo G S, StRel K ct A o lo G S σ H ∧ ResS (t G S) fun ds S1 => ∀ o1 J H1, Then K ct A o lo G σ H o1 S1 H1 → WD K (o1.wi lo) H1 J ds → Q J H1
/-- a new list -/
def tMf (K : PySem.W.Frag) (ct : CT) (A : Om × Hp) (t : Ex) : TE := fun σ H Q => ∃ o lo G S, StRel K ct A o lo G S σ H ∧ ResS (t G S) fun d S1 => ∃ ds, d = .lst ds ∧ D.flats ds = true ∧ ∀ o1 l vs H1, Then K ct A o lo G σ H o1 S1 H1 → H l = none → H1 l = some (.lst vs) → ¬ (o1.wi lo).bad l → RepL K (o1.wi lo) H1 vs ds → Q (.ref l) H1
abbrev PM (X : Cx) (ct : CT) (e : Expr) (t : Ex) : Prop := ∀ A, PE X e (tM X.K ct A t)
abbrev PMb (X : Cx) (ct : CT) (e : Expr) (t : Tx) : Prop := ∀ A, PT X e (tMb X.K ct A t)
abbrev PMi (X : Cx) (ct : CT) (tg e : Expr) (t : Ix) : Prop := ∀ A, PI X tg e (tMi X.K ct A t)
abbrev PMf (X : Cx) (ct : CT) (e : Expr) (t : Ex) : Prop := ∀ A, PE X e (tMf X.K ct A t)
abbrev WF : Wish := fun _ _ _ _ => True
/-- without the lists of its own; with them, the value without lists -/
def strict {α : Type} (t : Env → Store → R α) : Env → Store → R α := fun G S => t (hide G) S
def relax (t : Ex) : Ex := fun G S => match t G S with
  | .ok d S1 => if d.flat = true ∧ Store.flat S1 = true then .ok d S1 else .bad
  | _ => .bad
def relaxb (t : Tx) : Tx := fun G S => match t G S with
  | .ok d S1 => if Store.flat S1 = true then .ok d S1 else .bad
  | _ => .bad
section
variable {X : Cx} {ct : CT} {W : Wish} {e tg : Expr} {t : Ex} {tb : Tx} {ti : Ix}
theorem resS {K : PySem.W.Frag} {o : Om} {H : Hp} {α : Type} {r : R α} {Q Q' : α → Store → Prop} (h : ResS r Q) (k : ∀ a S, Q a S → Q' a S) : Res K ct W o H r Q' := by
  cases r with
  | ok a S => exact k a S h
  | exc x S => exact h.elim
  | bad => exact h.elim
theorem pm_strict (h : PD X ct W e t) : PM X ct e (strict t) := fun A => PE.wk h fun σ H Q ⟨o, lo, G, S, r, q⟩ =>
  ⟨o.wi lo, hide G, S, r.hid, resS q fun d S1 k o' v H1 x1 s1 r1 => by
    obtain ⟨o2, e, r2⟩ := r.afterS x1 s1
    subst e
    exact k o2 v H1 ⟨r2, x1.mono r.s, r.keptS x1⟩ r1⟩
theorem pmb_strict (h : PDb X ct W e tb) : PMb X ct e (strict tb) := fun A => PT.wk h fun σ H Q ⟨o, lo, G, S, r, q⟩ =>
  ⟨o.wi lo, hide G, S, r.hid, resS q fun d S1 k o' H1 x1 s1 => by
    obtain ⟨o2, e, r2⟩ := r.afterS x1 s1
    subst e
    exact k o2 H1 ⟨r2, x1.mono r.s, r.keptS x1⟩⟩
theorem pmi_strict (h : PDi X ct W tg e ti) : PMi X ct tg e (strict ti) := fun A => PI.wk h fun σ H Q ⟨o, lo, G, S, r, q⟩ =>
  ⟨o.wi lo, hide G, S, r.hid, resS q fun d S1 k o' H1 J x1 s1 w => by
    obtain ⟨o2, e, r2⟩ := r.afterS x1 s1
    subst e
    exact k o2 J H1 ⟨r2, x1.mono r.s, r.keptS x1⟩ w⟩
theorem pm_relax (h : PD X ct W e t) : PM X ct e (relax t) := fun A => PE.wk h fun σ H Q ⟨o, lo, G, S, r, q⟩ => by
  refine ⟨o, G, S, r.full, ?_⟩
  unfold relax at q
  cases ev : t G S with
  | ok d S1 =>
    rw [ev] at q
    dsimp only at q
    split at q
    · rename_i hz
      intro o' v H1 x1 s1 r1
      exact q o' v H1 ⟨r.afterF x1 s1 hz.2, r.monoF x1, r.keptF x1⟩ (r1.flat hz.1)
    · exact q.elim
  | exc x S1 => rw [ev] at q; exact q.elim
  | bad => rw [ev] at q; exact q.elim
theorem pmb_relax (h : PDb X ct W e tb) : PMb X ct e (relaxb tb) := fun A => PT.wk h fun σ H Q ⟨o, lo, G, S, r, q⟩ => by
  refine ⟨o, G, S, r.full, ?_⟩
  unfold relaxb at q
  cases ev : tb G S with
  | ok d S1 =>
    rw [ev] at q
    dsimp only at q
    split at q
    · rename_i hz
      intro o' H1 x1 s1
      exact q o' H1 ⟨r.afterF x1 s1 hz, r.monoF x1, r.keptF x1⟩
    · exact q.elim
  | exc x S1 => rw [ev] at q; exact q.elim
  | bad => rw [ev] at q; exact q.elim
end

/-! ### statements -/
def NxK (K : PySem.W.Frag) (ct : CT) (A : Om × Hp) (o : Om) (H : Hp) (N : L2.St → Hp → Prop) (G' : Env) (S' : Store) : Prop := ∀ o' lo' σ' H', StRel K ct A o' lo' G' S' σ' H' → Mono K o (o'.wi lo') H H' → N σ' H'
def OutOk (K : PySem.W.Frag) (ct : CT) (A : Om × Hp) (o : Om) (H : Hp) (D : Ends) : Out → Prop
  | .nx G S => NxK K ct A o H D.nx G S
  | .rt d S => After K ct A.1 A.2 D.rt d S
  | .bk G S => NxK K ct A o H D.bk G S
  | .ct G S => NxK K ct A o H D.ct G S
  | _ => False
def tS (K : PySem.W.Frag) (ct : CT) (A : Om × Hp) (t : St) : TS := fun D σ H => ∃ o lo G S, StRel K ct A o lo G S σ H ∧ OutOk K ct A (o.wi lo) H D (t G S)
abbrev PSD (X : Cx) (ct : CT) (st : Stmt) (t : St) : Prop := ∀ A, PS X st (tS X.K ct A t)
abbrev PSDs (X : Cx) (ct : CT) (st : List Stmt) (t : St) : Prop := ∀ A, PSs X st (tS X.K ct A t)
section
variable {K : PySem.W.Frag} {ct : CT} {A : Om × Hp} {o o1 : Om} {H H1 : Hp} {D D' : Ends} {out : Out}
theorem NxK.later {N : L2.St → Hp → Prop} {G : Env} {S : Store} (m : Mono K o o1 H H1) (h : NxK K ct A o H N G S) : NxK K ct A o1 H1 N G S := fun o' lo' σ' H' r m' => h o' lo' σ' H' r (m.trans m')
theorem OutOk.later (m : Mono K o o1 H H1) (h : OutOk K ct A o H D out) : OutOk K ct A o1 H1 D out := by
  cases out with
  | nx G S => exact NxK.later m h
  | rt d S => exact h
  | bk G S => exact NxK.later m h
  | ct G S => exact NxK.later m h
  | exc => exact h
  | bad => exact h
end
def snx : St := fun G S => .nx G S
def sbk : St := fun G S => .bk G S
def sct : St := fun G S => .ct G S
def sseq (t u : St) : St := fun G S => match t G S with
  | .nx G' S' => u G' S'
  | z => z
def sset (i : Nat) (t : Ex) : St := fun G S => match t G S with
  | .ok d S1 => .nx (G.set i (.val d)) S1
  | _ => .bad
def sown (i : Nat) (t : Ex) : St := fun G S => match t G S with
  | .ok (.lst ds) S1 => if i < G.length ∧ D.flats ds = true ∧ Store.flat S1 = true then .nx (G.set i (.own ds)) S1 else .bad
  | _ => .bad
def sfrz (i : Nat) (t : St) : St := fun G S => match G[i]? with
  | some (.own ds) => t (G.set i (.val (.lst ds))) S
  | _ => t G S
def sret (t : Ex) : St := fun G S => match t G S with
  | .ok d S1 => .rt d S1
  | _ => .bad
def sdrop (t : Ex) : St := fun G S => match t G S with
  | .ok _ S1 => .nx G S1
  | _ => .bad
def sif (c : Tx) (t u : St) : St := fun G S => match c G S with
  | .ok true S1 => t G S1
  | .ok false S1 => u G S1
  | _ => .bad
section
variable {X : Cx} {ct : CT} {W : Wish} {e tg : Expr} {t : Ex} {tb : Tx} {ti : Ix} {st : Stmt} {sts a b : List Stmt} {u u' : St} {pos pos' : Pos} {x : Str}
theorem PS.wk {t t' : TS} (h : PS X st t) (k : ∀ D σ H, t' D σ H → t D σ H) : PS X st t' := ⟨fun pins s σ H D I w => h.run pins s σ H D I (k D σ H w)⟩
theorem PSs.wk {t t' : TS} (h : PSs X sts t) (k : ∀ D σ H, t' D σ H → t D σ H) : PSs X sts t' := ⟨fun pins s σ H D I w => h.run pins s σ H D I (k D σ H w)⟩
theorem psd_nil : PSDs X ct [] snx := fun A => PSs.wk pss_nil fun D σ H ⟨o, lo, G, S, r, q⟩ => q o lo σ H r .refl
theorem psd_cons (h1 : PSD X ct st u) (h2 : PSDs X ct sts u') : PSDs X ct (st :: sts) (sseq u u') := fun A => PSs.wk (pss_cons (h1 A) (h2 A)) fun D σ H ⟨o, lo, G, S, r, q⟩ => by
  refine ⟨o, lo, G, S, r, ?_⟩
  have q : OutOk X.K ct A (o.wi lo) H D (match u G S with
    | .nx G' S' => u' G' S'
    | z => z) := q
  cases e : u G S with
  | nx G1 S1 =>
    rw [e] at q
    exact fun o1 lo1 σ1 H1 r1 m1 => ⟨o1, lo1, G1, S1, r1, q.later m1⟩
  | rt d S1 => rw [e] at q; exact q
  | bk G1 S1 => rw [e] at q; exact q
  | ct G1 S1 => rw [e] at q; exact q
  | exc _ _ _ => rw [e] at q; exact q
  | bad => rw [e] at q; exact q
theorem psd_one (h1 : PSD X ct st u) : PSDs X ct [st] u := fun A => pss_one (h1 A)
theorem psd_pass : PSD X ct (.Pass pos) snx := fun A => PS.wk ps_pass fun D σ H ⟨o, lo, G, S, r, q⟩ => q o lo σ H r .refl
theorem psd_break : PSD X ct (.Break pos) sbk := fun A => PS.wk ps_break fun D σ H ⟨o, lo, G, S, r, q⟩ => q o lo σ H r .refl
theorem psd_cont : PSD X ct (.Continue pos) sct := fun A => PS.wk ps_continue fun D σ H ⟨o, lo, G, S, r, q⟩ => q o lo σ H r .refl
theorem psd_doc {j : Nat} {p : Pos} : PSD X ct (.Expr (.Constant (.str x) j p) pos') snx := fun A => PS.wk ps_doc fun D σ H ⟨o, lo, G, S, r, q⟩ => q o lo σ H r .refl
/-- a list of its own is no longer changed -/
theorem psds_frz {i : Nat} (h : PSDs X ct sts u) : PSDs X ct sts (sfrz i u) := fun A => PSs.wk (h A) fun D σ H ⟨o, lo, G, S, r, q⟩ => by
  unfold sfrz at q
  split at q
  · rename_i ds e
    exact ⟨o, lo.rm i, _, S, r.frz e, q.later (StRel.rmMono i)⟩
  · exact ⟨o, lo, G, S, r, q⟩
theorem psd_ret (h : PD X ct W e t) : PSD X ct (.Return (some e) pos) (sret t) := fun A => PS.wk (ps_ret h) fun D σ H ⟨o, lo, G, S, r, q⟩ => by
  refine ⟨o, G, S, r.full, ?_⟩
  unfold sret at q
  cases ev : t G S with
  | ok d S1 =>
    rw [ev] at q
    intro o' v H1 x1 s1 r1
    exact q o' v H1 (r.x.trans x1) s1 r1
  | exc x S1 => rw [ev] at q; exact q.elim
  | bad => rw [ev] at q; exact q.elim
theorem psd_retN : PSD X ct (.Return none pos) (sret (ec .non)) := fun A => PS.wk ps_retN fun D σ H ⟨o, lo, G, S, r, q⟩ => q o .non H r.x r.s0 .non
theorem psd_set {i : Nat} (h : PM X ct e t) (hN : X.N.Nodup) (hi : X.N[i]? = some x) (hx : Loc X.env.scope x) (hs : swapsWith e (some (.Name x pos')) pos.line X.env = pure false) (hf : X.fn x = true ∨ X.env.scope.names.lookup x = some .local) : PSD X ct (.Assign [.Name x pos'] e pos) (sset i t) := fun A =>
  PS.wk (ps_set hN hi hx (h A) hs hf) fun D σ H ⟨o, lo, G, S, r, q⟩ => by
    refine ⟨o, lo, G, S, r, ?_⟩
    unfold sset at q
    cases ev : t G S with
    | ok d S1 =>
      rw [ev] at q
      intro o1 v H1 T r1
      exact q o1 (lo.rm i) _ H1 (T.r.set (r1.mono (StRel.rmMono i))) (T.m.trans (StRel.rmMono i))
    | exc x S1 => rw [ev] at q; exact q.elim
    | bad => rw [ev] at q; exact q.elim
theorem psd_own {i : Nat} (h : PMf X ct e t) (hN : X.N.Nodup) (hi : X.N[i]? = some x) (hx : Loc X.env.scope x) (hs : swapsWith e (some (.Name x pos')) pos.line X.env = pure false) (hf : X.fn x = true ∨ X.env.scope.names.lookup x = some .local) : PSD X ct (.Assign [.Name x pos'] e pos) (sown i t) := fun A =>
  PS.wk (ps_set hN hi hx (h A) hs hf) fun D σ H ⟨o, lo, G, S, r, q⟩ => by
    refine ⟨o, lo, G, S, r, ?_⟩
    unfold sown at q
    cases ev : t G S with
    | ok d S1 =>
      rw [ev] at q
      cases d with
      | lst ds =>
        dsimp only at q
        split at q
        · rename_i hz
          refine ⟨ds, rfl, hz.2.1, fun o1 l vs H1 T hn hl hb rl => ?_⟩
          obtain ⟨r2, m2⟩ := StRel.own r T.r T.m T.k hz.1 hl hn hb rl hz.2.1 hz.2.2
          exact q o1 (lo.ad i l) _ H1 r2 m2
        · exact q.elim
      | _ => exact q.elim
    | exc x S1 => rw [ev] at q; exact q.elim
    | bad => rw [ev] at q; exact q.elim
theorem psd_drop (h : PM X ct e t) (hs : swapsWith e none pos.line X.env = pure false) : PSD X ct (.Expr e pos) (sdrop t) := fun A =>
  PS.wk (ps_expr (h A) hs) fun D σ H ⟨o, lo, G, S, r, q⟩ => by
    refine ⟨o, lo, G, S, r, ?_⟩
    unfold sdrop at q
    cases ev : t G S with
    | ok d S1 =>
      rw [ev] at q
      intro o1 v H1 T r1
      exact q o1 lo σ H1 T.r T.m
    | exc x S1 => rw [ev] at q; exact q.elim
    | bad => rw [ev] at q; exact q.elim
theorem psd_if {c : Expr} (hc : PMb X ct c tb) (ha : PSDs X ct a u) (hb : PSDs X ct b u') : PSD X ct (.If c a b pos) (sif tb u u') := fun A =>
  PS.wk (ps_if (hc A) (ha A) (hb A)) fun D σ H ⟨o, lo, G, S, r, q⟩ => by
    refine ⟨o, lo, G, S, r, ?_⟩
    unfold sif at q
    cases ev : tb G S with
    | ok d S1 =>
      rw [ev] at q
      intro o1 H1 T
      cases d with
      | true => exact ⟨o1, lo, G, S1, T.r, OutOk.later T.m q⟩
      | false => exact ⟨o1, lo, G, S1, T.r, OutOk.later T.m q⟩
    | exc x S1 => rw [ev] at q; exact q.elim
    | bad => rw [ev] at q; exact q.elim
end
end DL

end
section
set_option maxRecDepth 100000
set_option maxHeartbeats 2000000
/-! The data layer: targets, loops, lists changed in place. -/
namespace DL
open PySem PySem.Spec PyProof.Rows L2

/-! ### targets -/
def gT (K : PySem.W.Frag) (ct : CT) (A : Om × Hp) (g : Tg) : TG := fun v σ H Q => ∃ o lo G S d G', StRel K ct A o lo G S σ H ∧ Rep K (o.wi lo) H v d ∧ g.put d G = some G' ∧ NxK K ct A (o.wi lo) H Q G' S
def gTs (K : PySem.W.Frag) (ct : CT) (A : Om × Hp) (g : List Tg) : TGs := fun v σ H Q => ∃ o lo G S d G', StRel K ct A o lo G S σ H ∧ RepL K (o.wi lo) H v d ∧ Tg.puts g d G = some G' ∧ NxK K ct A (o.wi lo) H Q G' S
abbrev PGD (X : Cx) (ct : CT) (tg : Expr) (g : Tg) : Prop := ∀ A, PG X tg (gT X.K ct A g)
abbrev PGDs (X : Cx) (ct : CT) (tg : List Expr) (g : List Tg) : Prop := ∀ A, PGs X tg (gTs X.K ct A g)
section
variable {X : Cx} {ct : CT} {W : Wish} {e tg : Expr} {es : List Expr} {t : Ex} {tb : Tx} {ti : Ix} {st : Stmt} {sts a b : List Stmt} {u u' : St} {pos pos' : Pos} {x : Str} {g : Tg} {gs : List Tg}
theorem PG.wk {t t' : TG} (h : PG X e t) (k : ∀ v σ H Q, t' v σ H Q → t v σ H Q) : PG X e t' := ⟨fun pins s σ H v u Q I r w => h.run pins s σ H v u Q I r (k v σ H Q w)⟩
theorem PG.kf {t : TG} (h : PG X e t) : PG X e (fun v σ H Q => KF X.K H → t v σ H Q) := ⟨fun pins s σ H v u Q I r w => h.run pins s σ H v u Q I r (w (kf_of I))⟩
theorem PGs.wk {t t' : TGs} (h : PGs X es t) (k : ∀ v σ H Q, t' v σ H Q → t v σ H Q) : PGs X es t' := ⟨fun pins s σ H v u Q I r w => h.run pins s σ H v u Q I r (k v σ H Q w)⟩
theorem pgd_name {i : Nat} (hN : X.N.Nodup) (hi : X.N[i]? = some x) (hx : Loc X.env.scope x) (hf : X.fn x = true ∨ X.env.scope.names.lookup x = some .local) : PGD X ct (.Name x pos) (.nm i) := fun A =>
  PG.wk (pg_name hN hi hx hf) fun v σ H Q ⟨o, lo, G, S, d, G', r, rv, e, q⟩ => by
    cases e
    exact q o (lo.rm i) _ H (r.set (rv.mono (StRel.rmMono i))) (StRel.rmMono i)
theorem pgds_nil : PGDs X ct [] [] := fun A => PGs.wk pgs_nil fun v σ H Q ⟨o, lo, G, S, d, G', r, rv, e, q⟩ => by
  cases rv with
  | nil => cases e; exact ⟨rfl, q o lo σ H r .refl⟩
  | cons _ _ => cases e
theorem pgds_cons (h1 : PGD X ct e g) (h2 : PGDs X ct es gs) (hs : (assignEach (e :: es) X.env).map (·.2) = assign e X.env :: (assignEach es X.env).map (·.2) := by rfl) : PGDs X ct (e :: es) (g :: gs) := fun A =>
  PGs.wk (pgs_cons (h1 A) (h2 A) hs) fun v σ H Q ⟨o, lo, G, S, d, G', r, rv, e, q⟩ => by
    cases rv with
    | nil => cases e
    | @cons v1 d1 vs ds r1 r2 =>
      have e : (Tg.put g d1 G).bind (Tg.puts gs ds) = some G' := e
      cases e1 : Tg.put g d1 G with
      | none => rw [e1] at e; cases e
      | some G1 =>
        rw [e1] at e
        exact ⟨_, _, rfl, o, lo, G, S, d1, G1, r, r1, e1, fun o1 lo1 σ1 H1 ra m => ⟨o1, lo1, G1, S, ds, G', ra, r2.mono m, e, NxK.later m q⟩⟩
theorem puts_len : ∀ {gs : List Tg} {ds : List D} {G G' : Env}, Tg.puts gs ds G = some G' → ds.length = gs.length
  | [], [], _, _, _ => rfl
  | [], _ :: _, _, _, h => by cases h
  | _ :: _, [], _, _, h => by cases h
  | g :: gs, d :: ds, G, G', h => by
    have h : (Tg.put g d G).bind (Tg.puts gs ds) = some G' := h
    cases e1 : Tg.put g d G with
    | none => rw [e1] at h; cases h
    | some G1 =>
      rw [e1] at h
      rw [List.length_cons, List.length_cons, puts_len (gs := gs) h]
theorem pgd_tup {k n : Nat} (hc : X.calm = true) (h : PGDs X ct es gs) (hl : gs.length = n) (hn : (assignEach es X.env).length = n) (hst : (assignEach es X.env).findIdx? (·.1) = none) : PGD X ct (.Tuple es k pos) (.tp gs) := fun A =>
  PG.wk (pg_tup hc (h A) hn hst) fun v σ H Q ⟨o, lo, G, S, d, G', r, rv, e, q⟩ => by
    cases rv with
    | @tup a vs ds ht rs =>
      refine ⟨a, vs, rfl, ht, ?_, o, lo, G, S, ds, G', r, rs, e, q⟩
      rw [rs.length, puts_len (gs := gs) e, hl]
    | _ => cases e
/-- target = value -/
def sasg (g : Tg) (t : Ex) : St := fun G S => match t G S with
  | .ok d S1 => match g.put d G with
    | some G' => .nx G' S1
    | none => .bad
  | _ => .bad
theorem psd_asg (h : PM X ct e t) (hg : PGD X ct tg g) (hs : swapsWithSole [tg] e pos.line X.env = pure false) (hw : swappedStores [tg] e X.env = pure none)
    (h1 : (assignEach [tg] X.env).map (·.2) = [assign tg X.env] := by rfl) : PSD X ct (.Assign [tg] e pos) (sasg g t) := fun A =>
  PS.wk (ps_asg (h A) (hg A) hs hw h1) fun D σ H ⟨o, lo, G, S, r, q⟩ => by
    refine ⟨o, lo, G, S, r, ?_⟩
    unfold sasg at q
    cases ev : t G S with
    | ok d S1 =>
      rw [ev] at q
      dsimp only at q
      cases e1 : g.put d G with
      | none => rw [e1] at q; exact q.elim
      | some G1 =>
        rw [e1] at q
        exact fun o1 v H1 T rv => ⟨o1, lo, G, S1, d, G1, T.r, rv, e1, NxK.later T.m q⟩
    | exc x S1 => rw [ev] at q; exact q.elim
    | bad => rw [ev] at q; exact q.elim
/-- a, b = x, y -/
def tMs (K : PySem.W.Frag) (ct : CT) (A : Om × Hp) (t : Exs) : TA := fun σ H Q => ∃ o lo G S, StRel K ct A o lo G S σ H ∧ ResS (t G S) fun d S1 => ∀ o1 v H1, Then K ct A o lo G σ H o1 S1 H1 → RepL K (o1.wi lo) H1 v d → Q v H1
abbrev PMs (X : Cx) (ct : CT) (es : List Expr) (t : Exs) : Prop := ∀ A, PA X es (tMs X.K ct A t)
def relaxs (t : Exs) : Exs := fun G S => match t G S with
  | .ok d S1 => if D.flats d = true ∧ Store.flat S1 = true then .ok d S1 else .bad
  | _ => .bad
theorem pms_strict {t : Exs} (h : PDs X ct W es t) : PMs X ct es (strict t) := fun A => PA.wk h fun σ H Q ⟨o, lo, G, S, r, q⟩ =>
  ⟨o.wi lo, hide G, S, r.hid, resS q fun d S1 k o' v H1 x1 s1 r1 => by
    obtain ⟨o2, e, r2⟩ := r.afterS x1 s1
    subst e
    exact k o2 v H1 ⟨r2, x1.mono r.s, r.keptS x1⟩ r1⟩
theorem pms_relax {t : Exs} (h : PDs X ct W es t) : PMs X ct es (relaxs t) := fun A => PA.wk h fun σ H Q ⟨o, lo, G, S, r, q⟩ => by
  refine ⟨o, G, S, r.full, ?_⟩
  unfold relaxs at q
  cases ev : t G S with
  | ok d S1 =>
    rw [ev] at q
    dsimp only at q
    split at q
    · rename_i hz
      intro o' v H1 x1 s1 r1
      exact q o' v H1 ⟨r.afterF x1 s1 hz.2, r.monoF x1, r.keptF x1⟩ (r1.flats hz.1)
    · exact q.elim
  | exc x S1 => rw [ev] at q; exact q.elim
  | bad => rw [ev] at q; exact q.elim
def spar (i j : Nat) (t : Exs) : St := fun G S => match t G S with
  | .ok [d, e] S1 => .nx ((G.set i (.val d)).set j (.val e)) S1
  | _ => .bad
theorem psd_par {i j : Nat} {y : Str} {ea eb : Expr} {t : Exs} {px py pt : Pos} {kt k2 : Nat} {pt2 : Pos} (h : PMs X ct [ea, eb] t) (hc : X.calm = true) (hN : X.N.Nodup) (hi : X.N[i]? = some x) (hj : X.N[j]? = some y) (hij : i ≠ j)
    (hx : X.env.scope.names.lookup x = some .local) (hy : X.env.scope.names.lookup y = some .local)
    (hw : swappedStores [.Tuple [.Name x px, .Name y py] kt pt] (.Tuple [ea, eb] k2 pt2) X.env = pure (some [x, y]))
    (hs : swapsWithSole [.Tuple [.Name x px, .Name y py] kt pt] (.Tuple [ea, eb] k2 pt2) pos.line X.env = pure false) : PSD X ct (.Assign [.Tuple [.Name x px, .Name y py] kt pt] (.Tuple [ea, eb] k2 pt2) pos) (spar i j t) := fun A =>
  PS.wk (ps_par hc hN hi hj hij hx hy (h A) hw hs) fun D σ H ⟨o, lo, G, S, r, q⟩ => by
    refine ⟨o, lo, G, S, r, ?_⟩
    unfold spar at q
    cases ev : t G S with
    | ok d S1 =>
      rw [ev] at q
      intro o1 v H1 T rv
      split at q
      · rename_i d1 d2 S2 he
        cases he
        obtain ⟨v1, v2, rfl, r1, r2⟩ := rv.two
        have ra := T.r.set (i := i) (r1.mono (StRel.rmMono i))
        have m1 : Mono X.K (o1.wi lo) (o1.wi (lo.rm i)) H1 H1 := StRel.rmMono i
        have m2 : Mono X.K (o1.wi (lo.rm i)) (o1.wi ((lo.rm i).rm j)) H1 H1 := StRel.rmMono j
        exact ⟨v1, v2, rfl, q o1 _ _ H1 (ra.set (i := j) (r2.mono (m1.trans m2))) ((T.m.trans m1).trans m2)⟩
      · exact q.elim
    | exc x S1 => rw [ev] at q; exact q.elim
    | bad => rw [ev] at q; exact q.elim
/-- name op= value -/
def saug (i : Nat) (f : D → D → Option D) (t : Ex) : St := fun G S => match G[i]? with
  | some (.val d) => match t G S with
    | .ok y S1 => match f d y with
      | some z => .nx (G.set i (.val z)) S1
      | none => .bad
    | _ => .bad
  | _ => .bad
theorem psd_aug {i : Nat} {op : Operator} {f : D → D → Option D} (h : PM X ct e t) (ho : OpS X ct (inplaceOp op) f) (hN : X.N.Nodup) (hi : X.N[i]? = some x) (hx : Loc X.env.scope x) (hf : X.fn x = true ∨ X.env.scope.names.lookup x = some .local) : PSD X ct (.AugAssign (.Name x pos') op e pos) (saug i f t) := fun A =>
  PS.wk (ps_aug hN hi hx (h A) ho hf) fun D σ H ⟨o, lo, G, S, r, q⟩ => by
    unfold saug at q
    split at q
    · rename_i d he
      obtain ⟨y, e1, ry⟩ := r.v i d he
      refine ⟨y, e1, o, lo, G, S, r, ?_⟩
      cases ev : t G S with
      | ok d1 S1 =>
        rw [ev] at q
        intro o1 v H1 T rv
        dsimp only at q
        cases ef : f d d1 with
        | none => rw [ef] at q; exact q.elim
        | some z =>
          rw [ef] at q
          refine ⟨o1.wi lo, S1, d, d1, z, T.r.s, ry.mono T.m, rv, ef, fun o' w H2 x2 s2 r2 => ?_⟩
          obtain ⟨o2, e2, r3⟩ := T.r.afterS x2 s2
          subst e2
          exact q o2 (lo.rm i) _ H2 (r3.set (r2.mono (StRel.rmMono i))) ((T.m.trans (x2.mono T.r.s)).trans (StRel.rmMono i))
      | exc x S1 => rw [ev] at q; exact q.elim
      | bad => rw [ev] at q; exact q.elim
    · exact q.elim

/-! ### for -/
def runFor (g : Tg) (u : St) : List D → Env → Store → Out
  | [], G, S => .nx G S
  | d :: r, G, S => match g.put d G with
    | some G1 => match u G1 S with
      | .nx G2 S2 => runFor g u r G2 S2
      | .ct G2 S2 => runFor g u r G2 S2
      | .bk G2 S2 => .nx G2 S2
      | z => z
    | none => .bad
def sfor (it : Ix) (g : Tg) (u : St) : St := fun G S => match it G S with
  | .ok ds S1 => runFor g u ds G S1
  | _ => .bad
theorem Mono.grown {K : PySem.W.Frag} {o : Om} {H : Hp} {T : Addr} {w : HO} (hT : H T = none) : Mono K o o H (upd H T w) := by
  have ne : ∀ {b w}, H b = some w → b ≠ T := fun h z => by rw [z, hT] at h; cases h
  refine ⟨fun a xs h => ?_, fun a xs _ h => ?_, fun a xs _ h => by rw [upd_ne (ne h)]; exact h, fun _ _ _ n => n, Nat.le_refl _, fun _ _ => rfl, fun _ _ _ h => h⟩
  · rcases h with (h | ⟨ob, h⟩) | h
    · exact .inl (.inl (by rw [upd_ne (ne h)]; exact h))
    · exact .inl (.inr ⟨ob, by rw [upd_ne (ne h)]; exact h⟩)
    · exact .inr h
  · rcases h with (h | ⟨ob, h⟩) | h
    · exact .inl (.inl (by rw [upd_ne (ne h)]; exact h))
    · exact .inl (.inr ⟨ob, by rw [upd_ne (ne h)]; exact h⟩)
    · exact .inr h
theorem StRel.grown {K : PySem.W.Frag} {A : Om × Hp} {o : Om} {lo : Lo} {G : Env} {S : Store} {σ : L2.St} {H : Hp} {T : Addr} {w : HO} (r : StRel K ct A o lo G S σ H) (hT : H T = none) (kf : KF K (upd H T w)) : StRel K ct A o lo G S σ (upd H T w) := by
  have ne : ∀ {b w}, H b = some w → b ≠ T := fun h z => by rw [z, hT] at h; cases h
  have m : Mono K (o.wi lo) (o.wi lo) H (upd H T w) := Mono.grown hT
  refine ⟨r.s.grown hT kf, r.len, fun i d h => let ⟨y, q1, q2⟩ := r.v i d h; ⟨y, q1, q2.mono m⟩, fun i ds h => let ⟨l, vs, q1, q2, q3, q4⟩ := r.w i ds h; ⟨l, vs, q1, q2, by rw [upd_ne (ne q3)]; exact q3, q4.mono m⟩, r.wo, r.inj, r.nb, r.nh, r.fr, r.x.trans (.grown hT)⟩
/-- one value yielded -/
theorem yielded {K : PySem.W.Frag} {A : Om × Hp} {o0 o : Om} {lo : Lo} {G : Env} {S : Store} {σ : L2.St} {H0 H H' : Hp} {J : It} {ds : List D} {i : Nat} {v : V} (w : WD K o0 H0 J ds) (hi : i < ds.length) (m : Mono K o0 (o.wi lo) H0 H) (r : StRel K ct A o lo G S σ H) (y : J.yld i H v H') (kf : KF K H') :
    StRel K ct A o lo G S σ H' ∧ Mono K (o.wi lo) (o.wi lo) H H' ∧ ∃ d, ds[i]? = some d ∧ Rep K (o.wi lo) H' v d := by
  rcases w.yields i _ _ v H' hi m y with ⟨e, d, h1, h2⟩ | ⟨T, vs, xs, h1, h2, h3, h4, h5⟩
  · subst e
    exact ⟨r, .refl, d, h1, h2⟩
  · subst h3
    subst h1
    exact ⟨r.grown h2 kf, .grown h2, _, h4, .tup (.of upd_same) (h5.mono (.grown h2))⟩
theorem psd_for (hi : PMi X ct tg e ti) (hg : PGD X ct tg g) (hb : PSDs X ct a u) (hp : PassesOwn (model X.prog X.w) X.A X.env X.xe) (hc : X.calm = true) (hs : ∀ x, foldedSetIterable e X.env x = pure x := by intro _; rfl) : PSD X ct (.For tg e a [] pos) (sfor ti g u) := fun A =>
  PS.wk (ps_for hp hc (hi A) (PG.kf (hg A)) (hb A) hs) fun D σ H ⟨o, lo, G, S, r, q⟩ => by
    refine ⟨o, lo, G, S, r, ?_⟩
    unfold sfor at q
    cases ev : ti G S with
    | ok ds S1 =>
      rw [ev] at q
      intro o1 J H1 T w
      refine ⟨fun i m σ' H' => i ≤ ds.length ∧ m = ds.length - i ∧ ∃ o' lo' G' S', StRel X.K ct A o' lo' G' S' σ' H' ∧ Mono X.K (o1.wi lo) (o'.wi lo') H1 H' ∧ OutOk X.K ct A (o'.wi lo') H' D (runFor g u (ds.drop i) G' S'), ⟨_, Nat.zero_le _, rfl, o1, lo, G, S1, T.r, .refl, OutOk.later T.m q⟩, ?_⟩
      rintro i m σ2 H2 ⟨hi, rfl, o2, lo2, G2, S2, r2, m2, q2⟩
      by_cases hlt : i < ds.length
      · refine .inr ⟨w.goes i _ _ hlt m2, fun σ' H' => ∃ o' lo' G' S', StRel X.K ct A o' lo' G' S' σ' H' ∧ Mono X.K (o1.wi lo) (o'.wi lo') H1 H' ∧ OutOk X.K ct A (o'.wi lo') H' D (runFor g u (ds.drop (i + 1)) G' S'), fun σ' H' z => ⟨ds.length - (i + 1), by omega, by omega, rfl, z⟩, fun v H' y kf => ?_⟩
        obtain ⟨r3, m3, d, hd, rv⟩ := yielded w hlt m2 r2 y kf
        have ed : ds.drop i = d :: ds.drop (i + 1) := by
          rw [List.drop_eq_getElem_cons hlt]
          have := List.getElem?_eq_getElem hlt
          rw [hd] at this
          cases this
          rfl
        rw [ed] at q2
        have q2 : OutOk X.K ct A (o2.wi lo2) H2 D (match g.put d G2 with
          | some G1 => match u G1 S2 with
            | .nx G2 S2 => runFor g u (ds.drop (i + 1)) G2 S2
            | .ct G2 S2 => runFor g u (ds.drop (i + 1)) G2 S2
            | .bk G2 S2 => .nx G2 S2
            | z => z
          | none => .bad) := q2
        cases eg : g.put d G2 with
        | none => rw [eg] at q2; exact q2.elim
        | some G3 =>
          rw [eg] at q2
          refine ⟨o2, lo2, G2, S2, d, G3, r3, rv, eg, fun o4 lo4 σ4 H4 r4 m4 => ⟨o4, lo4, G3, S2, r4, ?_⟩⟩
          have m5 := (m2.trans m3).trans m4
          have m6 := m3.trans m4
          dsimp only at q2
          cases eu : u G3 S2 with
          | nx G5 S5 =>
            rw [eu] at q2
            exact fun o6 lo6 σ6 H6 r6 m7 => ⟨o6, lo6, G5, S5, r6, m5.trans m7, OutOk.later (m6.trans m7) q2⟩
          | ct G5 S5 =>
            rw [eu] at q2
            exact fun o6 lo6 σ6 H6 r6 m7 => ⟨o6, lo6, G5, S5, r6, m5.trans m7, OutOk.later (m6.trans m7) q2⟩
          | bk G5 S5 =>
            rw [eu] at q2
            exact fun o6 lo6 σ6 H6 r6 m7 => q2 o6 lo6 σ6 H6 r6 (m6.trans m7)
          | rt d S5 => rw [eu] at q2; exact q2
          | exc _ _ _ => rw [eu] at q2; exact q2
          | bad => rw [eu] at q2; exact q2
      · have e : i = ds.length := by omega
        subst e
        rw [List.drop_length] at q2
        exact .inl ⟨w.stops _ _ m2, q2 o2 lo2 σ2 H2 r2 .refl⟩
    | exc x S1 => rw [ev] at q; exact q.elim
    | bad => rw [ev] at q; exact q.elim

/-! ### while -/
def runWhile (c : Tx) (u : St) : Nat → Env → Store → Out
  | 0, _, _ => .bad
  | n + 1, G, S => match c G S with
    | .ok true S1 => match u G S1 with
      | .nx G2 S2 => runWhile c u n G2 S2
      | .ct G2 S2 => runWhile c u n G2 S2
      | .bk G2 S2 => .nx G2 S2
      | z => z
    | .ok false S1 => .nx G S1
    | _ => .bad
def swhile (n : Nat) (c : Tx) (u : St) : St := runWhile c u n
theorem psd_while {n : Nat} {c : Expr} (hcnd : PMb X ct c tb) (hb : PSDs X ct a u) (hp : PassesOwn (model X.prog X.w) X.A X.env X.xe) : PSD X ct (.While c a [] pos) (swhile n tb u) := fun A =>
  PS.wk (ps_while hp (hcnd A) (hb A)) fun D σ H ⟨o, lo, G, S, r, q⟩ => by
    have q : OutOk X.K ct A (o.wi lo) H D (runWhile tb u n G S) := q
    refine ⟨fun m σ' H' => ∃ o' lo' G' S', StRel X.K ct A o' lo' G' S' σ' H' ∧ OutOk X.K ct A (o'.wi lo') H' D (runWhile tb u m G' S'), ⟨n, o, lo, G, S, r, q⟩, ?_⟩
    rintro m σ2 H2 ⟨o2, lo2, G2, S2, r2, q2⟩
    cases m with
    | zero => exact q2.elim
    | succ m =>
      have q2 : OutOk X.K ct A (o2.wi lo2) H2 D (match tb G2 S2 with
        | .ok true S1 => match u G2 S1 with
          | .nx G2 S2 => runWhile tb u m G2 S2
          | .ct G2 S2 => runWhile tb u m G2 S2
          | .bk G2 S2 => .nx G2 S2
          | z => z
        | .ok false S1 => .nx G2 S1
        | _ => .bad) := q2
      refine ⟨o2, lo2, G2, S2, r2, ?_⟩
      cases ev : tb G2 S2 with
      | ok d S1 =>
        rw [ev] at q2
        intro o3 H3 T
        cases d with
        | false => exact q2 o3 lo2 σ2 H3 T.r T.m
        | true =>
          refine ⟨fun σ' H' => ∃ o' lo' G' S', StRel X.K ct A o' lo' G' S' σ' H' ∧ OutOk X.K ct A (o'.wi lo') H' D (runWhile tb u m G' S'), fun σ' H' z => ⟨m, Nat.lt_succ_self _, z⟩, o3, lo2, G2, S1, T.r, ?_⟩
          dsimp only at q2
          cases eu : u G2 S1 with
          | nx G5 S5 =>
            rw [eu] at q2
            exact fun o6 lo6 σ6 H6 r6 m7 => ⟨o6, lo6, G5, S5, r6, OutOk.later (T.m.trans m7) q2⟩
          | ct G5 S5 =>
            rw [eu] at q2
            exact fun o6 lo6 σ6 H6 r6 m7 => ⟨o6, lo6, G5, S5, r6, OutOk.later (T.m.trans m7) q2⟩
          | bk G5 S5 =>
            rw [eu] at q2
            exact fun o6 lo6 σ6 H6 r6 m7 => q2 o6 lo6 σ6 H6 r6 (T.m.trans m7)
          | rt d S5 => rw [eu] at q2; exact q2
          | exc _ _ _ => rw [eu] at q2; exact q2
          | bad => rw [eu] at q2; exact q2
      | exc x S1 => rw [ev] at q2; exact q2.elim
      | bad => rw [ev] at q2; exact q2.elim
end
end DL

end
section
set_option maxRecDepth 100000
set_option maxHeartbeats 2000000
/-! The data layer: lists changed in place. -/
namespace DL
open PySem PySem.Spec PyProof.Rows L2

section
variable {K : PySem.W.Frag} {ct : CT} {A : Om × Hp} {o : Om} {lo : Lo} {G : Env} {S : Store} {σ : L2.St} {H : Hp} {l : Addr} {vs vs' : List V} {ds ds' : List D} {w : HO}
theorem Mono.badU (hl : H l = some (.lst vs)) (b : o.bad l) (kf : K.lookup l = none) : Mono K o o H (upd H l w) := by
  refine ⟨fun a xs h => ?_, fun a xs nb h => ?_, fun a xs nb h => by rw [upd_ne (show a ≠ l from fun e => nb (e ▸ b))]; exact h, fun _ _ _ n => n, Nat.le_refl _, fun _ _ => rfl, fun _ _ _ h => h⟩
  · rcases h with (h | ⟨ob, h⟩) | h
    · exact .inl (.inl (by rw [upd_ne (show a ≠ l from fun e => by rw [e, hl] at h; cases h)]; exact h))
    · exact .inl (.inr ⟨ob, by rw [upd_ne (show a ≠ l from fun e => by rw [e, hl] at h; cases h)]; exact h⟩)
    · exact .inr h
  · have ne : a ≠ l := fun e => nb (e ▸ b)
    rcases h with (h | ⟨ob, h⟩) | h
    · exact .inl (.inl (by rw [upd_ne ne]; exact h))
    · exact .inl (.inr ⟨ob, by rw [upd_ne ne]; exact h⟩)
    · exact .inr h
theorem kfU {u : HO} (kf : KF K H) (hl : H l = some u) : KF K (upd H l w) := fun b x h => by
  by_cases e : b = l
  · rw [e]; exact kf l u hl
  · rw [upd_ne e] at h; exact kf b x h
theorem thereU {u : HO} (hl : H l = some u) {a : Addr} {x : HO} (h : H a = some x) : ∃ y, upd H l w a = some y := by
  by_cases e : a = l
  · rw [e]; exact ⟨w, upd_same⟩
  · exact ⟨x, by rw [upd_ne e]; exact h⟩
/-- a list that is no object's -/
theorem SRel.wrote (r : SRel K ct o S H) (hl : H l = some (.lst vs)) (b : o.bad l) (nh : ¬ o.hot l) : SRel K ct o S (upd H l w) := by
  have m : Mono K o o H (upd H l w) := Mono.badU hl b (r.kf _ _ hl)
  refine ⟨r.n, kfU r.kf hl, fun k c e => ?_, r.inj, r.foI, r.foS, r.hb, fun a z => let ⟨u, q⟩ := r.ba a z; thereU hl q, r.cok⟩
  obtain ⟨cd, dx, vfs, h1, h2, h3, h4, h5, h6⟩ := (r.cell k c e).ex
  have hk : k < o.n := by rw [r.n]; exact (List.getElem?_eq_some_iff.mp e).1
  refine ⟨cd, dx, vfs, h1, by rw [upd_ne (show o.ρ k ≠ l from fun z => nh (.inl ⟨k, hk, z.symm⟩))]; exact h2, h3, h4, h5, fun j f s e1 e2 => ?_⟩
  have q := h6 j f s e1 e2
  cases s with
  | no => exact q
  | val d =>
    obtain ⟨q1, x', q2, q3⟩ := q
    exact ⟨q1, x', q2, q3.mono m⟩
  | own ds =>
    obtain ⟨l', vs', q1, q2, q3, q4⟩ := q
    exact ⟨l', vs', q1, q2, by rw [upd_ne (show l' ≠ l from fun z => nh (.inr ⟨k, j, z ▸ q1⟩))]; exact q3, q4.mono m⟩
theorem StRel.put (r : StRel K ct A o lo G S σ H) {i : Nat} (hi : G[i]? = some (.own ds)) (hl : lo i = some l) (hH : H l = some (.lst vs)) (q : RepL K (o.wi lo) H vs' ds') :
    StRel K ct A o lo (G.set i (.own ds')) S σ (upd H l (.lst vs')) ∧ Mono K (o.wi lo) (o.wi lo) H (upd H l (.lst vs')) := by
  have b : (o.wi lo).bad l := .inr ⟨i, hl⟩
  have m : Mono K (o.wi lo) (o.wi lo) H (upd H l (.lst vs')) := Mono.badU hH b (r.s.kf _ _ hH)
  have lt : i < G.length := (List.getElem?_eq_some_iff.mp hi).1
  obtain ⟨l0, vs0, p1, p2, p3, p4⟩ := r.w i ds hi
  rw [hl] at p1; cases p1
  refine ⟨⟨r.s.wrote hH b (r.nh i l hl), by rw [List.length_set]; exact r.len, fun j d h => ?_, fun j es h => ?_, fun j l' h => ?_, r.inj, r.nb, r.nh, r.fr, ?_⟩, m⟩
  · by_cases e : i = j
    · subst e
      rw [List.getElem?_set_self lt] at h; cases h
    · rw [List.getElem?_set_ne e] at h
      obtain ⟨x, q1, q2⟩ := r.v j d h
      exact ⟨x, q1, q2.mono m⟩
  · by_cases e : i = j
    · subst e
      rw [List.getElem?_set_self lt] at h; cases h
      exact ⟨l, vs', hl, p2, upd_same, q.mono m⟩
    · rw [List.getElem?_set_ne e] at h
      obtain ⟨l', vs2, q1, q2, q3, q4⟩ := r.w j es h
      exact ⟨l', vs2, q1, q2, by rw [upd_ne (show l' ≠ l from fun z => e (r.inj i j l hl (z ▸ q1)))]; exact q3, q4.mono m⟩
  · by_cases e : i = j
    · subst e
      exact ⟨ds', List.getElem?_set_self lt⟩
    · obtain ⟨es, q⟩ := r.wo j l' h
      exact ⟨es, by rw [List.getElem?_set_ne e]; exact q⟩
  · refine ⟨fun a u h n => ?_, fun a u h => ?_, r.x.n, r.x.r, r.x.badS, r.x.badN, r.x.hotN, r.x.f⟩
    · rw [upd_ne (show a ≠ l from fun z => by rw [z, r.fr i l hl] at h; cases h)]
      exact r.x.keep a u h n
    · obtain ⟨u', q⟩ := r.x.there a u h
      exact thereU hH q
/-- an object's own list -/
def fput (S : Store) (k j : Nat) (ds : List D) : Store := match S[k]? with
  | some c => S.set k { c with fs := c.fs.set j (.own ds) }
  | none => S
theorem fput_len (S : Store) (k j : Nat) (ds : List D) : (fput S k j ds).length = S.length := by
  unfold fput
  split
  · rw [List.length_set]
  · rfl
theorem StRel.fput (r : StRel K ct A o lo G S σ H) {k j : Nat} (hl : o.fo k j = some l) (hH : H l = some (.lst vs)) (q : RepL K (o.wi lo) H vs' ds') :
    StRel K ct A o lo G (fput S k j ds') σ (upd H l (.lst vs')) ∧ Mono K (o.wi lo) (o.wi lo) H (upd H l (.lst vs')) := by
  have hot : o.hot l := .inr ⟨k, j, hl⟩
  have b : (o.wi lo).bad l := r.s.hb l hot
  have m : Mono K (o.wi lo) (o.wi lo) H (upd H l (.lst vs')) := Mono.badU hH b (r.s.kf _ _ hH)
  obtain ⟨c, ds, vs0, e1, e2, e3, e4, e5⟩ := r.s.fl (k := k) (j := j) (a := l) hl
  have ck : k < S.length := (List.getElem?_eq_some_iff.mp e1).1
  have cj : j < c.fs.length := (List.getElem?_eq_some_iff.mp e2).1
  have eS : DL.fput S k j ds' = S.set k { c with fs := c.fs.set j (.own ds') } := by
    unfold DL.fput
    rw [e1]
  have apart : ∀ k', k' < o.n → o.ρ k' ≠ l := fun k' hk z => by
    obtain ⟨_, _, _, q⟩ := r.s.rhoA hk
    have q : H (o.ρ k') = _ := q
    rw [z, hH] at q; cases q
  rw [eS]
  refine ⟨⟨⟨by rw [List.length_set]; exact r.s.n, kfU r.s.kf hH, fun k' c' e => ?_, r.s.inj, r.s.foI, fun k' j' l' h => ?_, r.s.hb, fun a z => let ⟨u, q⟩ := r.s.ba a z; thereU hH q, r.s.cok⟩, r.len, fun i d h => let ⟨x, q1, q2⟩ := r.v i d h; ⟨x, q1, q2.mono m⟩, fun i es h => ?_, r.wo, r.inj, r.nb, r.nh, r.fr, ?_⟩, m⟩
  · have main : ∀ c0 : Cell, S[k']? = some c0 → (∀ s jj, c'.fs[jj]? = some s → (k' = k ∧ jj = j ∧ s = .own ds') ∨ (¬ (k' = k ∧ jj = j) ∧ c0.fs[jj]? = some s)) → c'.cls = c0.cls → c'.fs.length = c0.fs.length → CellRep K ct (o.wi lo) (upd H l (.lst vs')) k' c' := fun c0 h0 hs hc hn => by
      obtain ⟨cd, dx, vfs, h1, h2, h3, h4, h5, h6⟩ := (r.s.cell k' c0 h0).ex
      have hk : k' < o.n := by
        have := r.s.n
        have h : (o.wi lo).n = o.n := rfl
        rw [← h, this]
        exact (List.getElem?_eq_some_iff.mp h0).1
      refine ⟨cd, dx, vfs, by rw [hc]; exact h1, (upd_ne (apart k' hk)).trans h2, by rw [hn]; exact h3, h4, h5, fun jj f s f1 f2 => ?_⟩
      rcases hs s jj f2 with ⟨rfl, rfl, rfl⟩ | ⟨ne, f2⟩
      · rw [e1] at h0; cases h0
        have q' := h6 jj f _ f1 e2
        obtain ⟨l', vs2, q1, q2, q3, q4⟩ := q'
        have q1' : o.fo k' jj = some l' := q1
        rw [hl] at q1'; cases q1'
        exact ⟨l, vs', q1, q2, upd_same, q.mono m⟩
      · have q' := h6 jj f s f1 f2
        cases s with
        | no => exact q'
        | val d =>
          obtain ⟨q1, x', q2, q3⟩ := q'
          exact ⟨q1, x', q2, q3.mono m⟩
        | own es =>
          obtain ⟨l', vs2, q1, q2, q3, q4⟩ := q'
          refine ⟨l', vs2, q1, q2, ?_, q4.mono m⟩
          rw [upd_ne (show l' ≠ l from fun z => ne (r.s.foI k' jj k j l (z ▸ q1) hl))]
          exact q3
    by_cases e0 : k = k'
    · subst e0
      rw [List.getElem?_set_self ck] at e
      cases e
      refine main c e1 (fun s jj h => ?_) rfl (by simp)
      by_cases ej : j = jj
      · subst ej
        have h : (c.fs.set j (.own ds'))[j]? = some s := h
        rw [List.getElem?_set_self cj] at h
        cases h
        exact .inl ⟨rfl, rfl, rfl⟩
      · have h : (c.fs.set j (.own ds'))[jj]? = some s := h
        rw [List.getElem?_set_ne ej] at h
        exact .inr ⟨fun z => ej z.2.symm, h⟩
    · rw [List.getElem?_set_ne e0] at e
      exact main c' e (fun s jj h => .inr ⟨fun z => e0 z.1.symm, h⟩) rfl rfl
  · obtain ⟨c0, es, h1, h2⟩ := r.s.foS k' j' l' h
    by_cases e0 : k = k'
    · subst e0
      rw [e1] at h1; cases h1
      refine ⟨_, if j = j' then ds' else es, List.getElem?_set_self ck, ?_⟩
      show (c.fs.set j (.own ds'))[j']? = _
      by_cases ej : j = j'
      · subst ej
        rw [List.getElem?_set_self cj, if_pos rfl]
      · rw [List.getElem?_set_ne ej, if_neg ej]
        exact h2
    · exact ⟨c0, es, by rw [List.getElem?_set_ne e0]; exact h1, h2⟩
  · obtain ⟨l', vs2, q1, q2, q3, q4⟩ := r.w i es h
    exact ⟨l', vs2, q1, q2, by rw [upd_ne (show l' ≠ l from fun z => r.nh i l' q1 (z ▸ hot))]; exact q3, q4.mono m⟩
  · refine ⟨fun a u h n => ?_, fun a u h => ?_, r.x.n, r.x.r, r.x.badS, r.x.badN, r.x.hotN, r.x.f⟩
    · refine (upd_ne fun z => ?_).trans (r.x.keep a u h n)
      subst z
      rcases r.x.hotN a hot with z | z
      · exact n z
      · rw [h] at z; cases z
    · obtain ⟨u', q⟩ := r.x.there a u h
      exact thereU hH q
end

/-! ### append, extend -/
def D.items2 : D → Option (List D)
  | .lst xs => some xs
  | .tup xs => some xs
  | _ => none
/-- what is added: one item; the items of a list, of a tuple -/
def addOne (d : D) : Option (List D) := some [d]
def sadd (i : Nat) (f : D → Option (List D)) (t : Ex) : St := fun G S => match t G S with
  | .ok d S1 => match G[i]?, f d with
    | some (.own ds), some es => if ds.length + es.length ≤ 16777216 then .nx (G.set i (.own (ds ++ es))) S1 else .bad
    | _, _ => .bad
  | _ => .bad
def sfadd (to : Ex) (f : D → Option (List D)) (t : Ex) : St := fun G S => match to G S with
  | .ok (.fl k j) S0 => match t G S0 with
    | .ok d S1 => match deref S1 (.fl k j), f d with
      | .lst ds, some es => if ds.length + es.length ≤ 16777216 then .nx G (fput S1 k j (ds ++ es)) else .bad
      | _, _ => .bad
    | _ => .bad
  | _ => .bad
theorem meets_extT (l : Addr) (items : Array Value) (n : Nat) (b : Addr) (items2 : Array Value) (n2 : Nat) (hs0 : ¬(!items.isEmpty && Builtin.List.listTooLong (items.size + items2.size)) = true) (hs1 : items.size ≤ sizeLine) (hs2 : items.size + items2.size ≤ sizeLine + 1) :
    Meets (Builtin.«list.extend» ⟨[.ref l, .ref b], []⟩) (fun _ R s => s.heap.get? l = some { cls := .type "list", dict := none, data := .seq items n, slots := #[] } ∧ (∃ o, s.heap.get? b = some o ∧ o.cls = .type "tuple" ∧ o.data = .seq items2 n2) ∧
      R (.ok (.ret Value.none)) { s with heap := s.heap.update l (Obj.mapSeq fun x => x ++ items2), toks := s.toks }) := by
  intro prog w A R s ⟨hl, ⟨o, ho, hc, hd⟩, hR⟩
  show wpAny _ A.in1 (Builtin.List.listExtendWith (.ref l) (.ref b) .none) _ _ s
  unfold Builtin.List.listExtendWith
  refine wpAny_bind (wpAny_typeOf ⟨o, ho, hc⟩ ?_)
  have h1 : (Builtin.List.listSameRef (.ref l) (.ref b) || Value.type "tuple" == Value.type "list" || Value.type "tuple" == Value.type "tuple") = true := by simp
  simp only [h1, if_true]
  refine wpAny_bind ?_
  unfold Builtin.List.listItems
  refine wpAny_bind (wpAny_seqItems ho hd (wpAny_pure ?_))
  refine wpAny_bind ?_
  refine wpAny_bind (wpAny_seqItems hl rfl (wpAny_pure ?_))
  rw [if_neg hs0]
  show wpAny _ A.in1 (updateSeq l (· ++ items2) >>= fun _ => ret .none) _ _ s
  have hz' : (items ++ items2).size ≤ sizeLine + 1 := by rw [Array.size_append]; exact hs2
  refine wpAny_bind (wpAny_updateSeq hl rfl (hz := hs1) (_hz' := hz') ?_)
  exact wpAny_pure hR
def rExtT (K : PySem.W.Frag) : V → List V → Hp → VK → Prop := fun x vs H Q => ∃ l b xs zs, x = .ref l ∧ vs = [.ref b] ∧ H l = some (.lst xs) ∧ SqT K H b zs ∧ xs.length + zs.length ≤ sizeLine ∧ Q .non (upd H l (.lst (xs ++ zs)))
theorem mt_extT {X : Cx} : MtM X "list.extend" (rExtT X.K) := by
  intro pins s σ H x vs v us Q I rx rv h
  obtain ⟨l, b, xs, zs, rfl, rfl, hH, hB, hz, q⟩ := h
  cases rx
  obtain ⟨u, rfl, ru⟩ := rv.one
  cases ru
  obtain ⟨z, its, n, r, hl, e⟩ := I.lstM hH
  obtain ⟨its2, r2, ⟨ob, e2, c2, n2, d2⟩, z2⟩ := I.tuple hB
  have hl2 := r2.length
  have hlong : ¬ (!its.toArray.isEmpty && Builtin.List.listTooLong (its.toArray.size + its2.toArray.size)) = true := by
    have : Builtin.List.listTooLong (its.toArray.size + its2.toArray.size) = false := by
      unfold Builtin.List.listTooLong
      refine decide_eq_false ?_
      rw [List.size_toArray, List.size_toArray]
      have := line63
      omega
    rw [this, Bool.and_false]
    exact Bool.false_ne_true
  refine call_meets PySem.F.slot_list_extend ⟨_, e, rfl⟩ PySem.F.entry_list_extend (PySem.F.args_list_extend_2 _ _)
    (meets_extT l its.toArray n b its2.toArray n2 hlong (by rw [List.size_toArray]; omega) (by rw [List.size_toArray, List.size_toArray]; omega)) ⟨e, ⟨ob, e2, c2, d2⟩, ?_⟩
  refine ⟨.non, _, I.lset (its' := its ++ its2) hH e (by simp) (r.append r2) ?_, rfl, q⟩
  rw [List.length_append]
  omega
section
variable {X : Cx} {ct : CT} {W : Wish} {e oe ie : Expr} {t to ti : Ex} {pos pos' apos p : Pos} {x : Str} {f : D → Option (List D)} {id : String} {nm : Str} {r : V → List V → Hp → VK → Prop}
/-- a method that adds to a list -/
def AddR (K : PySem.W.Frag) (f : D → Option (List D)) (r : V → List V → Hp → VK → Prop) : Prop := ∀ (o : Om) (l : Addr) (y : V) (d : D) (es : List D) (xs : List V) (H : Hp) (Q : VK), Rep K o H y d → f d = some es → H l = some (.lst xs) → xs.length + es.length ≤ 16777216 →
  (∀ zs, RepL K o H zs es → Q .non (upd H l (.lst (xs ++ zs)))) → r (.ref l) [y] H Q
theorem add_one {K : PySem.W.Frag} : AddR K addOne rAppend := fun o l y d es xs H Q ry e hl hz k => by
  cases e
  exact ⟨l, xs, y, rfl, rfl, hl, by rw [sizeLine_eq]; exact hz, k [y] (.cons ry .nil)⟩
def rExt2 (K : PySem.W.Frag) : V → List V → Hp → VK → Prop := fun x vs H Q => rExtend x vs H Q ∨ rExtT K x vs H Q
theorem mt_ext2 : MtM X "list.extend" (rExt2 X.K) := fun pins s σ H x vs v us Q I rx rv h => h.elim (mt_extend pins s σ H x vs v us Q I rx rv) (mt_extT pins s σ H x vs v us Q I rx rv)
theorem add_ext {K : PySem.W.Frag} : AddR K D.items2 (rExt2 K) := fun o l y d es xs H Q ry e hl hz k => by
  cases ry with
  | lst h _ rs =>
    cases e
    exact .inl ⟨l, _, xs, _, rfl, rfl, hl, h, by rw [sizeLine_eq, rs.length]; exact hz, k _ rs⟩
  | tup h rs =>
    cases e
    exact .inr ⟨l, _, xs, _, rfl, rfl, hl, h, by rw [sizeLine_eq, rs.length]; exact hz, k _ rs⟩
  | _ => cases e
theorem psd_add {i : Nat} {cpos : Pos} (ad : AddR X.K f r) (sl : PySem.Slot "list" nm id) (hty : typeOf (.builtin id) = pure (.type "method_descriptor")) (hm : MtM X id r) (h : PM X ct e t) (hN : X.N[i]? = some x) (hv : Vis X.env.scope x)
    (hd : (x == ("__debug__" : Str)) = false := by decide) (hcd : (x == ("__classdict__" : Str)) = false := by decide)
    (hbase : attributeBase (.Name x p) nm X.env (eval (.Name x p) X.env) = eval (.Name x p) X.env := by rfl) (hline : (apos.endLine == cpos.line) = true := by rfl) (hs : starEach [e] X.env = (false, eval e X.env) :: starEach [] X.env := by rfl)
    (hfew : ((backTo cpos (starEach [e] X.env)).all (fun x => !x.1) && (backToKw cpos (keywordEach [] X.env)).all (fun x => x.1.isSome)
      && decide (([e] : List Expr).length + ([] : List Keyword).length + (if ([] : List Keyword).isEmpty then 0 else 1) < 30)) = true := by rfl)
    (hpl : (backTo cpos (starEach [] X.env)).any (·.1) = false := by rfl) (hsw : swapsWith (.Call (.Attribute (.Name x p) nm apos) [e] [] cpos) none pos.line X.env = pure false := by rfl) :
    PSD X ct (.Expr (.Call (.Attribute (.Name x p) nm apos) [e] [] cpos) pos) (sadd i f t) := fun A =>
  PS.wk (ps_expr (pe_bm PySem.F.plainAttrs_list sl hty hm (pe_var hN hv hd hcd) (pa_cons (h A) pa_nil hs) hbase hfew hline hs hpl) hsw) fun D σ H ⟨o, lo, G, S, r, q⟩ => by
    unfold sadd at q
    cases ev : t G S with
    | ok d S1 =>
      rw [ev] at q
      dsimp only at q
      split at q
      · rename_i ds es hi hf
        split at q
        · rename_i hz
          obtain ⟨l, vs, q1, q2, q3, q4⟩ := r.w i ds hi
          refine ⟨.ref l, q2, .inl ⟨rfl, vs, .of q3⟩, o, lo, G, S, r, ?_⟩
          rw [ev]
          intro o1 v H1 T rv
          have kl := T.k i l _ q1 q3
          obtain ⟨l2, vs2, p1, p2, p3, p4⟩ := T.r.w i ds hi
          rw [q1] at p1; cases p1
          refine ad (o1.wi lo) l v d es vs2 H1 _ rv hf p3 (by rw [p4.length]; exact hz) fun zs rz => ?_
          obtain ⟨r3, m3⟩ := T.r.put hi q1 p3 (p4.append rz)
          exact q o1 lo σ _ r3 (T.m.trans m3)
        · exact q.elim
      · exact q.elim
    | exc x S1 => rw [ev] at q; exact q.elim
    | bad => rw [ev] at q; exact q.elim
theorem psd_fadd {cpos : Pos} (ad : AddR X.K f r) (sl : PySem.Slot "list" nm id) (hty : typeOf (.builtin id) = pure (.type "method_descriptor")) (hm : MtM X id r) (ho : PM X ct oe to) (h : PM X ct e t)
    (hbase : attributeBase oe nm X.env (eval oe X.env) = eval oe X.env := by rfl) (hline : (apos.endLine == cpos.line) = true := by rfl) (hs : starEach [e] X.env = (false, eval e X.env) :: starEach [] X.env := by rfl)
    (hfew : ((backTo cpos (starEach [e] X.env)).all (fun x => !x.1) && (backToKw cpos (keywordEach [] X.env)).all (fun x => x.1.isSome)
      && decide (([e] : List Expr).length + ([] : List Keyword).length + (if ([] : List Keyword).isEmpty then 0 else 1) < 30)) = true := by rfl)
    (hpl : (backTo cpos (starEach [] X.env)).any (·.1) = false := by rfl) (hsw : swapsWith (.Call (.Attribute oe nm apos) [e] [] cpos) none pos.line X.env = pure false := by rfl) :
    PSD X ct (.Expr (.Call (.Attribute oe nm apos) [e] [] cpos) pos) (sfadd to f t) := fun A =>
  PS.wk (ps_expr (pe_bm PySem.F.plainAttrs_list sl hty hm (ho A) (pa_cons (h A) pa_nil hs) hbase hfew hline hs hpl) hsw) fun D σ H ⟨o, lo, G, S, r, q⟩ => by
    unfold sfadd at q
    refine ⟨o, lo, G, S, r, ?_⟩
    cases ev0 : to G S with
    | ok d0 S0 =>
      rw [ev0] at q
      intro o0 v0 H0 T0 rv0
      cases rv0 with
      | @fl k j l hk =>
        dsimp only at q
        obtain ⟨c0, ds0, vs0, a1, a2, a3, a4, a5⟩ := T0.r.s.fl hk
        refine ⟨.inl ⟨rfl, vs0, .of a3⟩, o0, lo, G, S0, T0.r, ?_⟩
        cases ev : t G S0 with
        | ok d S1 =>
          rw [ev] at q
          dsimp only at q
          intro o1 v H1 T rv
          have hk1 : o1.fo k j = some l := T.m.f k j l hk
          obtain ⟨c1, ds1, vs1, b1, b2, b3, b4, b5⟩ := T.r.s.fl (k := k) (j := j) (a := l) hk1
          rw [b5] at q
          cases hf : f d with
          | none => rw [hf] at q; exact q.elim
          | some es =>
            rw [hf] at q
            dsimp only at q
            split at q
            · rename_i hz
              refine ad (o1.wi lo) l v d es vs1 H1 _ rv hf b3 (by rw [b4.length]; exact hz) fun zs rz => ?_
              obtain ⟨r3, m3⟩ := T.r.fput hk1 b3 (b4.append rz)
              exact q o1 lo σ _ r3 ((T0.m.trans T.m).trans m3)
            · exact q.elim
        | exc x S1 => rw [ev] at q; exact q.elim
        | bad => rw [ev] at q; exact q.elim
      | _ => exact q.elim
    | exc x S1 => rw [ev0] at q; exact q.elim
    | bad => rw [ev0] at q; exact q.elim

/-! ### xs[i] = v, xs[i] op= v -/
def sput (i : Nat) (ti t : Ex) : St := fun G S => match t G S with
  | .ok d S1 => match ti G S1 with
    | .ok (.int k) S2 => match G[i]? with
      | some (.own ds) => match ixN ds.length k with
        | some j => .nx (G.set i (.own (ds.set j d))) S2
        | none => .bad
      | _ => .bad
    | _ => .bad
  | _ => .bad
def sfput (to ti t : Ex) : St := fun G S => match t G S with
  | .ok d S1 => match to G S1 with
    | .ok (.fl k j) S2 => match ti G S2 with
      | .ok (.int m) S3 => match deref S3 (.fl k j) with
        | .lst ds => match ixN ds.length m with
          | some n => .nx G (fput S3 k j (ds.set n d))
          | none => .bad
        | _ => .bad
      | _ => .bad
    | _ => .bad
  | _ => .bad
def sputa (i : Nat) (f : D → D → Option D) (ti t : Ex) : St := fun G S => match ti G S with
  | .ok (.int k) S1 => match t G S1 with
    | .ok d S2 => match G[i]? with
      | some (.own ds) => match ixN ds.length k with
        | some j => match ds[j]? with
          | some d0 => match f d0 d with
            | some z => .nx (G.set i (.own (ds.set j z))) S2
            | none => .bad
          | none => .bad
        | none => .bad
      | _ => .bad
    | _ => .bad
  | _ => .bad
theorem psd_put {i : Nat} {tpos : Pos} (h : PM X ct e t) (hi : PM X ct ie ti) (hN : X.N[i]? = some x) (hv : Vis X.env.scope x)
    (hs : swapsWithSole [.Subscript (.Name x p) ie tpos] e pos.line X.env = pure false) (hw : swappedStores [.Subscript (.Name x p) ie tpos] e X.env = pure none)
    (hd : (x == ("__debug__" : Str)) = false := by decide) (hcd : (x == ("__classdict__" : Str)) = false := by decide)
    (ha : ∀ v, assign (.Subscript (.Name x p) ie tpos) X.env v = (do
      let ov ← holding [v] (eval (.Name x p) X.env)
      let iv ← holding [v, ov] (eval ie X.env)
      standAt tpos
      holding [v, ov, iv] (setItem ov iv v)
      release [v, ov, iv] []) := by intro _; rfl) (h1 : (assignEach [.Subscript (.Name x p) ie tpos] X.env).map (·.2) = [assign (.Subscript (.Name x p) ie tpos) X.env] := by rfl) :
    PSD X ct (.Assign [.Subscript (.Name x p) ie tpos] e pos) (sput i ti t) := fun A =>
  PS.wk (ps_asg (h A) (pg_sub (pe_var hN hv hd hcd) (hi A) set_list ha) hs hw h1) fun D σ H ⟨o, lo, G, S, r, q⟩ => by
    unfold sput at q
    refine ⟨o, lo, G, S, r, ?_⟩
    cases ev : t G S with
    | ok d S1 =>
      rw [ev] at q
      dsimp only at q
      intro o1 v H1 T rv
      cases ev2 : ti G S1 with
      | ok d2 S2 =>
        rw [ev2] at q
        split at q
        · rename_i d2 k S2' ed
          cases ed
          split at q
          · rename_i ds hg
            obtain ⟨l, vs, q1, q2, q3, q4⟩ := T.r.w i ds hg
            refine ⟨.ref l, q2, o1, lo, G, S1, T.r, ?_⟩
            rw [ev2]
            intro o2 w H2 T2 rw2
            cases rw2 with
            | int =>
            cases hj : ixN ds.length k with
            | none => rw [hj] at q; exact q.elim
            | some j =>
              rw [hj] at q
              obtain ⟨l2, vs2, p1, p2, p3, p4⟩ := T2.r.w i ds hg
              rw [q1] at p1; cases p1
              obtain ⟨r3, m3⟩ := T2.r.put hg q1 p3 (p4.set (rv.mono T2.m) j)
              exact ⟨l, vs2, k, j, rfl, rfl, p3, by rw [p4.length]; exact hj, q o2 lo σ _ r3 ((T.m.trans T2.m).trans m3)⟩
          · exact q.elim
        · exact q.elim
      | exc x S1 => rw [ev2] at q; exact q.elim
      | bad => rw [ev2] at q; exact q.elim
    | exc x S1 => rw [ev] at q; exact q.elim
    | bad => rw [ev] at q; exact q.elim
theorem psd_fput {tpos : Pos} (h : PM X ct e t) (ho : PM X ct oe to) (hi : PM X ct ie ti) (hs : swapsWithSole [.Subscript oe ie tpos] e pos.line X.env = pure false) (hw : swappedStores [.Subscript oe ie tpos] e X.env = pure none)
    (ha : ∀ v, assign (.Subscript oe ie tpos) X.env v = (do
      let ov ← holding [v] (eval oe X.env)
      let iv ← holding [v, ov] (eval ie X.env)
      standAt tpos
      holding [v, ov, iv] (setItem ov iv v)
      release [v, ov, iv] []) := by intro _; rfl) (h1 : (assignEach [.Subscript oe ie tpos] X.env).map (·.2) = [assign (.Subscript oe ie tpos) X.env] := by rfl) :
    PSD X ct (.Assign [.Subscript oe ie tpos] e pos) (sfput to ti t) := fun A =>
  PS.wk (ps_asg (h A) (pg_sub (ho A) (hi A) set_list ha) hs hw h1) fun D σ H ⟨o, lo, G, S, r, q⟩ => by
    unfold sfput at q
    refine ⟨o, lo, G, S, r, ?_⟩
    cases ev : t G S with
    | ok d S1 =>
      rw [ev] at q
      dsimp only at q
      intro o1 v H1 T rv
      refine ⟨o1, lo, G, S1, T.r, ?_⟩
      cases ev0 : to G S1 with
      | ok d0 S0 =>
        rw [ev0] at q
        intro o0 v0 H0 T0 rv0
        cases rv0 with
        | @fl k j l hk =>
          dsimp only at q
          refine ⟨o0, lo, G, S0, T0.r, ?_⟩
          cases ev2 : ti G S0 with
          | ok d2 S2 =>
            rw [ev2] at q
            intro o2 w H2 T2 rw2
            cases rw2 with
            | @int m =>
              dsimp only at q
              have hk1 : o2.fo k j = some l := T2.m.f k j l hk
              obtain ⟨c1, ds1, vs1, b1, b2, b3, b4, b5⟩ := T2.r.s.fl (k := k) (j := j) (a := l) hk1
              rw [b5] at q
              dsimp only at q
              cases hj : ixN ds1.length m with
              | none => rw [hj] at q; exact q.elim
              | some n =>
                rw [hj] at q
                obtain ⟨r3, m3⟩ := T2.r.fput hk1 b3 (b4.set (rv.mono (T0.m.trans T2.m)) n)
                exact ⟨l, vs1, m, n, rfl, rfl, b3, by rw [b4.length]; exact hj, q o2 lo σ _ r3 ((T.m.trans (T0.m.trans T2.m)).trans m3)⟩
            | _ => exact q.elim
          | exc x S1 => rw [ev2] at q; exact q.elim
          | bad => rw [ev2] at q; exact q.elim
        | _ => exact q.elim
      | exc x S1 => rw [ev0] at q; exact q.elim
      | bad => rw [ev0] at q; exact q.elim
    | exc x S1 => rw [ev] at q; exact q.elim
    | bad => rw [ev] at q; exact q.elim
end
end DL

end
section
set_option maxRecDepth 100000
set_option maxHeartbeats 2000000
/-! The data layer: comprehensions; an item changed by an operator. -/
namespace DL
open PySem PySem.Spec PyProof.Rows L2

section
variable {X : Cx} {ct : CT} {W : Wish} {e oe ie : Expr} {t to ti : Ex} {pos pos' apos p : Pos} {x : Str}
theorem get_list : PGet X (rIxL X.K) := by
  intro pins s σ H ov iv v u Q I rx ry h
  obtain ⟨p, xs, i, z, rfl, rfl, hq, he, q⟩ := h
  cases rx
  obtain ⟨t, rfl⟩ := ry
  obtain ⟨its, r, pl, hz⟩ := I.list hq
  obtain ⟨j, h1, h2, h3, h4, h5⟩ := atI_get he
  obtain ⟨w, ew, rw'⟩ := r.get h2
  have hl := r.length
  have hn := line63
  have fin : EP X pins σ Q w s := ⟨z, H, I, rw', q⟩
  by_cases h0 : 0 ≤ i
  · have hj : i.toNat = j := by
      rw [seqIndex_of h0 h5] at h1
      exact Option.some.inj h1
    exact wpAny_getItem_list pl.isList h0 (by omega) (by rw [hj]; simpa using ew) fin
  · have hj : (i + (its.toArray.size : Int)).toNat = j := by
      rw [seqIndex_neg (by omega) h4] at h1
      rw [List.size_toArray, ← hl]
      exact Option.some.inj h1
    exact wpAny_getItem_list_neg pl.isList (by omega) (by rw [List.size_toArray] <;> omega) (by omega) (by rw [hj]; simpa using ew) fin
theorem psd_puta {i : Nat} {tpos : Pos} {op : Operator} {f : D → D → Option D} (h : PM X ct e t) (hi : PM X ct ie ti) (hop : OpS X ct (inplaceOp op) f) (hN : X.N[i]? = some x) (hv : Vis X.env.scope x)
    (hd : (x == ("__debug__" : Str)) = false := by decide) (hcd : (x == ("__classdict__" : Str)) = false := by decide)
    (ha : ∀ ov iv new, augStore ie ov iv new = (do holding [new, ov, iv] (setItem ov iv new); release [new, ov, iv] []; pure .next) := by intros; rfl) :
    PSD X ct (.AugAssign (.Subscript (.Name x p) ie tpos) op e pos) (sputa i f ti t) := fun A =>
  PS.wk (ps_augS (pe_var hN hv hd hcd) (hi A) get_list (h A) hop set_list ha) fun D σ H ⟨o, lo, G, S, r, q⟩ => by
    unfold sputa at q
    cases ev : ti G S with
    | ok d2 S2 =>
      rw [ev] at q
      split at q
      · rename_i d2 k S1 ed
        cases ed
        cases ev2 : t G S2 with
        | ok d S3 =>
          rw [ev2] at q
          dsimp only at q
          split at q
          · rename_i ds hg
            obtain ⟨l, vs, q1, q2, q3, q4⟩ := r.w i ds hg
            refine ⟨.ref l, q2, o, lo, G, S, r, ?_⟩
            rw [ev]
            intro o1 w H1 T rw2
            cases rw2 with
            | int =>
            cases hj : ixN ds.length k with
            | none => rw [hj] at q; exact q.elim
            | some j =>
              rw [hj] at q
              dsimp only at q
              cases hd0 : ds[j]? with
              | none => rw [hd0] at q; exact q.elim
              | some d0 =>
                rw [hd0] at q
                dsimp only at q
                obtain ⟨l1, vs1, p1, p2, p3, p4⟩ := T.r.w i ds hg
                rw [q1] at p1; cases p1
                obtain ⟨v0, hv0, rv0⟩ := p4.get hd0
                refine ⟨l, vs1, k, v0, rfl, rfl, .of p3, ?_, o1, lo, G, S2, T.r, ?_⟩
                · unfold atI
                  rw [p4.length, hj]
                  exact hv0
                · rw [ev2]
                  intro o2 v H2 T2 rv
                  cases hz : f d0 d with
                  | none => rw [hz] at q; exact q.elim
                  | some z =>
                    rw [hz] at q
                    refine ⟨o2.wi lo, S3, d0, d, z, T2.r.s, rv0.mono T2.m, rv, hz, fun o' w3 H3 x3 s3 r3 => ?_⟩
                    obtain ⟨o3, e3, r4⟩ := T2.r.afterS x3 s3
                    subst e3
                    obtain ⟨l2, vs2, n1, n2, n3, n4⟩ := r4.w i ds hg
                    rw [q1] at n1; cases n1
                    obtain ⟨r5, m5⟩ := r4.put hg q1 n3 (n4.set r3 j)
                    exact ⟨l, vs2, k, j, rfl, rfl, n3, by rw [n4.length]; exact hj, q o3 lo σ _ r5 ((T.m.trans (T2.m.trans (x3.mono T2.r.s))).trans m5)⟩
          · exact q.elim
        | exc x S1 => rw [ev2] at q; exact q.elim
        | bad => rw [ev2] at q; exact q.elim
      · exact q.elim
    | exc x S1 => rw [ev] at q; exact q.elim
    | bad => rw [ev] at q; exact q.elim
end

/-! ### targets of a block -/
mutual
def Tg.names : Tg → List Nat
  | .nm i => [i]
  | .tp ts => Tg.namess ts
def Tg.namess : List Tg → List Nat
  | [] => []
  | t :: ts => Tg.names t ++ Tg.namess ts
end
def Only (ns : List Nat) (σ σ' : L2.St) : Prop := ∀ vs : List Nat, (∀ i ∈ ns, i ∈ vs) → wipe σ' vs = wipe σ vs
theorem wipe_set {σ : L2.St} {i : Nat} {v : Option V} : ∀ {vs : List Nat}, i ∈ vs → wipe (σ.set i v) vs = wipe σ vs
  | [], h => by simp at h
  | k :: vs, h => by
    show (wipe (σ.set i v) vs).set k none = (wipe σ vs).set k none
    by_cases hk : i ∈ vs
    · rw [wipe_set hk]
    · have e : i = k := by
        rcases List.mem_cons.mp h with e | e
        · exact e
        · exact absurd e hk
      subst e
      have aux : ∀ (us : List Nat) (τ : L2.St), i ∉ us → wipe (τ.set i v) us = (wipe τ us).set i v := by
        intro us
        induction us with
        | nil => intro τ _; rfl
        | cons j us ih =>
          intro τ hj
          show (wipe (τ.set i v) us).set j none = ((wipe τ us).set j none).set i v
          rw [ih τ (fun z => hj (List.mem_cons_of_mem _ z))]
          exact List.set_comm _ _ (fun z => hj (z ▸ List.mem_cons_self))
      rw [aux vs σ hk, List.set_set]
theorem wipe_wipe {σ : L2.St} (vs : List Nat) : wipe (wipe σ vs) vs = wipe σ vs := by
  have aux : ∀ (us : List Nat) (τ : L2.St), (∀ i ∈ us, i ∈ vs) → wipe (wipe τ us) vs = wipe τ vs := by
    intro us
    induction us with
    | nil => intro τ _; rfl
    | cons j us ih =>
      intro τ h
      show wipe ((wipe τ us).set j none) vs = wipe τ vs
      rw [wipe_set (h j List.mem_cons_self)]
      exact ih τ fun i hi => h i (List.mem_cons_of_mem _ hi)
  exact aux vs σ fun _ h => h
def gE (K : PySem.W.Frag) (ct : CT) (g : Tg) : TG := fun v σ H Q => ∃ o G S d G', ERel K ct o G S σ H ∧ Rep K o H v d ∧ g.put d G = some G' ∧ ∀ σ', ERel K ct o G' S σ' H → Only g.names σ σ' → Q σ' H
def gEs (K : PySem.W.Frag) (ct : CT) (g : List Tg) : TGs := fun v σ H Q => ∃ o G S d G', ERel K ct o G S σ H ∧ RepL K o H v d ∧ Tg.puts g d G = some G' ∧ ∀ σ', ERel K ct o G' S σ' H → Only (Tg.namess g) σ σ' → Q σ' H
abbrev PGE (X : Cx) (ct : CT) (tg : Expr) (g : Tg) : Prop := PG X tg (gE X.K ct g)
abbrev PGEs (X : Cx) (ct : CT) (tg : List Expr) (g : List Tg) : Prop := PGs X tg (gEs X.K ct g)
section
variable {K : PySem.W.Frag} {ct : CT} {o : Om} {G : Env} {S : Store} {σ : L2.St} {H : Hp}
theorem ERel.set (r : ERel K ct o G S σ H) {i : Nat} {v : V} {d : D} (h : Rep K o H v d) : ERel K ct o (G.set i (.val d)) S (σ.set i (some v)) H := by
  refine ⟨r.s, by rw [List.length_set, List.length_set]; exact r.len, fun j e q => ?_⟩
  unfold look at q
  by_cases z : i = j
  · subst z
    by_cases lt : i < G.length
    · rw [List.getElem?_set_self lt] at q
      cases q
      exact ⟨v, by rw [List.getElem?_set_self (by rw [← r.len]; exact lt)], h⟩
    · rw [List.getElem?_eq_none (by rw [List.length_set]; omega)] at q
      cases q
  · rw [List.getElem?_set_ne z] at q
    rw [List.getElem?_set_ne z]
    exact r.v j e q
def wipeG (G : Env) : List Nat → Env
  | [] => G
  | v :: vs => (wipeG G vs).set v .no
theorem ERel.wipe (r : ERel K ct o G S σ H) : ∀ vs : List Nat, ERel K ct o (wipeG G vs) S (L2.wipe σ vs) H
  | [] => r
  | k :: vs => by
    have q := ERel.wipe r vs
    refine ⟨q.s, by show ((wipeG G vs).set k .no).length = ((L2.wipe σ vs).set k none).length; rw [List.length_set, List.length_set]; exact q.len, fun j e h => ?_⟩
    have h : look ((wipeG G vs).set k .no) j = some e := h
    show ∃ x, ((L2.wipe σ vs).set k none)[j]? = some (some x) ∧ _
    unfold look at h
    by_cases z : k = j
    · subst z
      by_cases lt : k < (wipeG G vs).length
      · rw [List.getElem?_set_self lt] at h; cases h
      · rw [List.getElem?_eq_none (by rw [List.length_set]; omega)] at h; cases h
    · rw [List.getElem?_set_ne z] at h
      rw [List.getElem?_set_ne z]
      exact q.v j e h
theorem ERel.mono {o' : Om} {S' : Store} {H' : Hp} (r : ERel K ct o G S σ H) (m : Mono K o o' H H') (s : SRel K ct o' S' H') : ERel K ct o' G S' σ H' :=
  ⟨s, r.len, fun i d h => let ⟨x, e, q⟩ := r.v i d h; ⟨x, e, q.mono m⟩⟩
end
section
variable {X : Cx} {ct : CT} {W : Wish} {e : Expr} {es : List Expr} {pos : Pos} {x : Str} {g : Tg} {gs : List Tg}
theorem pge_name {i : Nat} (hN : X.N.Nodup) (hi : X.N[i]? = some x) (hx : Loc X.env.scope x) (hf : X.fn x = true ∨ X.env.scope.names.lookup x = some .local) : PGE X ct (.Name x pos) (.nm i) :=
  PG.wk (pg_name hN hi hx hf) fun v σ H Q ⟨o, G, S, d, G', r, rv, e, q⟩ => by
    cases e
    exact q _ (r.set rv) fun vs h => wipe_set (h i (by simp [Tg.names]))
theorem pges_nil : PGEs X ct [] [] := PGs.wk pgs_nil fun v σ H Q ⟨o, G, S, d, G', r, rv, e, q⟩ => by
  cases rv with
  | nil => cases e; exact ⟨rfl, q σ r fun _ _ => rfl⟩
  | cons _ _ => cases e
theorem pges_cons (h1 : PGE X ct e g) (h2 : PGEs X ct es gs) (hs : (assignEach (e :: es) X.env).map (·.2) = assign e X.env :: (assignEach es X.env).map (·.2) := by rfl) : PGEs X ct (e :: es) (g :: gs) :=
  PGs.wk (pgs_cons h1 h2 hs) fun v σ H Q ⟨o, G, S, d, G', r, rv, e, q⟩ => by
    cases rv with
    | nil => cases e
    | @cons v1 d1 vs ds r1 r2 =>
      have e : (Tg.put g d1 G).bind (Tg.puts gs ds) = some G' := e
      cases e1 : Tg.put g d1 G with
      | none => rw [e1] at e; cases e
      | some G1 =>
        rw [e1] at e
        refine ⟨_, _, rfl, o, G, S, d1, G1, r, r1, e1, fun σ1 ra on1 => ⟨o, G1, S, ds, G', ra, r2, e, fun σ2 rb on2 => q σ2 rb fun vs h => ?_⟩⟩
        rw [on2 vs fun i hi => h i (by show i ∈ Tg.names g ++ Tg.namess gs; exact List.mem_append_right _ hi), on1 vs fun i hi => h i (by show i ∈ Tg.names g ++ Tg.namess gs; exact List.mem_append_left _ hi)]
theorem pge_tup {k n : Nat} (hc : X.calm = true) (h : PGEs X ct es gs) (hl : gs.length = n) (hn : (assignEach es X.env).length = n) (hst : (assignEach es X.env).findIdx? (·.1) = none) : PGE X ct (.Tuple es k pos) (.tp gs) :=
  PG.wk (pg_tup hc h hn hst) fun v σ H Q ⟨o, G, S, d, G', r, rv, e, q⟩ => by
    cases rv with
    | @tup a vs ds ht rs => exact ⟨a, vs, rfl, ht, by rw [rs.length, puts_len (gs := gs) e, hl], o, G, S, ds, G', r, rs, e, q⟩
    | _ => cases e
end

/-! ### list comprehensions -/
def runLc (g : Tg) (tt : Tx) (te : Ex) (G : Env) : List D → Store → R (List D)
  | [], S => .ok [] S
  | d :: r, S => match g.put d G with
    | some G1 => match tt G1 S with
      | .ok true S1 => match te G1 S1 with
        | .ok y S2 => match runLc g tt te G r S2 with
          | .ok ys S3 => .ok (y :: ys) S3
          | _ => .bad
        | _ => .bad
      | .ok false S1 => runLc g tt te G r S1
      | _ => .bad
    | none => .bad
def elc (it : Ix) (g : Tg) (tt : Tx) (te : Ex) (vs : List Nat) : Ex := fun G S => (it G S).bind fun ds S1 => match runLc g tt te (wipeG G vs) ds S1 with
  | .ok ys S2 => if ds.length ≤ 16777216 then .ok (.lst ys) S2 else .bad
  | _ => .bad
def tyes : Tx := fun _ S => .ok true S
structure LcRel (K : PySem.W.Frag) (ct : CT) (o : Om) (H1 : Hp) (L : Addr) (o2 : Om) (acc : List D) (S2 : Store) (H2 : Hp) : Prop where
  s : SRel K ct (o2.plus (· = L)) S2 H2
  nb : ¬ o2.bad L
  nh : ¬ o2.hot L
  l : ∃ vs, H2 L = some (.lst vs) ∧ RepL K (o2.plus (· = L)) H2 vs acc
  x : Ext K o o2 H1 H2
  m : Mono K o (o2.plus (· = L)) H1 H2
section
variable {K : PySem.W.Frag} {ct : CT} {o o' o2 : Om} {S S1 S2 : Store} {H H1 H2 H3 : Hp} {L : Addr} {acc : List D}
theorem LcRel.start (s : SRel K ct o S H) (hL : H L = none) (hk : K.lookup L = none) : LcRel K ct o H L o [] S (upd H L (.lst [])) := by
  have ne : ∀ {b w}, H b = some w → b ≠ L := fun h z => by rw [z, hL] at h; cases h
  have kf : KF K (upd H L (.lst [])) := fun b u h => by
    by_cases e : b = L
    · rw [e]; exact hk
    · rw [upd_ne e] at h; exact s.kf b u h
  have m0 : Mono K o o H (upd H L (.lst [])) := Mono.grown hL
  have m : Mono K o (o.plus (· = L)) H (upd H L (.lst [])) := by
    refine ⟨m0.t, m0.l, m0.h, fun a xs h nb z => ?_, m0.n, m0.r, m0.f⟩
    rcases z with z | z
    · exact nb z
    · subst z
      rcases h with (h | ⟨ob, h⟩) | ⟨ob, its, n, h, _⟩
      · rw [hL] at h; cases h
      · rw [hL] at h; cases h
      · rw [hk] at h; cases h
  have nb : ¬ o.bad L := fun z => by obtain ⟨u, e⟩ := s.ba L z; rw [hL] at e; cases e
  refine ⟨⟨s.n, kf, fun k c e => ?_, s.inj, s.foI, s.foS, fun a z => .inl (s.hb a z), fun a z => ?_, s.cok⟩, nb, fun z => nb (s.hb L z), ⟨[], upd_same, .nil⟩, .grown hL, m⟩
  · obtain ⟨cd, dx, vfs, h1, h2, h3, h4, h5, h6⟩ := (s.cell k c e).ex
    refine ⟨cd, dx, vfs, h1, (upd_ne (ne h2)).trans h2, h3, h4, h5, fun j f sl e1 e2 => ?_⟩
    have q := h6 j f sl e1 e2
    cases sl with
    | no => exact q
    | val d =>
      obtain ⟨q1, x', q2, q3⟩ := q
      exact ⟨q1, x', q2, q3.mono m⟩
    | own ds =>
      obtain ⟨l, vs, q1, q2, q3, q4⟩ := q
      exact ⟨l, vs, q1, q2, (upd_ne (ne q3)).trans q3, q4.mono m⟩
  · rcases z with z | z
    · obtain ⟨u, e⟩ := s.ba a z
      exact ⟨u, (upd_ne (ne e)).trans e⟩
    · subst z; exact ⟨_, upd_same⟩
theorem LcRel.after (r : LcRel K ct o H1 L o2 acc S2 H2) (x : Ext K (o2.plus (· = L)) o' H2 H3) (s : SRel K ct o' S H3) : ∃ o3, o' = o3.plus (· = L) ∧ LcRel K ct o H1 L o3 acc S H3 := by
  have e : o' = ({ o' with bad := fun a => o'.bad a ∧ a ≠ L } : Om).plus (· = L) := by
    refine Om.ext rfl rfl rfl fun a => ⟨fun z => ?_, fun z => ?_⟩
    · by_cases q : a = L
      · exact .inr q
      · exact .inl ⟨z, q⟩
    · rcases z with ⟨z, _⟩ | z
      · exact z
      · exact x.badS a (.inr z)
  obtain ⟨vs, hl, rl⟩ := r.l
  have m := x.mono r.s
  refine ⟨_, e, e ▸ s, fun z => z.2 rfl, fun z => ?_, ⟨vs, x.keep _ _ hl fun z => r.nh z, e ▸ rl.mono m⟩, ?_, e ▸ r.m.trans m⟩
  · rcases x.hotN L z with z | z
    · exact r.nh z
    · rw [hl] at z; cases z
  · refine r.x.trans ⟨fun a u h n => x.keep a u h n, x.there, x.n, x.r, fun a z => ⟨x.badS a (.inl z), fun q => r.nb (q ▸ z)⟩, fun a z => ?_, fun a z => x.hotN a z, x.f⟩
    rcases x.badN a z.1 with (q | q) | q
    · exact .inl q
    · exact absurd q z.2
    · exact .inr q
theorem LcRel.grown {T : Addr} {w : HO} (r : LcRel K ct o H1 L o2 acc S2 H2) (hT : H2 T = none) (kf : KF K (upd H2 T w)) : LcRel K ct o H1 L o2 acc S2 (upd H2 T w) := by
  obtain ⟨vs, hl, rl⟩ := r.l
  have ne : ∀ {b w}, H2 b = some w → b ≠ T := fun h z => by rw [z, hT] at h; cases h
  exact ⟨r.s.grown hT kf, r.nb, r.nh, ⟨vs, (upd_ne (ne hl)).trans hl, rl.mono (.grown hT)⟩, r.x.trans (.grown hT), r.m.trans (.grown hT)⟩
theorem LcRel.app {y : V} {d : D} {vs : List V} (r : LcRel K ct o H1 L o2 acc S2 H2) (hl : H2 L = some (.lst vs)) (q : Rep K (o2.plus (· = L)) H2 y d) (fr : H1 L = none) : LcRel K ct o H1 L o2 (acc ++ [d]) S2 (upd H2 L (.lst (vs ++ [y]))) := by
  obtain ⟨vs', hl', rl⟩ := r.l
  rw [hl] at hl'; cases hl'
  have m : Mono K (o2.plus (· = L)) (o2.plus (· = L)) H2 (upd H2 L (.lst (vs ++ [y]))) := Mono.badU hl (.inr rfl) (r.s.kf _ _ hl)
  refine ⟨r.s.wrote hl (.inr rfl) r.nh, r.nb, r.nh, ⟨_, upd_same, (rl.append (.cons q .nil)).mono m⟩, ?_, r.m.trans m⟩
  refine ⟨fun a u h n => ?_, fun a u h => ?_, r.x.n, r.x.r, r.x.badS, r.x.badN, r.x.hotN, r.x.f⟩
  · rw [upd_ne (show a ≠ L from fun z => by rw [z, fr] at h; cases h)]
    exact r.x.keep a u h n
  · obtain ⟨u', q⟩ := r.x.there a u h
    exact thereU hl q
end
theorem runLc_cons {g : Tg} {tt : Tx} {te : Ex} {G : Env} {d : D} {r ys : List D} {S S' : Store} (h : runLc g tt te G (d :: r) S = .ok ys S') :
    ∃ G1 b S1, g.put d G = some G1 ∧ tt G1 S = .ok b S1 ∧ (b = false → runLc g tt te G r S1 = .ok ys S') ∧ (b = true → ∃ y S2 zs, te G1 S1 = .ok y S2 ∧ runLc g tt te G r S2 = .ok zs S' ∧ ys = y :: zs) := by
  unfold runLc at h
  split at h
  · rename_i G1 e1
    split at h
    · rename_i S1 e2
      split at h
      · rename_i y S2 e3
        split at h
        · rename_i zs S3 e4
          cases h
          exact ⟨G1, true, S1, e1, e2, (fun z => by cases z), fun _ => ⟨y, S2, zs, e3, e4, rfl⟩⟩
        · cases h
      · cases h
    · rename_i S1 e2
      exact ⟨G1, false, S1, e1, e2, fun _ => h, (fun z => by cases z)⟩
    · cases h
  · cases h
theorem lc_run {K : PySem.W.Frag} {ct : CT} {W' : Wish} {o1 : Om} {G : Env} {S1 S2 : Store} {σ : L2.St} {H1 : Hp} {J : It} {ds ys : List D} {g : Tg} {tt : Tx} {te : Ex} {vs : List Nat} (er : ERel K ct o1 G S1 σ H1) (w : WD K o1 H1 J ds)
    (run : runLc g tt te (wipeG G vs) ds S1 = .ok ys S2) (hz : ds.length ≤ 16777216) (sub : ∀ i ∈ g.names, i ∈ vs) {Q : VK}
    (k : ∀ o' L H' xs, Ext K o1 o' H1 H' → SRel K ct o' S2 H' → H1 L = none → H' L = some (.lst xs) → ¬ o'.bad L → RepL K o' H' xs ys → Q (.ref L) H') :
    ∀ D, H1 D = none → ∃ Wn : Nat → Nat → Hp → Prop, (∃ m, Wn 0 m (upd H1 D (.lst []))) ∧ ∀ i m H, Wn i m H →
      (J.stop i H ∧ (KF K H → Q (.ref D) H)) ∨ (J.go i H ∧ ∃ Nx : Hp → Prop, (∀ H', Nx H' → ∃ m', m' < m ∧ Wn (i + 1) m' H') ∧ ∀ x H', J.yld i H x H' → (KF K H' → gE K ct g x (wipe σ vs) H' fun σ2 H2 => wipe σ2 vs = wipe σ vs ∧ tDb K ct W' tt σ2 H2 fun b H3 =>
        if b = true then tD K ct W' te σ2 H3 fun y H4 => ∃ acc, H4 D = some (.lst acc) ∧ acc.length < sizeLine ∧ Nx (upd H4 D (.lst (acc ++ [y]))) else Nx H3)) := by
  intro L hL
  have hne : ∀ {T w}, (upd H1 L (.lst [])) T = none → (upd (upd H1 L (.lst [])) T w) L = some (.lst []) := fun {T w} h => by
    rw [upd_ne (show L ≠ T from fun z => by rw [← z, upd_same] at h; cases h), upd_same]
  cases hk : K.lookup L with
  | some ob =>
    refine ⟨fun i m H => i = 0 ∧ H = upd H1 L (.lst []), ⟨0, rfl, rfl⟩, ?_⟩
    rintro i m H ⟨rfl, rfl⟩
    have m0 : Mono K o1 o1 H1 (upd H1 L (.lst [])) := Mono.grown hL
    have bad : ∀ {H'}, H' L = some (.lst []) → KF K H' → False := fun h kf => by rw [kf _ _ h] at hk; cases hk
    by_cases h0 : ds.length = 0
    · exact .inl ⟨by rw [← h0]; exact w.stops _ _ m0, fun kf => (bad upd_same kf).elim⟩
    · refine .inr ⟨w.goes 0 _ _ (by omega) m0, fun _ => False, fun _ z => z.elim, fun x H' y kf => ?_⟩
      rcases w.yields 0 o1 _ x H' (by omega) m0 y with ⟨e, _⟩ | ⟨T, _, _, _, h2, h3, _⟩
      · subst e; exact (bad upd_same kf).elim
      · subst h3; exact (bad (hne h2) kf).elim
  | none =>
    refine ⟨fun i m H => i ≤ ds.length ∧ m = ds.length - i ∧ ∃ o2 acc S ys', LcRel K ct o1 H1 L o2 acc S H ∧ acc.length ≤ i ∧ runLc g tt te (wipeG G vs) (ds.drop i) S = .ok ys' S2 ∧ ys = acc ++ ys',
      ⟨_, Nat.zero_le _, rfl, o1, [], S1, ys, LcRel.start er.s hL hk, Nat.zero_le _, run, rfl⟩, ?_⟩
    rintro i m H ⟨hi, rfl, o2, acc, S, ys', r, ha, run', rfl⟩
    by_cases hlt : i < ds.length
    · refine .inr ⟨w.goes i _ _ hlt r.m, fun H' => ∃ o2 acc2 S ys2, LcRel K ct o1 H1 L o2 acc2 S H' ∧ acc2.length ≤ i + 1 ∧ runLc g tt te (wipeG G vs) (ds.drop (i + 1)) S = .ok ys2 S2 ∧ acc ++ ys' = acc2 ++ ys2,
        fun H' ⟨p1, p2, p3, p4, z⟩ => ⟨ds.length - (i + 1), by omega, by omega, rfl, p1, p2, p3, p4, z⟩, fun x H' y kf => ?_⟩
      have yl : LcRel K ct o1 H1 L o2 acc S H' ∧ ∃ d, ds[i]? = some d ∧ Rep K (o2.plus (· = L)) H' x d := by
        rcases w.yields i _ _ x H' hlt r.m y with ⟨e, d, h1, h2⟩ | ⟨T, us, xs, h1, h2, h3, h4, h5⟩
        · subst e; exact ⟨r, d, h1, h2⟩
        · subst h3
          subst h1
          exact ⟨r.grown h2 kf, _, h4, .tup (.of upd_same) (h5.mono (.grown h2))⟩
      obtain ⟨r, d, hd, rx⟩ := yl
      have ed : ds.drop i = d :: ds.drop (i + 1) := by
        rw [List.drop_eq_getElem_cons hlt]
        have := List.getElem?_eq_getElem hlt
        rw [hd] at this
        cases this
        rfl
      rw [ed] at run'
      obtain ⟨G1, b, S3, e1, e2, e3, e4⟩ := runLc_cons run'
      refine ⟨_, wipeG G vs, S, d, G1, (er.wipe vs).mono r.m r.s, rx, e1, fun σ' ra on => ⟨?_, ?_⟩⟩
      · rw [on vs sub, wipe_wipe]
      · refine ⟨_, G1, S, ra, ?_⟩
        rw [e2]
        intro o3 H3 x3 s3
        obtain ⟨o4, eo, r4⟩ := r.after x3 s3
        subst eo
        cases b with
        | false => exact ⟨o4, acc, S3, ys', r4, by omega, e3 rfl, rfl⟩
        | true =>
          obtain ⟨yv, S5, zs, f1, f2, f3⟩ := e4 rfl
          refine ⟨_, G1, S3, ra.mono (x3.mono r.s) s3, ?_⟩
          rw [f1]
          intro o5 v H5 x5 s5 r5
          obtain ⟨o6, eo, r6⟩ := r4.after x5 s5
          subst eo
          obtain ⟨us, hl, rl⟩ := r6.l
          refine ⟨us, hl, by rw [rl.length, sizeLine_eq]; omega, o6, acc ++ [yv], S5, zs, r6.app hl r5 hL, by rw [List.length_append]; exact Nat.succ_le_succ ha, f2, by rw [f3, List.append_assoc]; rfl⟩
    · have e : i = ds.length := by omega
      subst e
      rw [List.drop_length] at run'
      cases run'
      refine .inl ⟨w.stops _ _ r.m, fun _ => ?_⟩
      obtain ⟨us, hl, rl⟩ := r.l
      rw [List.append_nil] at k
      have ss : SRel K ct o2 S2 H := r.s.less (B := o2.bad) (fun a z => .inl z) fun a z => (r.s.hb a z).resolve_right fun q => r.nh (q ▸ z)
      exact k o2 L H us r.x ss hL hl r.nb (rl.mono Mono.unplus)
section
variable {X : Cx} {ct : CT} {W W' : Wish} {elt tg iter : Expr} {ifs : List Expr} {scope : Scope} {own : List (Str × Nat)} {pos : Pos} {it : Ix} {g : Tg} {tt : Tx} {te : Ex} {c : Expr}
theorem ptd_nil {Y : Cx} : PTs Y [] (tDb Y.K ct W tyes) := ⟨fun pins s σ H Q I ⟨o, G, S, er, q⟩ => pts_nil.run pins s σ H Q I (q o H .refl er.s)⟩
theorem ptd_one {Y : Cx} {tb : Tx} (h : PDb Y ct W c tb) : PTs Y [c] (tDb Y.K ct W tb) := pts_one h
theorem pd_lc (hi : PDi X ct W tg iter it) (hc : X.calm = true) (hN : X.N.Nodup) (ok : BlkOk X.N X.env.scope scope own)
    (hg : ∀ (s : Shared) (H : Hp) (C : Addr) (cl : List (Str × Addr)) (fp : List Addr), PGE (X.blk s H scope (compEnvC scope cl C X.env) fp) ct tg g) (ht : ∀ (s : Shared) (H : Hp) (C : Addr) (cl : List (Str × Addr)) (fp : List Addr), PTs (X.blk s H scope (compEnvC scope cl C X.env) fp) ifs (tDb X.K ct W' tt))
    (he : ∀ (s : Shared) (H : Hp) (C : Addr) (cl : List (Str × Addr)) (fp : List Addr), PD (X.blk s H scope (compEnvC scope cl C X.env) fp) ct W' elt te) {vs : List Nat} (hv : vs = own.map (·.2)) (sub : ∀ i ∈ g.names, i ∈ vs) (hs : ∀ x, foldedSetIterable iter X.env x = pure x := by intro _; rfl) :
    PD X ct W (.ListComp elt [⟨tg, iter, ifs, 0⟩] scope pos) (elc it g tt te vs) := by
  subst hv
  refine PE.wk (PE.kf (pe_lc (g := fun v σ H Q => KF X.K H → gE X.K ct g v σ H Q) (tt := tDb X.K ct W' tt) (te := tD X.K ct W' te) hc hN hi ok (fun s H C cl fp => PG.kf (hg s H C cl fp)) ht he hs)) fun σ H Q ⟨o, G, S, er, q⟩ => ?_
  refine ⟨o, G, S, er, Res.then q fun ds S1 h' o1 H1 J x1 s1 w => ?_⟩
  cases ev : runLc g tt te (wipeG G (own.map (·.2))) ds S1 with
  | ok ys S2 =>
    rw [ev] at h'
    dsimp only at h'
    split at h'
    · rename_i hz
      exact lc_run (er.ext x1 s1) w ev hz sub fun o' L H' xs x s _ hl nb rl => h' o' _ H' (x1.trans x) s (.lst hl nb rl)
    · exact h'.elim
  | exc x S1 => rw [ev] at h'; exact h'.elim
  | bad => rw [ev] at h'; exact h'.elim
/-! ### lists of its own, new -/
def tDf (K : PySem.W.Frag) (ct : CT) (W : Wish) (t : Ex) : TE := fun σ H Q => ∃ o G S, ERel K ct o G S σ H ∧ ResS (t G S) fun d S' => ∃ ds, d = .lst ds ∧ ∀ o' l vs H', Ext K o o' H H' → SRel K ct o' S' H' → H l = none → H' l = some (.lst vs) → ¬ o'.bad l → RepL K o' H' vs ds → Q (.ref l) H'
abbrev PDf (X : Cx) (ct : CT) (e : Expr) (t : Ex) : Prop := PE X e (tDf X.K ct WF t)
theorem pdf_lc (hi : PDi X ct WF tg iter it) (hc : X.calm = true) (hN : X.N.Nodup) (ok : BlkOk X.N X.env.scope scope own)
    (hg : ∀ (s : Shared) (H : Hp) (C : Addr) (cl : List (Str × Addr)) (fp : List Addr), PGE (X.blk s H scope (compEnvC scope cl C X.env) fp) ct tg g) (ht : ∀ (s : Shared) (H : Hp) (C : Addr) (cl : List (Str × Addr)) (fp : List Addr), PTs (X.blk s H scope (compEnvC scope cl C X.env) fp) ifs (tDb X.K ct W' tt))
    (he : ∀ (s : Shared) (H : Hp) (C : Addr) (cl : List (Str × Addr)) (fp : List Addr), PD (X.blk s H scope (compEnvC scope cl C X.env) fp) ct W' elt te) {vs : List Nat} (hv : vs = own.map (·.2)) (sub : ∀ i ∈ g.names, i ∈ vs) (hs : ∀ x, foldedSetIterable iter X.env x = pure x := by intro _; rfl) :
    PDf X ct (.ListComp elt [⟨tg, iter, ifs, 0⟩] scope pos) (elc it g tt te vs) := by
  subst hv
  refine PE.wk (PE.kf (pe_lc (g := fun v σ H Q => KF X.K H → gE X.K ct g v σ H Q) (tt := tDb X.K ct W' tt) (te := tD X.K ct W' te) hc hN hi ok (fun s H C cl fp => PG.kf (hg s H C cl fp)) ht he hs)) fun σ H Q ⟨o, G, S, er, q⟩ => ?_
  have q : ResS ((it G S).bind fun ds S1 => match runLc g tt te (wipeG G (own.map (·.2))) ds S1 with
    | .ok ys S2 => if ds.length ≤ 16777216 then .ok (D.lst ys) S2 else .bad
    | _ => .bad) _ := q
  refine ⟨o, G, S, er, ?_⟩
  cases ev0 : it G S with
  | ok ds S1 =>
    rw [ev0] at q
    intro o1 H1 J x1 s1 w
    have q : ResS (match runLc g tt te (wipeG G (own.map (·.2))) ds S1 with
      | .ok ys S2 => if ds.length ≤ 16777216 then .ok (D.lst ys) S2 else .bad
      | _ => .bad) _ := q
    cases ev : runLc g tt te (wipeG G (own.map (·.2))) ds S1 with
    | ok ys S2 =>
      rw [ev] at q
      dsimp only at q
      split at q
      · rename_i hz
        obtain ⟨ds', ed, q⟩ := q
        cases ed
        exact lc_run (er.ext x1 s1) w ev hz sub fun o' L H' xs x s hL hl nb rl => q o' L xs H' (x1.trans x) s (x1.back hL) hl nb rl
      · exact q.elim
    | exc x S1 => rw [ev] at q; exact q.elim
    | bad => rw [ev] at q; exact q.elim
  | exc x S1 => rw [ev0] at q; exact q.elim
  | bad => rw [ev0] at q; exact q.elim
end
section
variable {X : Cx} {ct : CT} {e a b : Expr} {es : List Expr} {t ta tb : Ex} {tes : Exs} {pos : Pos}
theorem pdf_lst (h : PDs X ct WF es tes) : PDf X ct (.List es pos) (elst tes) :=
  PE.wk (PE.kf (pe_lst h)) fun σ H Q ⟨o, G, S, er, q⟩ => by
    have q : ResS ((tes G S).bind fun xs S1 => if xs.length ≤ 16777216 then .ok (D.lst xs) S1 else .bad) _ := q
    refine ⟨o, G, S, er, ?_⟩
    cases ev : tes G S with
    | ok d S1 =>
      rw [ev] at q
      intro o1 v H1 x1 s1 r1
      have q : ResS (if d.length ≤ 16777216 then .ok (D.lst d) S1 else .bad) _ := q
      by_cases hz : d.length ≤ 16777216
      · rw [if_pos hz] at q
        obtain ⟨ds', ed, q⟩ := q
        cases ed
        refine ⟨by rw [r1.length, sizeLine_eq]; exact hz, fun p hp kf => ?_⟩
        exact q o1 p v _ (x1.trans (.grown hp)) (s1.grown hp kf) (x1.back hp) upd_same (fun z => by obtain ⟨u, e⟩ := s1.ba _ z; rw [hp] at e; cases e) ((Ext.grown hp).repL s1 r1)
      · rw [if_neg hz] at q; exact q.elim
    | exc x S1 => rw [ev] at q; exact q.elim
    | bad => rw [ev] at q; exact q.elim
/-- strict, relaxed -/
def fstr (t : Ex) : Ex := fun G S => match t (hide G) S with
  | .ok (.lst ds) S1 => if D.flats ds = true then .ok (.lst ds) S1 else .bad
  | _ => .bad
def frel (t : Ex) : Ex := fun G S => match t G S with
  | .ok (.lst ds) S1 => if D.flats ds = true ∧ Store.flat S1 = true then .ok (.lst ds) S1 else .bad
  | _ => .bad
theorem pmf_strict (h : PDf X ct e t) : PMf X ct e (fstr t) := fun A => PE.wk h fun σ H Q ⟨o, lo, G, S, r, q⟩ => by
  refine ⟨o.wi lo, hide G, S, r.hid, ?_⟩
  unfold fstr at q
  cases ev : t (hide G) S with
  | ok d S1 =>
    rw [ev] at q
    cases d with
    | lst ds =>
      dsimp only at q
      split at q
      · rename_i hf
        obtain ⟨ds', ed, _, q⟩ := q
        cases ed
        refine ⟨ds, rfl, fun o' l vs H1 x1 s1 hn hl nb rl => ?_⟩
        obtain ⟨o2, e, r2⟩ := r.afterS x1 s1
        subst e
        exact q o2 l vs H1 ⟨r2, x1.mono r.s, r.keptS x1⟩ hn hl nb rl
      · exact q.elim
    | _ => exact q.elim
  | exc x S1 => rw [ev] at q; exact q.elim
  | bad => rw [ev] at q; exact q.elim
theorem pmf_relax (h : PDf X ct e t) : PMf X ct e (frel t) := fun A => PE.wk h fun σ H Q ⟨o, lo, G, S, r, q⟩ => by
  refine ⟨o, G, S, r.full, ?_⟩
  unfold frel at q
  cases ev : t G S with
  | ok d S1 =>
    rw [ev] at q
    cases d with
    | lst ds =>
      dsimp only at q
      split at q
      · rename_i hf
        obtain ⟨ds', ed, _, q⟩ := q
        cases ed
        refine ⟨ds, rfl, fun o' l vs H1 x1 s1 hn hl nb rl => ?_⟩
        refine q o' l vs H1 ⟨r.afterF x1 s1 hf.2, r.monoF x1, r.keptF x1⟩ hn hl (fun z => z.elim nb fun ⟨i, hi⟩ => ?_) (rl.flats hf.1)
        obtain ⟨ds2, e1⟩ := r.wo i l hi
        obtain ⟨l', vs2, q1, q2, q3, q4⟩ := r.w i ds2 e1
        rw [hi] at q1; cases q1
        rw [hn] at q3; cases q3
      · exact q.elim
    | _ => exact q.elim
  | exc x S1 => rw [ev] at q; exact q.elim
  | bad => rw [ev] at q; exact q.elim
end
end DL

end
section
set_option maxRecDepth 100000
set_option maxHeartbeats 2000000
/-! The data layer: fields stored; more new lists; more operators. -/
namespace DL
open PySem PySem.Spec PyProof.Rows L2

/-! ### new lists by operators and calls -/
theorem fresh_at {K : PySem.W.Frag} {ct : CT} {o o1 : Om} {S1 : Store} {H H1 : Hp} {p : Addr} {vs : List V} {ds : List D} {Q : VK} (x : Ext K o o1 H H1) (s : SRel K ct o1 S1 H1) (hp : H1 p = none) (kf : KF K (upd H1 p (.lst vs))) (r : RepL K o1 H1 vs ds)
    (q : ∀ o' l vs H', Ext K o o' H H' → SRel K ct o' S1 H' → H l = none → H' l = some (.lst vs) → ¬ o'.bad l → RepL K o' H' vs ds → Q (.ref l) H') : Q (.ref p) (upd H1 p (.lst vs)) :=
  q o1 p vs _ (x.trans (.grown hp)) (s.grown hp kf) (x.back hp) upd_same (fun z => by obtain ⟨u, e⟩ := s.ba _ z; rw [hp] at e; cases e) ((Ext.grown hp).repL s r)
section
variable {X : Cx} {ct : CT} {a b : Expr} {es : List Expr} {ta tb : Ex} {tes : Exs} {pos p : Pos} {x : Str}
theorem pdf_bin {op : Operator} {f : D → D → Option D} {r : R2} (hop : OpR X (binaryOp op) r) (ha : PD X ct WF a ta) (hb : PD X ct WF b tb)
    (k : ∀ o S v w x y z H (Q : VK), SRel X.K ct o S H → Rep X.K o H v x → Rep X.K o H w y → f x y = some z → (∀ ds, z = .lst ds → ∀ p vs, H p = none → KF X.K (upd H p (.lst vs)) → RepL X.K o H vs ds → Q (.ref p) (upd H p (.lst vs))) → (∃ ds, z = .lst ds) → r v w H fun v H' => KF X.K H' → Q v H') :
    PDf X ct (.BinOp a op b pos) (ebin f ta tb) :=
  PE.wk (PE.kf (pe_op hop ha hb)) fun σ H Q ⟨o, G, S, er, q⟩ => by
    have q : ResS ((ta G S).bind fun x S1 => (tb G S1).bind fun y S2 => match f x y with
      | some z => .ok z S2
      | none => .bad) _ := q
    refine ⟨o, G, S, er, ?_⟩
    cases ev : ta G S with
    | ok d1 S1 =>
      rw [ev] at q
      intro o1 v1 H1 x1 s1 r1
      refine ⟨o1, G, S1, er.ext x1 s1, ?_⟩
      have q : ResS ((tb G S1).bind fun y S2 => match f d1 y with
        | some z => .ok z S2
        | none => .bad) _ := q
      cases ev2 : tb G S1 with
      | ok d2 S2 =>
        rw [ev2] at q
        intro o2 v2 H2 x2 s2 r2
        have q : ResS (match f d1 d2 with
          | some z => .ok z S2
          | none => .bad) _ := q
        cases e : f d1 d2 with
        | none => rw [e] at q; exact q.elim
        | some z =>
          rw [e] at q
          obtain ⟨ds, ed, q⟩ := q
          exact k o2 S2 v1 v2 d1 d2 z H2 _ s2 (x2.rep s1 r1) r2 e (fun ds' e' p vs hp kf r => by
            rw [ed] at e'; cases e'
            exact fresh_at (x1.trans x2) s2 hp kf r q) ⟨ds, ed⟩
      | exc x S1 => rw [ev2] at q; exact q.elim
      | bad => rw [ev2] at q; exact q.elim
    | exc x S1 => rw [ev] at q; exact q.elim
    | bad => rw [ev] at q; exact q.elim
theorem pdf_mul (ha : PD X ct WF a ta) (hb : PD X ct WF b tb) : PDf X ct (.BinOp a .Mult b pos) (ebin opMul ta tb) :=
  pdf_bin op_rep ha hb fun o S v w x y z H Q sr rx ry e k ⟨es, ez⟩ => by
    subst ez
    cases rx with
    | lst ha na ra =>
      rename_i ds
      cases ry with
      | int j =>
        have e : (if j.natAbs ≤ 16777216 ∧ ds.length * j.toNat ≤ 16777216 then some (D.lst (repL j.toNat ds)) else none) = some (.lst es) := e
        by_cases hz : j.natAbs ≤ 16777216 ∧ ds.length * j.toNat ≤ 16777216
        · rw [if_pos hz] at e
          cases e
          exact ⟨_, j, _, rfl, rfl, ha, by omega, by omega, by rw [ra.length, sizeLine_eq]; exact hz.2, fun p hp kf => k _ rfl p _ hp kf (ra.rep _)⟩
        · rw [if_neg hz] at e; cases e
      | _ => cases e
    | int i =>
      cases ry with
      | int j =>
        have e : (if mulOk i j = true then some (D.int (i * j)) else none) = some (.lst es) := e
        by_cases hz : mulOk i j = true
        · rw [if_pos hz] at e; cases e
        · rw [if_neg hz] at e; cases e
      | _ => cases e
    | str i =>
      cases ry with
      | int j =>
        have e : (if j.natAbs ≤ 16777216 ∧ i.length * j.toNat ≤ 16777216 then some (D.str (repS j.toNat i)) else none) = some (.lst es) := e
        split at e <;> cases e
      | _ => cases e
    | tup ht0 hr0 =>
      rename_i ds
      cases ry with
      | int j =>
        have e : (if ds ≠ [] ∧ 2 ≤ j ∧ j ≤ 1000 ∧ ds.length ≤ 1000 then some (D.tup (repL j.toNat ds)) else none) = some (.lst es) := e
        split at e <;> cases e
      | _ => cases e
    | _ => cases e
theorem pdf_add (ha : PD X ct WF a ta) (hb : PD X ct WF b tb) : PDf X ct (.BinOp a .Add b pos) (ebin opAdd ta tb) :=
  pdf_bin op_cat ha hb fun o S v w x y z H Q sr rx ry e k ⟨es, ez⟩ => by
    subst ez
    cases rx with
    | lst ha na ra =>
      rename_i ds
      cases ry with
      | lst hb nb rb =>
        rename_i ds2
        have e : (if ds.length + ds2.length ≤ 16777216 then some (D.lst (ds ++ ds2)) else none) = some (.lst es) := e
        by_cases hz : ds.length + ds2.length ≤ 16777216
        · rw [if_pos hz] at e
          cases e
          exact ⟨_, _, _, _, rfl, rfl, ha, hb, by rw [ra.length, rb.length, sizeLine_eq]; exact hz, fun p hp kf => k _ rfl p _ hp kf (ra.append rb)⟩
        · rw [if_neg hz] at e; cases e
      | _ => cases e
    | int i => cases ry <;> cases e
    | str i =>
      cases ry with
      | str j =>
        have e : (if i.length + j.length ≤ 16777216 then some (D.str (i ++ j)) else none) = some (.lst es) := e
        split at e <;> cases e
      | _ => cases e
    | tup ht0 hr0 =>
      rename_i ds
      cases ry with
      | tup ht1 hr1 =>
        rename_i ds2
        have e : (if ds.length + ds2.length ≤ 16777216 then some (D.tup (ds ++ ds2)) else none) = some (.lst es) := e
        split at e <;> cases e
      | _ => cases e
    | _ => cases e
theorem pdf_list (hg : Gl X "list") (hm : X.mg "list" = none) (ha : PDs X ct WF (a :: es) tes) (he : starEach (a :: es) X.env = (false, eval a X.env) :: starEach es X.env := by rfl) (hpl : (backTo pos (starEach es X.env)).any (·.1) = false := by rfl) :
    PDf X ct (.Call (.Name "list" p) (a :: es) [] pos) (ecal fList tes) :=
  PE.wk (PE.kf (pe_callTy call_list_of hg hm (by decide +kernel) ha (by decide) (by decide) he hpl)) fun σ H Q ⟨o, G, S, er, q⟩ => by
    have q : ResS ((tes G S).bind fun xs S1 => match fList xs with
      | some z => .ok z S1
      | none => .bad) _ := q
    refine ⟨o, G, S, er, ?_⟩
    cases ev : tes G S with
    | ok d1 S1 =>
      rw [ev] at q
      intro o1 v1 H1 x1 s1 r1
      have q : ResS (match fList d1 with
        | some z => .ok z S1
        | none => .bad) _ := q
      cases e : fList d1 with
      | none => rw [e] at q; exact q.elim
      | some z =>
        rw [e] at q
        obtain ⟨ds, ed, q2⟩ := q
        subst ed
        unfold fList at e
        split at e
        · cases e
          obtain ⟨v, rfl, r⟩ := r1.one
          cases r with
          | lst h _ r => exact ⟨_, _, rfl, .inl (.of h), fun p hp kf => fresh_at x1 s1 hp kf r q2⟩
        · cases e
          obtain ⟨v, rfl, r⟩ := r1.one
          cases r with
          | tup h r => exact ⟨_, _, rfl, .inr h, fun p hp kf => fresh_at x1 s1 hp kf r q2⟩
        · cases e
    | exc x S1 => rw [ev] at q; exact q.elim
    | bad => rw [ev] at q; exact q.elim
end

/-! ### operators in place -/
def onInts (f : D → D → Option D) : D → D → Option D := fun x y => match x, y with
  | .int i, .int j => f (.int i) (.int j)
  | _, _ => none
section
variable {X : Cx} {ct : CT}
theorem opS_ints {op : Operator} {c : Int → Int → Prop} {g : Int → Int → V} {f : D → D → Option D} (h : OpR X (inplaceOp op) (rI c g)) (k : ∀ i j z, f (.int i) (.int j) = some z → c i j ∧ ∀ (o : Om) (H : Hp), Rep X.K o H (g i j) z) : OpS X ct (inplaceOp op) (onInts f) := by
  intro pins s σ H v w u1 u2 Q I rv rw ⟨o, S, x, y, z, sr, rx, ry, e, q⟩
  cases rx with
  | int i =>
    cases ry with
    | int j =>
      obtain ⟨h1, h2⟩ := k i j z e
      exact h pins s σ H _ _ u1 u2 Q I rv rw ⟨i, j, rfl, rfl, h1, q o _ H .refl sr (h2 o H)⟩
    | _ => cases e
  | _ => cases e
theorem opS_ints0 {op : Operator} {g : Int → Int → V} {f : D → D → Option D} (h : OpR X (inplaceOp op) (rI0 g)) (k : ∀ i j z, f (.int i) (.int j) = some z → ∀ (o : Om) (H : Hp), Rep X.K o H (g i j) z) : OpS X ct (inplaceOp op) (onInts f) := by
  intro pins s σ H v w u1 u2 Q I rv rw ⟨o, S, x, y, z, sr, rx, ry, e, q⟩
  cases rx with
  | int i =>
    cases ry with
    | int j => exact h pins s σ H _ _ u1 u2 Q I rv rw ⟨i, j, rfl, rfl, q o _ H .refl sr (k i j z e o H)⟩
    | _ => cases e
  | _ => cases e
theorem ios_add : OpS X ct (inplaceOp .Add) (onInts opAdd) := opS_ints0 iop_add fun i j z e o H => by cases e; exact .int _
theorem ios_sub : OpS X ct (inplaceOp .Sub) (onInts opSub) := opS_ints0 iop_sub fun i j z e o H => by cases e; exact .int _
theorem iop_mulM : OpR X (inplaceOp .Mult) (rI (fun i j => mulOk i j = true) fun i j => .int (i * j)) := opI fun _ _ _ _ _ _ _ hc q => imul_int q (mul_guard hc)
theorem ios_mul : OpS X ct (inplaceOp .Mult) (onInts opMul) := opS_ints iop_mulM fun i j z e => by
  have e : (if mulOk i j = true then some (D.int (i * j)) else none) = some z := e
  by_cases hz : mulOk i j = true
  · rw [if_pos hz] at e; cases e; exact ⟨hz, fun o H => .int _⟩
  · rw [if_neg hz] at e; cases e
theorem ios_shr : OpS X ct (inplaceOp .RShift) (onInts opShr) := opS_ints iop_shr fun i j z e => by
  have e : (if 0 ≤ j then some (D.int (i / 2 ^ j.toNat)) else none) = some z := e
  by_cases hz : 0 ≤ j
  · rw [if_pos hz] at e; cases e; exact ⟨hz, fun o H => .int _⟩
  · rw [if_neg hz] at e; cases e
theorem ios_shl : OpS X ct (inplaceOp .LShift) (onInts opShl) := opS_ints iop_shlW fun i j z e => by
  have e : (if 0 ≤ j ∧ j ≤ 1000000 ∧ i.natAbs.log2 < 10000000 then some (D.int (i * 2 ^ j.toNat)) else none) = some z := e
  by_cases hz : 0 ≤ j ∧ j ≤ 1000000 ∧ i.natAbs.log2 < 10000000
  · rw [if_pos hz] at e; cases e; exact ⟨shl_guard hz, fun o H => .int _⟩
  · rw [if_neg hz] at e; cases e
theorem ios_mod : OpS X ct (inplaceOp .Mod) (onInts opMod) := opS_ints iop_mod fun i j z e => by
  have e : (if 0 < j then some (D.int (i % j)) else none) = some z := e
  by_cases hz : 0 < j
  · rw [if_pos hz] at e; cases e; exact ⟨hz, fun o H => .int _⟩
  · rw [if_neg hz] at e; cases e
theorem ios_or : OpS X ct (inplaceOp .BitOr) (onInts opOr) := opS_ints0 iop_or fun i j z e o H => by cases e; exact .int _
theorem ios_and : OpS X ct (inplaceOp .BitAnd) (onInts opAnd) := opS_ints0 iop_and fun i j z e o H => by cases e; exact .int _
theorem ios_xor : OpS X ct (inplaceOp .BitXor) (onInts opXor) := opS_ints0 iop_xor fun i j z e o H => by cases e; exact .int _
end

/-! ### fields stored -/
theorem nodup_len {α : Type} [DecidableEq α] : ∀ {xs ys : List α}, xs.Nodup → (∀ x ∈ xs, x ∈ ys) → xs.length ≤ ys.length
  | [], _, _, _ => Nat.zero_le _
  | x :: xs, ys, n, h => by
    rw [List.nodup_cons] at n
    have hx := h x List.mem_cons_self
    have ih := nodup_len (xs := xs) (ys := ys.erase x) n.2 fun y hy => (List.mem_erase_of_ne (show y ≠ x from fun e => n.1 (e ▸ hy))).mpr (h y (List.mem_cons_of_mem _ hy))
    rw [List.length_erase_of_mem hx] at ih
    have := List.length_pos_of_mem hx
    rw [List.length_cons]
    omega
theorem putF_keys {f : Str} {v : V} : ∀ {fs : List (Str × V)}, ∀ g ∈ (putF f v fs).map (·.1), g = f ∨ g ∈ fs.map (·.1)
  | [], g, h => by simp [putF] at h; exact .inl h
  | (k, x) :: r, g, h => by
    unfold putF at h
    by_cases e : k = f
    · rw [if_pos e] at h
      rcases List.mem_cons.mp h with h | h
      · exact .inr (by rw [h]; exact List.mem_cons_self)
      · exact .inr (List.mem_cons_of_mem _ h)
    · rw [if_neg e] at h
      rcases List.mem_cons.mp h with h | h
      · exact .inr (by rw [h]; exact List.mem_cons_self)
      · rcases putF_keys (fs := r) g h with h | h
        · exact .inl h
        · exact .inr (List.mem_cons_of_mem _ h)
theorem putF_nodup {f : Str} {v : V} : ∀ {fs : List (Str × V)}, (fs.map (·.1)).Nodup → ((putF f v fs).map (·.1)).Nodup
  | [], _ => by simp [putF]
  | (k, x) :: r, h => by
    have h : (k :: r.map (·.1)).Nodup := h
    rw [List.nodup_cons] at h
    unfold putF
    by_cases e : k = f
    · rw [if_pos e]
      show (k :: r.map (·.1)).Nodup
      exact List.nodup_cons.mpr h
    · rw [if_neg e]
      show (k :: (putF f v r).map (·.1)).Nodup
      refine List.nodup_cons.mpr ⟨fun z => ?_, putF_nodup h.2⟩
      rcases putF_keys k z with z | z
      · exact e z
      · exact h.1 z
def cput (S : Store) (k j : Nat) (s : Slot) : Store := match S[k]? with
  | some c => S.set k { c with fs := c.fs.set j s }
  | none => S
def freeSlot (S : Store) (c k j : Nat) : Bool := match S[k]? with
  | some cell => cell.cls == c && match cell.fs[j]? with
    | some .no => true
    | some (.val _) => true
    | _ => false
  | none => false
theorem freeSlot_ok {S : Store} {c k j : Nat} (h : freeSlot S c k j = true) : ∃ cell s, S[k]? = some cell ∧ cell.cls = c ∧ cell.fs[j]? = some s ∧ (∀ ds, s ≠ .own ds) := by
  unfold freeSlot at h
  cases e : S[k]? with
  | none => rw [e] at h; cases h
  | some cell =>
    rw [e] at h
    dsimp only at h
    rw [Bool.and_eq_true] at h
    cases e2 : cell.fs[j]? with
    | none => rw [e2] at h; cases h.2
    | some s =>
      refine ⟨cell, s, rfl, beq_iff_eq.mp h.1, e2, fun ds z => ?_⟩
      rw [e2, z] at h
      cases h.2
theorem Mono.insU {K : PySem.W.Frag} {o : Om} {H : Hp} {a C dx C' dx' : Addr} {fs fs' : List (Str × V)} (ha : H a = some (.ins C dx fs)) : Mono K o o H (upd H a (.ins C' dx' fs')) := by
  refine ⟨fun b xs h => ?_, fun b xs _ h => ?_, fun b xs _ h => by rw [upd_ne (show b ≠ a from fun e => by rw [e, ha] at h; cases h)]; exact h, fun _ _ _ n => n, Nat.le_refl _, fun _ _ => rfl, fun _ _ _ h => h⟩
  · rcases h with (h | ⟨ob, h⟩) | h
    · exact .inl (.inl (by rw [upd_ne (show b ≠ a from fun e => by rw [e, ha] at h; cases h)]; exact h))
    · exact .inl (.inr ⟨ob, by rw [upd_ne (show b ≠ a from fun e => by rw [e, ha] at h; cases h)]; exact h⟩)
    · exact .inr h
  · rcases h with (h | ⟨ob, h⟩) | h
    · exact .inl (.inl (by rw [upd_ne (show b ≠ a from fun e => by rw [e, ha] at h; cases h)]; exact h))
    · exact .inl (.inr ⟨ob, by rw [upd_ne (show b ≠ a from fun e => by rw [e, ha] at h; cases h)]; exact h⟩)
    · exact .inr h
section
variable {K : PySem.W.Frag} {ct : CT} {A : Om × Hp} {o : Om} {lo : Lo} {G : Env} {S : Store} {σ : L2.St} {H : Hp}
theorem StRel.fset (r : StRel K ct A o lo G S σ H) {k j c : Nat} {cd : CD} {f : Str} {y : V} {d : D} (hc : ct c = some cd) (hf : cd.fl[j]? = some f) (fr : freeSlot S c k j = true) (ry : Rep K (o.wi lo) H y d) :
    ∃ dx fs, H (o.ρ k) = some (.ins cd.C dx fs) ∧ fs.length < 1000 ∧ Cls K cd.C ∧ NoAttr K cd.C f ∧ StRel K ct A o lo G (cput S k j (.val d)) σ (upd H (o.ρ k) (.ins cd.C dx (putF f y fs))) ∧ Mono K (o.wi lo) (o.wi lo) H (upd H (o.ρ k) (.ins cd.C dx (putF f y fs))) := by
  obtain ⟨cell, s0, e1, e2, e3, e4⟩ := freeSlot_ok fr
  obtain ⟨cd', dx, vfs, h1, h2, h3, h4, h5, h6⟩ := (r.s.cell k cell e1).ex
  rw [e2, hc] at h1
  cases h1
  have h2 : H (o.ρ k) = some (.ins cd.C dx vfs) := h2
  have ok := r.s.cok c cd hc
  have hk : k < o.n := by
    have := r.s.n
    have h : (o.wi lo).n = o.n := rfl
    rw [← h, this]
    exact (List.getElem?_eq_some_iff.mp e1).1
  have ck : k < S.length := (List.getElem?_eq_some_iff.mp e1).1
  have cj : j < cell.fs.length := (List.getElem?_eq_some_iff.mp e3).1
  have hot : o.hot (o.ρ k) := .inl ⟨k, hk, rfl⟩
  have foN : o.fo k j = none := by
    cases e : o.fo k j with
    | none => rfl
    | some l =>
      obtain ⟨c', ds, q1, q2⟩ := r.s.foS k j l e
      rw [e1] at q1; cases q1
      rw [e3] at q2; cases q2
      exact absurd rfl (e4 ds)
  have hl : vfs.length ≤ 900 := by
    have := nodup_len h4 h5
    rw [List.length_map] at this
    exact Nat.le_trans this ok.sz
  have m : Mono K (o.wi lo) (o.wi lo) H (upd H (o.ρ k) (.ins cd.C dx (putF f y vfs))) := Mono.insU h2
  have eS : cput S k j (.val d) = S.set k { cell with fs := cell.fs.set j (.val d) } := by
    unfold cput
    rw [e1]
  have notA : ∀ {l vs}, H l = some (.lst vs) → l ≠ o.ρ k := fun h z => by rw [z, h2] at h; cases h
  refine ⟨dx, vfs, h2, by omega, ok.cl, ok.noF hf, ?_, m⟩
  rw [eS]
  refine ⟨⟨by rw [List.length_set]; exact r.s.n, kfU r.s.kf h2, fun k' c' e => ?_, r.s.inj, r.s.foI, fun k' j' l' h => ?_, r.s.hb, fun a z => let ⟨u, q⟩ := r.s.ba a z; thereU h2 q, r.s.cok⟩, r.len, fun i d h => let ⟨x, q1, q2⟩ := r.v i d h; ⟨x, q1, q2.mono m⟩, fun i es h => ?_, r.wo, r.inj, r.nb, r.nh, r.fr, ?_⟩
  · by_cases e0 : k = k'
    · subst e0
      rw [List.getElem?_set_self ck] at e
      cases e
      refine ⟨cd, dx, putF f y vfs, by rw [← hc, ← e2], upd_same, by simpa using h3, putF_nodup h4, fun g hg => ?_, fun jj g s f1 f2 => ?_⟩
      · rcases putF_keys g hg with z | z
        · rw [z]; exact List.mem_of_getElem? hf
        · exact h5 g z
      · rw [lookup_putF]
        by_cases ej : j = jj
        · subst ej
          have f2 : (cell.fs.set j (.val d))[j]? = some s := f2
          rw [List.getElem?_set_self cj] at f2
          cases f2
          rw [hf] at f1; cases f1
          rw [if_pos rfl]
          exact ⟨foN, y, rfl, ry.mono m⟩
        · have f2 : (cell.fs.set j (.val d))[jj]? = some s := f2
          rw [List.getElem?_set_ne ej] at f2
          have ne : g ≠ f := fun z => ej ((List.getElem?_inj (List.getElem?_eq_some_iff.mp hf).1 ok.nd).mp (by rw [hf, f1, z]))
          rw [if_neg ne]
          have q := h6 jj g s f1 f2
          cases s with
          | no => exact q
          | val d =>
            obtain ⟨q1, x', q2, q3⟩ := q
            exact ⟨q1, x', q2, q3.mono m⟩
          | own es =>
            obtain ⟨l', vs2, q1, q2, q3, q4⟩ := q
            exact ⟨l', vs2, q1, q2, (upd_ne (notA q3)).trans q3, q4.mono m⟩
    · rw [List.getElem?_set_ne e0] at e
      obtain ⟨cd2, dx2, vfs2, g1, g2, g3, g4, g5, g6⟩ := (r.s.cell k' c' e).ex
      have hk' : k' < o.n := by
        have := r.s.n
        have h : (o.wi lo).n = o.n := rfl
        rw [← h, this]
        exact (List.getElem?_eq_some_iff.mp e).1
      refine ⟨cd2, dx2, vfs2, g1, (upd_ne (show o.ρ k' ≠ o.ρ k from fun z => e0 (r.s.inj k' k hk' hk z).symm)).trans g2, g3, g4, g5, fun jj g s f1 f2 => ?_⟩
      have q := g6 jj g s f1 f2
      cases s with
      | no => exact q
      | val d =>
        obtain ⟨q1, x', q2, q3⟩ := q
        exact ⟨q1, x', q2, q3.mono m⟩
      | own es =>
        obtain ⟨l', vs2, q1, q2, q3, q4⟩ := q
        exact ⟨l', vs2, q1, q2, (upd_ne (notA q3)).trans q3, q4.mono m⟩
  · obtain ⟨c0, es, q1, q2⟩ := r.s.foS k' j' l' h
    by_cases e0 : k = k'
    · subst e0
      rw [e1] at q1; cases q1
      refine ⟨_, es, List.getElem?_set_self ck, ?_⟩
      show (cell.fs.set j (.val d))[j']? = _
      by_cases ej : j = j'
      · subst ej
        have h : o.fo k j = some l' := h
        rw [foN] at h; cases h
      · rw [List.getElem?_set_ne ej]
        exact q2
    · exact ⟨c0, es, by rw [List.getElem?_set_ne e0]; exact q1, q2⟩
  · obtain ⟨l', vs2, q1, q2, q3, q4⟩ := r.w i es h
    exact ⟨l', vs2, q1, q2, (upd_ne (notA q3)).trans q3, q4.mono m⟩
  · refine ⟨fun a u h n => ?_, fun a u h => ?_, r.x.n, r.x.r, r.x.badS, r.x.badN, r.x.hotN, r.x.f⟩
    · refine (upd_ne fun z => ?_).trans (r.x.keep a u h n)
      subst z
      rcases r.x.hotN _ hot with z | z
      · exact n z
      · rw [h] at z; cases z
    · obtain ⟨u', q⟩ := r.x.there a u h
      exact thereU h2 q
end
/-- o.f = value -/
def sfset (to : Ex) (c j : Nat) (t : Ex) : St := fun G S => match t G S with
  | .ok d S1 => match to G S1 with
    | .ok (.obj k) S2 => if freeSlot S2 c k j = true then .nx G (cput S2 k j (.val d)) else .bad
    | _ => .bad
  | _ => .bad
section
variable {X : Cx} {ct : CT} {e oe : Expr} {t to : Ex} {pos pos' : Pos} {f : Str}
theorem psd_fset {c j : Nat} {cd : CD} (h : PM X ct e t) (ho : PM X ct oe to) (hc : ct c = some cd) (hf : cd.fl[j]? = some f) (hs : swapsWith e (some (.Attribute oe f pos')) pos.line X.env = pure false) : PSD X ct (.Assign [.Attribute oe f pos'] e pos) (sfset to c j t) := fun A =>
  PS.wk (ps_fld (ho A) (h A) hs) fun D σ H ⟨o, lo, G, S, r, q⟩ => by
    unfold sfset at q
    refine ⟨o, lo, G, S, r, ?_⟩
    cases ev : t G S with
    | ok d S1 =>
      rw [ev] at q
      dsimp only at q
      intro o1 v H1 T rv
      refine ⟨o1, lo, G, S1, T.r, ?_⟩
      cases ev0 : to G S1 with
      | ok d0 S0 =>
        rw [ev0] at q
        intro o0 v0 H0 T0 rv0
        cases rv0 with
        | @obj k hk =>
          dsimp only at q
          split at q
          · rename_i hz
            obtain ⟨dx, fs, q1, q2, q3, q4, q5, q6⟩ := T0.r.fset hc hf hz (rv.mono T0.m)
            exact ⟨_, _, dx, fs, rfl, q1, q3, q4, q2, q o0 lo σ _ q5 ((T.m.trans T0.m).trans q6)⟩
          · exact q.elim
        | _ => exact q.elim
      | exc x S1 => rw [ev0] at q; exact q.elim
      | bad => rw [ev0] at q; exact q.elim
    | exc x S1 => rw [ev] at q; exact q.elim
    | bad => rw [ev] at q; exact q.elim
end
end DL

end
section
set_option maxRecDepth 100000
set_option maxHeartbeats 2000000
/-! The data layer: a new list stored in a field. -/
namespace DL
open PySem PySem.Spec PyProof.Rows L2
section
variable {K : PySem.W.Frag} {ct : CT} {A : Om × Hp} {o : Om} {lo : Lo} {G : Env} {S : Store} {σ : L2.St} {H H' : Hp}
theorem StRel.fown {o0 : Om} {S0 : Store} (r0 : StRel K ct A o0 lo G S0 σ H') (r : StRel K ct A o lo G S σ H) (m0 : Mono K (o0.wi lo) (o.wi lo) H' H) (kp : ∀ i l u, lo i = some l → H' l = some u → H l = some u) {k j c : Nat} {cd : CD} {f : Str} {l : Addr} {vs : List V} {ds : List D}
    (hc : ct c = some cd) (hf : cd.fl[j]? = some f) (fr : freeSlot S c k j = true) (hl : H l = some (.lst vs)) (fl : H' l = none) (nbl : ¬ (o.wi lo).bad l) (q : RepL K (o.wi lo) H vs ds) (fd : D.flats ds = true) (fS : Store.flat S = true) :
    ∃ dx fs, H (o.ρ k) = some (.ins cd.C dx fs) ∧ fs.length < 1000 ∧ Cls K cd.C ∧ NoAttr K cd.C f ∧ ∃ o' : Om, StRel K ct A o' lo G (cput S k j (.own ds)) σ (upd H (o.ρ k) (.ins cd.C dx (putF f (.ref l) fs))) ∧ Mono K (o0.wi lo) (o'.wi lo) H' (upd H (o.ρ k) (.ins cd.C dx (putF f (.ref l) fs))) := by
  obtain ⟨cell, s0, e1, e2, e3, e4⟩ := freeSlot_ok fr
  obtain ⟨cd', dx, vfs, h1, h2, h3, h4, h5, h6⟩ := (r.s.cell k cell e1).ex
  rw [e2, hc] at h1
  cases h1
  have h2 : H (o.ρ k) = some (.ins cd.C dx vfs) := h2
  have ok := r.s.cok c cd hc
  have on : o.n = S.length := r.s.n
  have hk : k < o.n := by rw [on]; exact (List.getElem?_eq_some_iff.mp e1).1
  have ck : k < S.length := (List.getElem?_eq_some_iff.mp e1).1
  have cj : j < cell.fs.length := (List.getElem?_eq_some_iff.mp e3).1
  have hot : o.hot (o.ρ k) := .inl ⟨k, hk, rfl⟩
  have foN : o.fo k j = none := by
    cases e : o.fo k j with
    | none => rfl
    | some l =>
      obtain ⟨c', ds, q1, q2⟩ := r.s.foS k j l e
      rw [e1] at q1; cases q1
      rw [e3] at q2; cases q2
      exact absurd rfl (e4 ds)
  have hlen : vfs.length ≤ 900 := by
    have := nodup_len h4 h5
    rw [List.length_map] at this
    exact Nat.le_trans this ok.sz
  have nhl : ¬ o.hot l := fun z => nbl (r.s.hb l z)
  have nlo : ∀ i, lo i ≠ some l := fun i z => nbl (.inr ⟨i, z⟩)
  have kfl : K.lookup l = none := r.s.kf l _ hl
  generalize hH2 : upd H (o.ρ k) (.ins cd.C dx (putF f (.ref l) vfs)) = H2
  have notA : ∀ {b ws}, H b = some (.lst ws) → H2 b = some (.lst ws) := fun {b ws} h => by
    rw [← hH2]
    exact (upd_ne (show b ≠ o.ρ k from fun z => by rw [z, h2] at h; cases h)).trans h
  have m1 : Mono K (o.wi lo) (o.wi lo) H H2 := by rw [← hH2]; exact Mono.insU h2
  generalize ho : ({ n := o.n, ρ := o.ρ, fo := fun k' j' => if k' = k ∧ j' = j then some l else o.fo k' j', bad := fun a => o.bad a ∨ a = l } : Om) = o'
  have on' : o'.n = o.n := by rw [← ho]
  have or' : o'.ρ = o.ρ := by rw [← ho]
  have ofo : ∀ k' j', o'.fo k' j' = if k' = k ∧ j' = j then some l else o.fo k' j' := fun k' j' => by rw [← ho]
  have obad : ∀ a, o'.bad a ↔ o.bad a ∨ a = l := fun a => by rw [← ho]
  have of_ : ∀ k' j' b, o.fo k' j' = some b → o'.fo k' j' = some b := fun k' j' b h => by
    rw [ofo]
    by_cases z : k' = k ∧ j' = j
    · rw [z.1, z.2, foN] at h; cases h
    · rw [if_neg z]; exact h
  have ohot : ∀ a, o'.hot a → o.hot a ∨ a = l := fun a z => by
    rcases z with ⟨k', z1, z2⟩ | ⟨k', j', z⟩
    · rw [on'] at z1; rw [or'] at z2; exact .inl (.inl ⟨k', z1, z2⟩)
    · rw [ofo] at z
      by_cases y : k' = k ∧ j' = j
      · rw [if_pos y] at z; cases z; exact .inr rfl
      · rw [if_neg y] at z; exact .inl (.inr ⟨k', j', z⟩)
  have m2 : Mono K (o0.wi lo) (o'.wi lo) H' H2 := by
    have m := m0.trans m1
    refine ⟨m.t, m.l, m.h, fun a xs h nb z => ?_, by show _ ≤ o'.n; rw [on']; exact m.n, fun i hi => by show o'.ρ i = _; rw [or']; exact m.r i hi, fun k' j' b h => of_ k' j' b (m.f k' j' b h)⟩
    rcases z with z | z
    · rcases (obad a).mp z with z | z
      · exact m.b a xs h nb (.inl z)
      · subst z
        rcases h with (h | ⟨ob, h⟩) | ⟨ob, its, n, h, _⟩
        · rw [fl] at h; cases h
        · rw [fl] at h; cases h
        · rw [kfl] at h; cases h
    · exact m.b a xs h nb (.inr z)
  -- data without lists, in the new state
  have mf : Mono K ({ o.wi lo with bad := (o'.wi lo).bad } : Om) (o'.wi lo) H2 H2 :=
    ⟨fun _ _ h => h, fun _ _ _ h => h, fun _ _ _ h => h, fun _ _ _ n => n, by show o.n ≤ o'.n; rw [on']; exact Nat.le_refl _, fun i _ => by show o'.ρ i = o.ρ i; rw [or'], fun k' j' b h => of_ k' j' b h⟩
  have flatD : ∀ {v d}, Rep K (o.wi lo) H v d → d.flat = true → Rep K (o'.wi lo) H2 v d := fun h e => ((h.mono m1).flat e).mono mf
  have flatL : ∀ {v d}, RepL K (o.wi lo) H v d → D.flats d = true → RepL K (o'.wi lo) H2 v d := fun h e => ((h.mono m1).flats e).mono mf
  have flS : ∀ {k : Nat} {c : Cell} {jj : Nat} {s : Slot}, S[k]? = some c → c.fs[jj]? = some s → Slot.flat s = true := fun h1 h2 => by
    have := List.all_eq_true.mp fS _ (List.mem_of_getElem? h1)
    exact List.all_eq_true.mp this _ (List.mem_of_getElem? h2)
  have slotOk : ∀ {k' jj : Nat} {c0 : Cell} {v : Option V} {s : Slot}, S[k']? = some c0 → c0.fs[jj]? = some s → ¬ (k' = k ∧ jj = j) → SlotRep K (o.wi lo) H (o.fo k' jj) v s → SlotRep K (o'.wi lo) H2 (o'.fo k' jj) v s := fun {k' jj c0 v s} a1 a2 ne q => by
    have e : o'.fo k' jj = o.fo k' jj := by rw [ofo, if_neg ne]
    rw [e]
    have fs := flS a1 a2
    cases s with
    | no => exact q
    | val d =>
      obtain ⟨q1, x', q2, q3⟩ := q
      exact ⟨q1, x', q2, flatD q3 fs⟩
    | own es =>
      obtain ⟨l', vs2, q1, q2, q3, q4⟩ := q
      exact ⟨l', vs2, q1, q2, notA q3, flatL q4 fs⟩
  have eS : cput S k j (.own ds) = S.set k { cell with fs := cell.fs.set j (.own ds) } := by
    unfold cput
    rw [e1]
  have kf2 : KF K H2 := by rw [← hH2]; exact kfU r.s.kf h2
  have th : ∀ {a u}, H a = some u → ∃ u', H2 a = some u' := fun h => by rw [← hH2]; exact thereU h2 h
  refine ⟨dx, vfs, h2, by omega, ok.cl, ok.noF hf, o', ?_⟩
  rw [hH2]
  refine ⟨?_, m2⟩
  rw [eS]
  refine ⟨⟨by rw [List.length_set]; show o'.n = _; rw [on']; exact on, kf2, fun k' c' e => ?_, fun a b ha hb e => ?_, fun k1 j1 k2 j2 b h1 h2 => ?_, fun k' j' l' h => ?_, fun a z => ?_, fun a z => ?_, r.s.cok⟩, r.len, fun i d h => let ⟨x, q1, q2⟩ := r0.v i d h; ⟨x, q1, q2.mono m2⟩, fun i es h => ?_, r.wo, r.inj, fun i b h z => ?_, fun i b h z => ?_, r.fr, ?_⟩
  · by_cases e0 : k = k'
    · subst e0
      rw [List.getElem?_set_self ck] at e
      cases e
      refine ⟨cd, dx, putF f (.ref l) vfs, by rw [← hc, ← e2], by show H2 (o'.ρ k) = _; rw [or', ← hH2, upd_same], by simpa using h3, putF_nodup h4, fun g hg => ?_, fun jj g s f1 f2 => ?_⟩
      · rcases putF_keys g hg with z | z
        · rw [z]; exact List.mem_of_getElem? hf
        · exact h5 g z
      · rw [lookup_putF]
        by_cases ej : j = jj
        · subst ej
          have f2 : (cell.fs.set j (.own ds))[j]? = some s := f2
          rw [List.getElem?_set_self cj] at f2
          cases f2
          rw [hf] at f1; cases f1
          rw [if_pos rfl]
          exact ⟨l, vs, by show o'.fo k j = _; rw [ofo, if_pos ⟨rfl, rfl⟩], rfl, notA hl, flatL q fd⟩
        · have f2 : (cell.fs.set j (.own ds))[jj]? = some s := f2
          rw [List.getElem?_set_ne ej] at f2
          have ne : g ≠ f := fun z => ej ((List.getElem?_inj (List.getElem?_eq_some_iff.mp hf).1 ok.nd).mp (by rw [hf, f1, z]))
          rw [if_neg ne]
          exact slotOk e1 f2 (fun z => ej z.2.symm) (h6 jj g s f1 f2)
    · rw [List.getElem?_set_ne e0] at e
      obtain ⟨cd2, dx2, vfs2, g1, g2, g3, g4, g5, g6⟩ := (r.s.cell k' c' e).ex
      have hk' : k' < o.n := by rw [on]; exact (List.getElem?_eq_some_iff.mp e).1
      refine ⟨cd2, dx2, vfs2, g1, ?_, g3, g4, g5, fun jj g s f1 f2 => slotOk e f2 (fun z => e0 z.1.symm) (g6 jj g s f1 f2)⟩
      show H2 (o'.ρ k') = _
      rw [or', ← hH2]
      exact (upd_ne (show o.ρ k' ≠ o.ρ k from fun z => e0 (r.s.inj k' k hk' hk z).symm)).trans g2
  · have ha : a < o'.n := ha
    have hb : b < o'.n := hb
    have e : o'.ρ a = o'.ρ b := e
    rw [on'] at ha hb
    rw [or'] at e
    exact r.s.inj a b ha hb e
  · have h1 : o'.fo k1 j1 = some b := h1
    have h2 : o'.fo k2 j2 = some b := h2
    rw [ofo] at h1 h2
    by_cases z1 : k1 = k ∧ j1 = j <;> by_cases z2 : k2 = k ∧ j2 = j
    · exact ⟨z1.1.trans z2.1.symm, z1.2.trans z2.2.symm⟩
    · rw [if_pos z1] at h1; rw [if_neg z2] at h2; cases h1
      exact absurd (.inr ⟨k2, j2, h2⟩) nhl
    · rw [if_neg z1] at h1; rw [if_pos z2] at h2; cases h2
      exact absurd (.inr ⟨k1, j1, h1⟩) nhl
    · rw [if_neg z1] at h1; rw [if_neg z2] at h2
      exact r.s.foI k1 j1 k2 j2 b h1 h2
  · have h : o'.fo k' j' = some l' := h
    rw [ofo] at h
    by_cases z : k' = k ∧ j' = j
    · obtain ⟨rfl, rfl⟩ := z
      exact ⟨_, ds, List.getElem?_set_self ck, List.getElem?_set_self cj⟩
    · rw [if_neg z] at h
      obtain ⟨c0, es, q1, q2⟩ := r.s.foS k' j' l' h
      by_cases e0 : k = k'
      · subst e0
        rw [e1] at q1; cases q1
        refine ⟨_, es, List.getElem?_set_self ck, ?_⟩
        show (cell.fs.set j (.own ds))[j']? = _
        rw [List.getElem?_set_ne fun y => z ⟨rfl, y.symm⟩]
        exact q2
      · exact ⟨c0, es, by rw [List.getElem?_set_ne e0]; exact q1, q2⟩
  · refine .inl ((obad a).mpr ?_)
    rcases ohot a z with z | z
    · exact .inl ((r.s.hb a z).resolve_right (r.noB z))
    · exact .inr z
  · rcases z with z | z
    · rcases (obad a).mp z with z | z
      · obtain ⟨u, e⟩ := r.s.ba a (.inl z)
        exact th e
      · subst z; exact ⟨_, notA hl⟩
    · obtain ⟨u, e⟩ := r.s.ba a (.inr z)
      exact th e
  · obtain ⟨l', vs2, q1, q2, q3, q4⟩ := r.w i es h
    obtain ⟨l0, vs0, p1, p2, p3, p4⟩ := r0.w i es h
    rw [q1] at p1; cases p1
    have kk := kp i l' _ q1 p3
    rw [q3] at kk; cases kk
    exact ⟨l', vs2, q1, q2, notA q3, p4.mono m2⟩
  · rcases (obad b).mp z with z | z
    · exact r.nb i b h z
    · exact nlo i (z ▸ h)
  · rcases ohot b z with z | z
    · exact r.nh i b h z
    · exact nlo i (z ▸ h)
  · have al : A.2 l = none := r0.x.back fl
    refine ⟨fun a u h n => ?_, fun a u h => ?_, by rw [on']; exact r.x.n, fun i hi => by rw [or']; exact r.x.r i hi, fun a z => (obad a).mpr (.inl (r.x.badS a z)), fun a z => ?_, fun a z => ?_, fun k' j' b h => of_ k' j' b (r.x.f k' j' b h)⟩
    · rw [← hH2]
      refine (upd_ne fun z => ?_).trans (r.x.keep a u h n)
      subst z
      rcases r.x.hotN _ hot with z | z
      · exact n z
      · rw [h] at z; cases z
    · obtain ⟨u', q⟩ := r.x.there a u h
      exact th q
    · rcases (obad a).mp z with z | z
      · exact r.x.badN a z
      · rw [z]; exact .inr ⟨al, kfl⟩
    · rcases ohot a z with z | z
      · exact r.x.hotN a z
      · rw [z]; exact .inr al
end
/-- o.f = a new list -/
def sfown (to : Ex) (c j : Nat) (t : Ex) : St := fun G S => match t G S with
  | .ok (.lst ds) S1 => match to G S1 with
    | .ok (.obj k) S2 => if freeSlot S2 c k j = true ∧ Store.flat S2 = true ∧ D.flats ds = true then .nx G (cput S2 k j (.own ds)) else .bad
    | _ => .bad
  | _ => .bad
section
variable {X : Cx} {ct : CT} {e oe : Expr} {t to : Ex} {pos pos' : Pos} {f : Str}
theorem psd_fown {c j : Nat} {cd : CD} (h : PMf X ct e t) (ho : PM X ct oe to) (hc : ct c = some cd) (hf : cd.fl[j]? = some f) (hs : swapsWith e (some (.Attribute oe f pos')) pos.line X.env = pure false) : PSD X ct (.Assign [.Attribute oe f pos'] e pos) (sfown to c j t) := fun A =>
  PS.wk (ps_fld (ho A) (h A) hs) fun D σ H ⟨o, lo, G, S, r, q⟩ => by
    unfold sfown at q
    refine ⟨o, lo, G, S, r, ?_⟩
    cases ev : t G S with
    | ok d S1 =>
      rw [ev] at q
      cases d with
      | lst ds =>
        dsimp only at q
        cases ev0 : to G S1 with
        | ok d0 S0 =>
          rw [ev0] at q
          cases d0 with
          | obj k =>
            dsimp only at q
            split at q
            · rename_i hz
              have fd : DL.D.flats ds = true := hz.2.2
              refine ⟨ds, rfl, fd, fun o1 l vs H1 T hn hl nb rl => ⟨o1, lo, G, S1, T.r, ?_⟩⟩
              rw [ev0]
              intro o0 v0 H0 T0 rv0
              cases rv0 with
              | @obj _ hk =>
                obtain ⟨dx, fs, q1, q2, q3, q4, o', q5, q6⟩ := StRel.fown r T0.r (T.m.trans T0.m) (fun i l u a b => T0.k i l u a (T.k i l u a b)) hc hf hz.1 (T0.m.h l _ nb hl) hn (T0.m.b l _ (.of hl) nb) (rl.mono T0.m) fd hz.2.1
                exact ⟨_, _, dx, fs, rfl, q1, q3, q4, q2, q o' lo σ _ q5 q6⟩
            · exact q.elim
          | _ => exact q.elim
        | exc x S1 => rw [ev0] at q; exact q.elim
        | bad => rw [ev0] at q; exact q.elim
      | _ => exact q.elim
    | exc x S1 => rw [ev] at q; exact q.elim
    | bad => rw [ev] at q; exact q.elim
end
end DL

end
section
set_option maxRecDepth 100000
set_option maxHeartbeats 2000000
/-! The data layer: defs as functions; the law's end. -/
namespace DL
open PySem PySem.Spec PyProof.Rows L2

/-- np parameters, n names -/
def mkFn (np n : Nat) (t : St) : Fn := fun ds S => if ds.length = np then match t (ds.map Slot.val ++ List.replicate (n - np) .no) S with
  | .rt d S' => .ok d S'
  | .nx _ S' => .ok .non S'
  | .exc x _ S' => .exc x S'
  | _ => .bad
  else .bad
theorem mkFn_len {np n : Nat} {t : St} {ds : List D} {S S' : Store} {z : D} (h : mkFn np n t ds S = .ok z S') : ds.length = np := by
  unfold mkFn at h
  split at h
  · assumption
  · cases h
section
variable {P : Program} {w : World} {K : PySem.W.Frag} {mg : Str → Option Value} {base : Heap} {ct : CT}
theorem StRel.begin {o : Om} {S : Store} {H : Hp} {vs : List V} {ds : List D} {N : List Str} {np : Nat} (s : SRel K ct o S H) (r : RepL K o H vs ds) (hn : ds.length = np) (hN : np ≤ N.length) :
    StRel K ct (o, H) o (fun _ => none) (ds.map Slot.val ++ List.replicate (N.length - np) .no) S (start N vs) H := by
  have nob : ∀ a, ¬ Lo.B (fun _ => none) a := fun a ⟨i, h⟩ => by cases h
  have m : Mono K o (o.wi fun _ => none) H H := ⟨fun _ _ h => h, fun _ _ _ h => h, fun _ _ _ h => h, fun _ _ _ n z => z.elim n (nob _), Nat.le_refl _, fun _ _ => rfl, fun _ _ _ h => h⟩
  have e : o.wi (fun _ => none) = o := Om.ext rfl rfl rfl fun a => ⟨fun z => z.elim id fun q => (nob a q).elim, .inl⟩
  refine ⟨e.symm ▸ s, ?_, fun i d h => ?_, fun i es h => ?_, (fun i l h => nomatch h), (fun i j l h => nomatch h), (fun i l h => nomatch h), (fun i l h => nomatch h), (fun i l h => nomatch h), .refl⟩
  · unfold L2.start
    rw [List.length_append, List.length_append, List.length_map, List.length_map, List.length_replicate, List.length_replicate, r.length, hn]
  · by_cases hi : i < ds.length
    · rw [List.getElem?_append_left (by rw [List.length_map]; exact hi), List.getElem?_map] at h
      cases e1 : ds[i]? with
      | none => rw [e1] at h; cases h
      | some d' =>
        rw [e1] at h
        cases h
        obtain ⟨v, q1, q2⟩ := r.get e1
        refine ⟨v, ?_, q2.mono m⟩
        unfold L2.start
        rw [List.getElem?_append_left (by rw [List.length_map, r.length]; exact hi), List.getElem?_map, q1]
        rfl
    · rw [List.getElem?_append_right (by rw [List.length_map]; omega), List.getElem?_replicate] at h
      split at h <;> cases h
  · by_cases hi : i < ds.length
    · rw [List.getElem?_append_left (by rw [List.length_map]; exact hi), List.getElem?_map] at h
      cases e1 : ds[i]? with
      | none => rw [e1] at h; cases h
      | some d' => rw [e1] at h; cases h
    · rw [List.getElem?_append_right (by rw [List.length_map]; omega), List.getElem?_replicate] at h
      split at h <;> cases h
/-- the context of a def's body -/
abbrev XB (P : Program) (w : World) (K : PySem.W.Frag) (mg : Str → Option Value) (base : Heap) (N : List Str) (qual : Str) (scope : Scope) (f : Addr) (cdv : Value) (A : Around) (outer : List PySem.Env) (s : Shared) (H : Hp) (E : XK) : Cx := (cxOf CX0 P w K mg base N qual scope f cdv A outer s H E).nox
theorem FA.mk' {x qual : Str} {params : Arguments} {body : List Stmt} {scope : Scope} {f : Addr} {fd : FuncData} {N ps : List Str} {k np n : Nat} {t : St} (F : FunD K x qual params body scope [] [] f fd) (S : FnScope N ps scope) (hb : Binds K fd ps []) (hp : ps.length = np) (hn : N.length = n)
    (h : ∀ (cdv : Value) (A : Around) (outer : List PySem.Env) (s : Shared) (H : Hp) (E : XK), Room k (XB P w K mg base N qual scope f cdv A outer s H E).A → PSDs (XB P w K mg base N qual scope f cdv A outer s H E) ct body t) : FA P w K mg base ct (k + 1) f (mkFn np n t) := by
  have hpn : np ≤ N.length := by
    have := congrArg List.length S.pre
    rw [List.length_take] at this
    omega
  refine ⟨fd, ps, hb, F.ok S (fun vs H Q E ⟨o, St, ds, sr, rx, q⟩ => ?_) fun cdv A outer s H vs Q E hr ⟨o, St, ds, sr, rx, q⟩ => ⟨_, PSs.nox (h cdv A outer s H E hr (o, H)), ?_⟩, fun ds S z S' e => by rw [mkFn_len e, hp]⟩
  · rw [rx.length, hp]
    cases e : mkFn np n t ds St with
    | ok z S' => exact mkFn_len e
    | exc _ _ => rw [e] at q; exact q.elim
    | bad => rw [e] at q; exact q.elim
  · unfold mkFn at q
    by_cases hl : ds.length = np
    · rw [if_pos hl] at q
      subst hn
      refine ⟨o, _, _, St, StRel.begin sr rx hl hpn, ?_⟩
      have e : o.wi (fun _ => none) = o := Om.ext rfl rfl rfl fun a => ⟨fun z => z.elim id (fun ⟨i, q⟩ => nomatch q), .inl⟩
      rw [e]
      cases et : t (ds.map Slot.val ++ List.replicate (N.length - np) .no) St with
      | rt d S' => rw [et] at q; exact q
      | nx G S' =>
        rw [et] at q
        intro o' lo' σ' H' r m
        exact q o' .non H' r.x r.s0 .non
      | bk _ _ => rw [et] at q; exact q.elim
      | ct _ _ => rw [et] at q; exact q.elim
      | exc _ _ _ => rw [et] at q; exact q.elim
      | bad => rw [et] at q; exact q.elim
    · rw [if_neg hl] at q; exact q.elim
theorem FA.mono {k j : Nat} {f : Addr} {d : Fn} (F : FA P w K mg base ct j f d) (h : j ≤ k) : FA P w K mg base ct k f d := by
  obtain ⟨fd, ps, h1, h2, h3⟩ := F.ex
  exact ⟨fd, ps, h1, h2.mono h, h3⟩
/-- a def that is given up -/
theorem FA.never {x qual : Str} {params : Arguments} {body : List Stmt} {scope : Scope} {f : Addr} {fd : FuncData} {N ps : List Str} {k : Nat} (F : FunD K x qual params body scope [] [] f fd) (S : FnScope N ps scope) (hb : Binds K fd ps []) : FA P w K mg base ct (k + 1) f (fun _ _ => .bad) := by
  refine ⟨fd, ps, hb, F.ok S (fun vs H Q E ⟨o, St, ds, sr, rx, q⟩ => q.elim) (fun cdv A outer s H vs Q E hr ⟨o, St, ds, sr, rx, q⟩ => q.elim), fun ds S z S' e => by cases e⟩
/-- the law's promise -/
theorem law_fn {k : Nat} {f : Addr} {d : Fn} (F : FA P w K mg base ct k f d) (cok : ∀ i cd, ct i = some cd → CDok K cd) (ok : ∀ ns : List Int, ns.length ≤ 63 → ∃ S', d [.scr ns] [] = .ok (.bl true) S') {fd : FuncData} {ps : List Str} (G : FnOk P w K mg base CX0 k f fd ps (spD K ct d)) :
    FnOk P w K mg base CX0 k f fd ps (fun vs H Q E => vs.length = ps.length ∧ (KF K H → spD K ct d vs H Q E)) := FnOk.kf G
theorem law_sp {d : Fn} {ps : List Str} {H : Hp} {a : Addr} {ns : List Int} (cok : ∀ i cd, ct i = some cd → CDok K cd) {S' : Store} (ok : d [.scr ns] [] = .ok (.bl true) S') (hp : ps.length = 1) (h : SqL K H a (ns.map V.int)) :
    ([V.ref a] : List V).length = ps.length ∧ (KF K H → spD K ct d [.ref a] H (fun v _ => v = .bl true) fun _ _ _ => False) := by
  refine ⟨hp.symm, fun kf => ⟨⟨0, fun _ => 0, fun _ _ => none, fun _ => False⟩, [], [.scr ns], ⟨rfl, kf, (fun k c e => by simp at e), (fun k k' h => absurd h (Nat.not_lt_zero _)), (fun k j k' j' l h => nomatch h), (fun k j l h => nomatch h), fun b z => ?_, fun b z => z.elim, cok⟩, .cons (.scr h fun z => z) .nil, ?_⟩⟩
  · rcases z with ⟨k, h, _⟩ | ⟨k, j, h⟩
    · exact absurd h (Nat.not_lt_zero _)
    · cases h
  · rw [ok]
    intro o' v H' x s r
    cases r
    rfl
end
/-! ### more rules -/
structure BX (mg : Str → Option Value) : Prop where
  len_ : mg "len" = none
  range_ : mg "range" = none
  sum_ : mg "sum" = none
  tuple_ : mg "tuple" = none
  int_ : mg "int" = none
  abs_ : mg "abs" = none
  min_ : mg "min" = none
  max_ : mg "max" = none
  isinstance_ : mg "isinstance" = none
  all_ : mg "all" = none
  any_ : mg "any" = none
  str_ : mg "str" = none
  list_ : mg "list" = none
  enumerate_ : mg "enumerate" = none
  zip_ : mg "zip" = none
  sorted_ : mg "sorted" = none
  bool_ : mg "bool" = none
section
variable {X : Cx} {ct : CT} {W : Wish} {pos p : Pos} {x : Str} {a b e : Expr} {es : List Expr} {ta tb te : Ex} {tes : Exs}
theorem pd_gint {i : Int} (hg : Gl X x) (h : ∃ t, X.mg x = some (.int i t)) (hd : (x == ("__debug__" : Str)) = false := by decide) : PD X ct W (.Name x pos) (ec (.int i)) := by
  obtain ⟨t, hm⟩ := h
  exact pd_glob (v := .int i) hg hm ⟨t, rfl⟩ (fun o H => .int i) hd
/-- a constant of the module: K says it -/
structure KD (K : PySem.W.Frag) (mg : Str → Option Value) (x : Str) (d : D) : Prop where
  ex : ∃ (v : V) (u : Value), mg x = some u ∧ RelV v u ∧ ∀ o H, Rep K o H v d
theorem pd_gtup {d : D} (hg : Gl X x) (h : KD X.K X.mg x d) (hd : (x == ("__debug__" : Str)) = false := by decide) : PD X ct W (.Name x pos) (ec d) := by
  obtain ⟨v, u, hm, r, rep⟩ := h.ex
  exact pd_glob hg hm r rep hd
def spar3 (i j l : Nat) (t : Exs) : St := fun G S => match t G S with
  | .ok [d, e, f] S1 => .nx (((G.set i (.val d)).set j (.val e)).set l (.val f)) S1
  | _ => .bad
theorem psd_par3 {i j l : Nat} {y z : Str} {ea eb eg : Expr} {t : Exs} {px py pz pt : Pos} {kt k2 : Nat} {pt2 : Pos} (h : PMs X ct [ea, eb, eg] t) (hc : X.calm = true) (hN : X.N.Nodup) (hi : X.N[i]? = some x) (hj : X.N[j]? = some y) (hl : X.N[l]? = some z) (hij : i ≠ j) (hil : i ≠ l) (hjl : j ≠ l)
    (hx : X.env.scope.names.lookup x = some .local) (hy : X.env.scope.names.lookup y = some .local) (hz : X.env.scope.names.lookup z = some .local)
    (hw : swappedStores [.Tuple [.Name x px, .Name y py, .Name z pz] kt pt] (.Tuple [ea, eb, eg] k2 pt2) X.env = pure (some [x, y, z]))
    (hs : swapsWithSole [.Tuple [.Name x px, .Name y py, .Name z pz] kt pt] (.Tuple [ea, eb, eg] k2 pt2) pos.line X.env = pure false) : PSD X ct (.Assign [.Tuple [.Name x px, .Name y py, .Name z pz] kt pt] (.Tuple [ea, eb, eg] k2 pt2) pos) (spar3 i j l t) := fun A =>
  PS.wk (ps_par3 hc hN hi hj hl hij hil hjl hx hy hz (h A) hw hs) fun D σ H ⟨o, lo, G, S, r, q⟩ => by
    refine ⟨o, lo, G, S, r, ?_⟩
    unfold spar3 at q
    cases ev : t G S with
    | ok d S1 =>
      rw [ev] at q
      intro o1 v H1 T rv
      split at q
      · rename_i d1 d2 d3 S2 he
        cases he
        obtain ⟨v1, v2, v3, rfl, r1, r2, r3⟩ := rv.three
        have m1 : Mono X.K (o1.wi lo) (o1.wi (lo.rm i)) H1 H1 := StRel.rmMono i
        have m2 : Mono X.K (o1.wi (lo.rm i)) (o1.wi ((lo.rm i).rm j)) H1 H1 := StRel.rmMono j
        have m3 : Mono X.K (o1.wi ((lo.rm i).rm j)) (o1.wi (((lo.rm i).rm j).rm l)) H1 H1 := StRel.rmMono l
        have ra := T.r.set (i := i) (r1.mono m1)
        have rb := ra.set (i := j) (r2.mono (m1.trans m2))
        exact ⟨v1, v2, v3, rfl, q o1 _ _ H1 (rb.set (i := l) (r3.mono ((m1.trans m2).trans m3))) (((T.m.trans m1).trans m2).trans m3)⟩
      · exact q.elim
    | exc x S1 => rw [ev] at q; exact q.elim
    | bad => rw [ev] at q; exact q.elim
end
end DL

end
section
set_option maxRecDepth 100000
set_option maxHeartbeats 4000000
/-! The data layer: more walks and built-ins. -/
namespace DL
open PySem PySem.Spec PyProof.Rows L2

/-! ### enumerate of a tuple -/
section
open PySem.AutoSeq1 (wpAny_loadPart')
theorem meets_enumB {v : Value} {ob : Obj} {H : Heap → Prop} (B : Begins v ob H) : Meets (Builtin.«enumerate.__new__» ⟨[.type "enumerate", v], []⟩) (fun _ R s => H s.heap ∧
      R (.ok (.ret (.ref (s.heap.push ob).objs.size))) { s with heap := (s.heap.push ob).push { cls := .type "enumerate", data := .fields #[.none, .bool false, .ref s.heap.objs.size, rawInt 0, .none, .none] } }) :=
  .of_wp fun prog w A R s h => by
    obtain ⟨hp, g, d, tk, os⟩ := s
    obtain ⟨hH, h⟩ := h
    have hsub := sub_enumerate
    have start : ∀ {A' : Around} {E : Value → Shared → Prop} {Q : Value → Shared → Prop}, Q (.ref hp.objs.size) ⟨hp.push ob, g, d, tk, os⟩ → wpAny (model prog w) A' (pyIter v) Q E ⟨hp, g, d, tk, os⟩ := fun q => B.iter prog w _ _ ⟨hp, g, d, tk, os⟩ _ hH q
    wp_walk using start
    refine wpAny_stack_any fun st => wpAny_pure ?_
    split
    · rename_i c _ _ _ _ _
      cases (c == Value.type "enumerate") <;> (wp_walk using start; exact ⟨_, rfl, h⟩)
    · wp_walk using start
      exact ⟨_, rfl, h⟩
theorem call_enumT {prog : Program} {w : World} {A : Around} {E : Value → Shared → Prop} {s : Shared} {l : Addr} {items : Array Value} {Q : Value → Shared → Prop} (hL : s.heap.IsTuple l items)
    (h : ∀ h', IsEnum h' (s.heap.objs.size + 1) s.heap.objs.size 0 .none → h'.IsTupleIter s.heap.objs.size l 0 → (∀ b o, s.heap.get? b = some o → h'.get? b = some o) → Q (.ref (s.heap.objs.size + 1)) { s with heap := h' }) :
    wpAny (model prog w) A (call (.type "enumerate") [.ref l]) Q E s := by
  refine callType_new F.called_enumerate (by decide) (F.typeCall_enumerate_1 _) (F.newCall_enumerate_1 _) (fun obj => F.args_object_init_2 obj _) F.entry_enumerate_new (meets_enumB (begins_tuple l items)) ⟨hL, ?_⟩
  have sz : (s.heap.push { cls := .type "tuple_iterator", data := .fields #[.ref l, .int 0 0] }).objs.size = s.heap.objs.size + 1 := Heap.size_push ..
  show _ ∧ _
  rw [sz]
  have en : IsEnum ((s.heap.push { cls := .type "tuple_iterator", data := .fields #[.ref l, .int 0 0] }).push { cls := .type "enumerate", data := .fields #[.none, .bool false, .ref s.heap.objs.size, rawInt 0, .none, .none] }) (s.heap.objs.size + 1) s.heap.objs.size 0 .none := by
    have q := Heap.get?_push_size (s.heap.push { cls := .type "tuple_iterator", data := .fields #[.ref l, .int 0 0] }) (o := { cls := .type "enumerate", data := .fields #[.none, .bool false, .ref s.heap.objs.size, rawInt 0, .none, .none] }) rfl
    rw [sz] at q
    exact q
  exact ⟨⟨_, en, rfl⟩, h _ en ⟨_, Heap.get?_push_of_some _ (Heap.get?_push_size _ rfl), rfl, rfl⟩ fun b o x => Heap.get?_push_of_some _ (Heap.get?_push_of_some _ x)⟩
end
def IteT (K : PySem.W.Frag) (a : Addr) : It where
  go := fun i H => ∃ (xs : List V) (x : V), SqT K H a xs ∧ xs[i]? = some x
  yld := fun i H v H' => ∃ T x, v = .ref T ∧ H T = none ∧ H' = upd H T (.tup [.int (i : Nat), x]) ∧ ∀ xs, SqT K H a xs → xs[i]? = some x
  stop := fun i H => ∃ xs : List V, SqT K H a xs ∧ xs.length ≤ i
theorem turn_enumT {P : Program} {w : World} {K : PySem.W.Frag} {elts : List Expr} {kk : Nat} {tpos : Pos} (a e it : Addr) (ai : a ≠ it) (ae : a ≠ e) :
    Turn P w K (.Tuple elts kk tpos) (IteT K a) [e, it] e (fun i h => (∃ old, IsEnum h e it ((i : Nat) : Int) old) ∧ h.IsTupleIter it a i ∧ e ≠ it) where
  mem := by simp
  obj := fun i h st b hb => by
    obtain ⟨⟨old, he⟩, ⟨o, ho, hc, hd⟩, _⟩ := st
    rcases (by simpa using hb : b = e ∨ b = it) with rfl | rfl
    · exact ⟨_, he, fun v q => nomatch q⟩
    · exact ⟨o, ho, fun v q => by rw [hd] at q; cases q⟩
  keep := fun i h h' st k => ⟨let ⟨old, he⟩ := st.1; ⟨old, k e (by simp) _ he⟩, st.2.1.at fun o q => k it (by simp) o q, st.2.2⟩
  item := by
    intro X hP hw hK hc i pins s σ H E I hf st hg
    subst hP hw hK
    obtain ⟨⟨old, he⟩, hit, hne⟩ := st
    obtain ⟨xs, x, hq, hx⟩ := hg
    obtain ⟨its, rv, p, hz⟩ := I.tuple hq
    obtain ⟨u, hu, ru⟩ := rv.get hx
    have hel : e < s.heap.objs.size := Heap.lt_size he
    have hil : it < s.heap.objs.size := by obtain ⟨_, q, _⟩ := hit; exact Heap.lt_size q
    have lt : i < its.toArray.size := by
      rw [List.size_toArray]
      exact (List.getElem?_eq_some_iff.mp hu).1
    have nef : e ∉ [it, a] := by
      intro z
      rcases (by simpa using z : e = it ∨ e = a) with z | z
      · exact hne z
      · exact ae z.symm
    refine wpAny_pyNext_enum_itemD (Draws.tuple (A := X.A.in1) (I.ok.hd hc) it a ai its.toArray) he ⟨hit, p⟩ lt hne nef fun y h' tk hy ho hst hT hsz hk => ?_
    have ey : y = u := by
      rw [show its.toArray[i]? = its[i]? by simp] at hy
      rw [hu] at hy
      exact (Option.some.inj hy).symm
    subst ey
    refine ⟨_, rfl, wpAny_letOwnedTupleGo_enum (s := { s with heap := h', toks := tk + 1 }) ho fun h'' he' sb => ?_⟩
    have hT2 : h''.get? s.heap.objs.size = some { cls := .type "tuple", data := .seq #[.int i tk, y] } := (sb.2 _ (Nat.ne_of_gt hel)).trans hT
    have new : ObjOk X.prog X.w (upd H s.heap.objs.size (.tup [.int (i : Nat), x])) h'' s.heap.objs.size (.tup [.int (i : Nat), x]) :=
      ⟨show 2 ≤ sizeLine by decide, [.int i tk, y], .cons ⟨_, rfl⟩ (.cons ru .nil), ⟨_, hT2, rfl, _, rfl⟩⟩
    have I1 : Inv X pins σ (upd H s.heap.objs.size (.tup [.int (i : Nat), x])) { s with heap := h'', toks := tk + 1 } :=
      I.turnedNew (ch := [e, it]) (fun b ob hb q => (sb.2 b (fun z => hb (by simp [z]))).trans (hk b ob (fun z => hb (by simp [z])) (fun z => hb (by simp [z])) q)) hf (Nat.le_refl _) new
    refine ⟨.ref s.heap.objs.size, _, I1, rfl, ⟨_, x, rfl, I.hok.fresh (Nat.le_refl _), rfl, fun ys hy => by rw [I.tuple_inj hy hq]; exact hx⟩, ⟨⟨y, ?_⟩, hst.1.at fun o q => (sb.2 it (Ne.symm hne)).trans q, hne⟩, fun b hb => ?_⟩
    · rw [show ((i + 1 : Nat) : Int) = (i : Int) + 1 by omega]
      exact he'
    · have lb : b < s.heap.objs.size := by
        rcases (by simpa using hb : b = e ∨ b = it) with rfl | rfl
        · exact hel
        · exact hil
      rw [upd_ne (Nat.ne_of_lt lb)]
      exact (hf b hb).1
  done := by
    intro X hP hw hK hc i pins s σ H E I hf st hg
    subst hP hw hK
    obtain ⟨⟨old, he⟩, hit, hne⟩ := st
    obtain ⟨xs, hq, hx⟩ := hg
    obtain ⟨its, rv, p, hz⟩ := I.tuple hq
    obtain ⟨f0, f1, f2, f3, f4, f5⟩ := hf it (by simp)
    have hl := rv.length
    unfold pyNext
    refine wpAny_bind (wpAny_attempt (wpAny_callSpecial?_slot (name := Str.ofString "__next__") (show s.TypeIs (.ref e) "enumerate" from ⟨_, he, rfl⟩) F.slot_enumerate_next
      (wpAny_call_entry F.slot_enumerate_next (show s.TypeIs (.ref e) "enumerate" from ⟨_, he, rfl⟩) F.entry_enumerate_next ?_ (F.args_enumerate_next_1 _))))
    show wpAny _ _ (field (.ref e) 2 >>= _) _ _ _
    refine wpAny_bind (wpAny_field he rfl (x := .ref it) rfl ?_)
    refine wpAny_bind (wpAny_nextOf_tuple_end (I.ok.hd hc) hit (show s.heap.IsTuple a its.toArray from p) (by simp; omega) fun h' x he' hx' => ?_)
    obtain ⟨o, ho, hc'⟩ := hx'
    exact wpAny_bind (wpAny_isInstance (T := "StopIteration") (b := true) ⟨o, ho, hc'⟩ isSubtype_stop (wpAny_pure ⟨rfl, I.turned (t' := s.toks) (fun b o hb q => he' b o hb q) f0 f1 f3 f4 f5⟩))
  self := fun A i s Q E st h => let ⟨⟨_, he⟩, _⟩ := st; wpAny_pyIter_enum he h
def iEnumT (K : PySem.W.Frag) (ta : TA) : TI := fun σ H R => ta σ H fun vs H1 => ∃ a xs, vs = [.ref a] ∧ SqT K H1 a xs ∧ R (IteT K a) H1
theorem pi_enumT {X : Cx} {e : Expr} {ta : TA} {p pos tpos : Pos} {elts : List Expr} {kk : Nat} (hg : Gl X "enumerate") (hm : X.mg "enumerate" = none) (ha : PA X [e] ta) (hs : starEach [e] X.env = [(false, eval e X.env)] := by rfl) :
    PI X (.Tuple elts kk tpos) (.Call (.Name "enumerate" p) [e] [] pos) (iEnumT X.K ta) := by
  refine ⟨fun pins s σ H R I h => ?_⟩
  refine Call_ (ld_blt I hg hm boot_enumerate (PyProof.Rows.callWith_type1 (thn (ha.run pos pins s σ H _ I h) fun us s1 ⟨vs, H1, I1, r1, a, xs, ex, hq, q⟩ => ?_) hs rfl))
  subst ex
  obtain ⟨u, rfl, ru⟩ := r1.one
  cases ru
  obtain ⟨its, rv, p', hz⟩ := I1.tuple hq
  have la : a < s1.heap.objs.size := by obtain ⟨_, z, _⟩ := id p'; exact Heap.lt_size z
  refine call_enumT (show s1.heap.IsTuple a its.toArray from p') fun h' he hit hk => wpAny_pyIter_enum he ?_
  refine ⟨s1.heap.objs.size + 1, [s1.heap.objs.size + 1, s1.heap.objs.size], _, _, H1, rfl, I1.kept (t' := s1.toks) hk, turn_enumT a (s1.heap.objs.size + 1) s1.heap.objs.size (Nat.ne_of_lt la) (Nat.ne_of_lt (Nat.lt_succ_of_lt la)), ⟨⟨.none, he⟩, hit, Nat.succ_ne_self _⟩, fun b hb => ?_, q⟩
  have le : s1.heap.objs.size ≤ b := by
    rcases (by simpa using hb : b = s1.heap.objs.size + 1 ∨ b = s1.heap.objs.size) with rfl | rfl
    · exact Nat.le_succ _
    · exact Nat.le_refl _
  exact I1.fpOk le (I1.hok.fresh le)
end DL

end
section
set_option maxRecDepth 100000
set_option maxHeartbeats 4000000
/-! The data layer: enumerate; a comprehension stored at once; more. -/
namespace DL
open PySem PySem.Spec PyProof.Rows L2
def enumD : Nat → List D → List D
  | _, [] => []
  | n, d :: r => .tup [.int n, d] :: enumD (n + 1) r
theorem enumD_len : ∀ (n : Nat) (ds : List D), (enumD n ds).length = ds.length
  | _, [] => rfl
  | n, d :: r => congrArg Nat.succ (enumD_len (n + 1) r)
theorem enumD_get : ∀ (n : Nat) (ds : List D) (i : Nat), (enumD n ds)[i]? = (ds[i]?).map fun d => .tup [.int ((n + i : Nat) : Int), d]
  | _, [], _ => by simp [enumD]
  | n, d :: r, 0 => by simp [enumD]
  | n, d :: r, i + 1 => by
    show (enumD (n + 1) r)[i]? = _
    rw [enumD_get (n + 1) r i, show n + 1 + i = n + (i + 1) by omega]
    rfl
def ienum (t : Exs) : Ix := fun G S => (t G S).bind fun xs S1 => match xs with
  | [.lst ds] => .ok (enumD 0 ds) S1
  | [.tup ds] => .ok (enumD 0 ds) S1
  | _ => .bad
section
variable {K : PySem.W.Frag} {o : Om} {H : Hp} {a : Addr} {vs : List V} {ds : List D}
theorem wd_enumL (h : H a = some (.lst vs)) (nb : ¬ o.bad a) (r : RepL K o H vs ds) : WD K o H (Ite K a) (enumD 0 ds) := by
  have e := r.length
  refine ⟨fun i o' H' hi m => ?_, fun o' H' m => ⟨vs, .of (m.h _ _ nb h), by rw [enumD_len]; omega⟩, fun i o' H' x H'' hi m y => ?_⟩
  · rw [enumD_len] at hi
    obtain ⟨v, hv⟩ := getElem?_lt (xs := vs) (i := i) (by omega)
    exact ⟨vs, v, .of (m.h _ _ nb h), hv⟩
  · obtain ⟨T, v, h1, h2, h3, h4⟩ := y
    obtain ⟨d, q1, q2⟩ := (r.mono m).getV (h4 vs (.of (m.h _ _ nb h)))
    exact .inr ⟨T, _, [.int i, d], h1, h2, h3, by rw [enumD_get, q1, Nat.zero_add]; rfl, .cons (.int _) (.cons q2 .nil)⟩
theorem wd_enumT (h : SqT K H a vs) (r : RepL K o H vs ds) : WD K o H (IteT K a) (enumD 0 ds) := by
  have e := r.length
  refine ⟨fun i o' H' hi m => ?_, fun o' H' m => ⟨vs, m.t _ _ h, by rw [enumD_len]; omega⟩, fun i o' H' x H'' hi m y => ?_⟩
  · rw [enumD_len] at hi
    obtain ⟨v, hv⟩ := getElem?_lt (xs := vs) (i := i) (by omega)
    exact ⟨vs, v, m.t _ _ h, hv⟩
  · obtain ⟨T, v, h1, h2, h3, h4⟩ := y
    obtain ⟨d, q1, q2⟩ := (r.mono m).getV (h4 vs (m.t _ _ h))
    exact .inr ⟨T, _, [.int i, d], h1, h2, h3, by rw [enumD_get, q1, Nat.zero_add]; rfl, .cons (.int _) (.cons q2 .nil)⟩
end
section
variable {X : Cx} {ct : CT} {W W' : Wish} {pos p tpos : Pos} {e : Expr} {tes : Exs} {elts : List Expr} {kk : Nat}
theorem pdi_enum (hg : Gl X "enumerate") (hm : X.mg "enumerate" = none) (ha : PDs X ct W [e] tes) (hs : starEach [e] X.env = [(false, eval e X.env)] := by rfl) : PDi X ct W (.Tuple elts kk tpos) (.Call (.Name "enumerate" p) [e] [] pos) (ienum tes) := by
  refine PI.wk2 (pi_enum hg hm ha hs) (pi_enumT hg hm ha hs) fun σ H Q ⟨o, G, S, er, q⟩ => ?_
  have q : Res X.K ct W o H ((tes G S).bind fun xs S1 => match xs with
    | [.lst ds] => .ok (enumD 0 ds) S1
    | [.tup ds] => .ok (enumD 0 ds) S1
    | _ => .bad) (fun ds S' => ∀ o' H' J, Ext X.K o o' H H' → SRel X.K ct o' S' H' → WD X.K o' H' J ds → Q J H') := q
  cases ev : tes G S with
  | ok d S1 =>
    rw [ev] at q
    have q : Res X.K ct W o H (match d with
      | [.lst ds] => .ok (enumD 0 ds) S1
      | [.tup ds] => .ok (enumD 0 ds) S1
      | _ => .bad) (fun ds S' => ∀ o' H' J, Ext X.K o o' H H' → SRel X.K ct o' S' H' → WD X.K o' H' J ds → Q J H') := q
    split at q
    · refine .inl ⟨o, G, S, er, ?_⟩
      rw [ev]
      intro o1 v H1 x1 s1 r1
      obtain ⟨w, rfl, r⟩ := r1.one
      cases r with
      | lst hl nb r => exact ⟨_, _, rfl, .of hl, q o1 H1 _ x1 s1 (wd_enumL hl nb r)⟩
    · refine .inr ⟨o, G, S, er, ?_⟩
      rw [ev]
      intro o1 v H1 x1 s1 r1
      obtain ⟨w, rfl, r⟩ := r1.one
      cases r with
      | tup ht r => exact ⟨_, _, rfl, ht, q o1 H1 _ x1 s1 (wd_enumT ht r)⟩
    · exact q.elim
  | exc y S1 =>
    rw [ev] at q
    exact .inl ⟨o, G, S, er, by rw [ev]; exact q⟩
  | bad =>
    rw [ev] at q
    exact q.elim
end

/-! ### name = [..] on one line -/
theorem PS.kf {X : Cx} {st : Stmt} {t : TS} (h : PS X st t) : PS X st (fun D σ H => t { D with nx := fun σ H => KF X.K H → D.nx σ H } σ H) := ⟨fun pins s σ H D I w =>
  wpAny_mono (h.run pins s σ H _ I w) (fun f s' q => by
    cases f with
    | next => obtain ⟨σ', H', I', q⟩ := q; exact ⟨σ', H', I', q (kf_of I')⟩
    | brk => exact q
    | cont => exact q
    | ret u => exact q) fun _ _ z => z⟩
section
variable {X : Cx} {ct : CT} {W W' : Wish} {elt tg iter : Expr} {ifs : List Expr} {scope : Scope} {own : List (Str × Nat)} {pos spos py : Pos} {it : Ix} {g : Tg} {tt : Tx} {te : Ex} {y : Str} {vs : List Nat}
theorem lc_tD {K : PySem.W.Frag} {σ : L2.St} {H : Hp} {Q : VK} (sub : ∀ i ∈ g.names, i ∈ vs) (h : tD K ct WF (elc it g tt te vs) σ H Q) :
    tLc (tI K ct WF it) (fun v σ H Q => KF K H → gE K ct g v σ H Q) (tDb K ct W' tt) (tD K ct W' te) vs σ H (fun v H' => KF K H' → Q v H') := by
  obtain ⟨o, G, S, er, q⟩ := h
  refine ⟨o, G, S, er, Res.then q fun ds S1 h' o1 H1 J x1 s1 w => ?_⟩
  cases ev : runLc g tt te (wipeG G vs) ds S1 with
  | ok ys S2 =>
    rw [ev] at h'
    dsimp only at h'
    split at h'
    · rename_i hz
      exact lc_run (er.ext x1 s1) w ev hz sub fun o' L H' xs x s _ hl nb rl => h' o' _ H' (x1.trans x) s (.lst hl nb rl)
    · exact h'.elim
  | exc x S1 => rw [ev] at h'; exact h'.elim
  | bad => rw [ev] at h'; exact h'.elim
theorem lc_tDf {K : PySem.W.Frag} {σ : L2.St} {H : Hp} {Q : VK} (sub : ∀ i ∈ g.names, i ∈ vs) (h : tDf K ct WF (elc it g tt te vs) σ H Q) :
    tLc (tI K ct WF it) (fun v σ H Q => KF K H → gE K ct g v σ H Q) (tDb K ct W' tt) (tD K ct W' te) vs σ H (fun v H' => KF K H' → Q v H') := by
  obtain ⟨o, G, S, er, q⟩ := h
  refine ⟨o, G, S, er, ?_⟩
  have q : ResS ((it G S).bind fun ds S1 => match runLc g tt te (wipeG G vs) ds S1 with
    | .ok ys S2 => if ds.length ≤ 16777216 then .ok (D.lst ys) S2 else .bad
    | _ => .bad) _ := q
  cases ev0 : it G S with
  | ok ds S1 =>
    rw [ev0] at q
    intro o1 H1 J x1 s1 w
    have q : ResS (match runLc g tt te (wipeG G vs) ds S1 with
      | .ok ys S2 => if ds.length ≤ 16777216 then .ok (D.lst ys) S2 else .bad
      | _ => .bad) _ := q
    cases ev : runLc g tt te (wipeG G vs) ds S1 with
    | ok ys S2 =>
      rw [ev] at q
      dsimp only at q
      split at q
      · rename_i hz
        obtain ⟨ds', ed, q⟩ := q
        cases ed
        exact lc_run (er.ext x1 s1) w ev hz sub fun o' L H' xs x s hL hl nb rl => q o' L xs H' (x1.trans x) s (x1.back hL) hl nb rl
      · exact q.elim
    | exc x S1 => rw [ev] at q; exact q.elim
    | bad => rw [ev] at q; exact q.elim
  | exc x S1 => rw [ev0] at q; exact q.elim
  | bad => rw [ev0] at q; exact q.elim
theorem tM_strict {K : PySem.W.Frag} {A : Om × Hp} {t : Ex} {σ : L2.St} {H : Hp} {Q : VK} (h : tM K ct A (strict t) σ H Q) : tD K ct WF t σ H Q := by
  obtain ⟨o, lo, G, S, r, q⟩ := h
  refine ⟨o.wi lo, hide G, S, r.hid, resS q fun d S1 k o' v H1 x1 s1 r1 => ?_⟩
  obtain ⟨o2, e, r2⟩ := r.afterS x1 s1
  subst e
  exact k o2 v H1 ⟨r2, x1.mono r.s, r.keptS x1⟩ r1
theorem tM_relax {K : PySem.W.Frag} {A : Om × Hp} {t : Ex} {σ : L2.St} {H : Hp} {Q : VK} (h : tM K ct A (relax t) σ H Q) : tD K ct WF t σ H Q := by
  obtain ⟨o, lo, G, S, r, q⟩ := h
  refine ⟨o, G, S, r.full, ?_⟩
  unfold relax at q
  cases ev : t G S with
  | ok d S1 =>
    rw [ev] at q
    dsimp only at q
    split at q
    · rename_i hz
      intro o' v H1 x1 s1 r1
      exact q o' v H1 ⟨r.afterF x1 s1 hz.2, r.monoF x1, r.keptF x1⟩ (r1.flat hz.1)
    · exact q.elim
  | exc x S1 => rw [ev] at q; exact q.elim
  | bad => rw [ev] at q; exact q.elim
theorem tMf_strict {K : PySem.W.Frag} {A : Om × Hp} {t : Ex} {σ : L2.St} {H : Hp} {Q : VK} (h : tMf K ct A (fstr t) σ H Q) : tDf K ct WF t σ H Q := by
  obtain ⟨o, lo, G, S, r, q⟩ := h
  refine ⟨o.wi lo, hide G, S, r.hid, ?_⟩
  unfold fstr at q
  cases ev : t (hide G) S with
  | ok d S1 =>
    rw [ev] at q
    cases d with
    | lst ds =>
      dsimp only at q
      split at q
      · obtain ⟨ds', ed, _, q⟩ := q
        cases ed
        refine ⟨ds, rfl, fun o' l vs H1 x1 s1 hn hl nb rl => ?_⟩
        obtain ⟨o2, e, r2⟩ := r.afterS x1 s1
        subst e
        exact q o2 l vs H1 ⟨r2, x1.mono r.s, r.keptS x1⟩ hn hl nb rl
      · exact q.elim
    | _ => exact q.elim
  | exc x S1 => rw [ev] at q; exact q.elim
  | bad => rw [ev] at q; exact q.elim
theorem tMf_relax {K : PySem.W.Frag} {A : Om × Hp} {t : Ex} {σ : L2.St} {H : Hp} {Q : VK} (h : tMf K ct A (frel t) σ H Q) : tDf K ct WF t σ H Q := by
  obtain ⟨o, lo, G, S, r, q⟩ := h
  refine ⟨o, G, S, r.full, ?_⟩
  unfold frel at q
  cases ev : t G S with
  | ok d S1 =>
    rw [ev] at q
    cases d with
    | lst ds =>
      dsimp only at q
      split at q
      · rename_i hf
        obtain ⟨ds', ed, _, q⟩ := q
        cases ed
        refine ⟨ds, rfl, fun o' l vs H1 x1 s1 hn hl nb rl => ?_⟩
        refine q o' l vs H1 ⟨r.afterF x1 s1 hf.2, r.monoF x1, r.keptF x1⟩ hn hl (fun z => z.elim nb fun ⟨i, hi⟩ => ?_) (rl.flats hf.1)
        obtain ⟨ds2, e1⟩ := r.wo i l hi
        obtain ⟨l', vs2, q1, q2, q3, q4⟩ := r.w i ds2 e1
        rw [hi] at q1; cases q1
        rw [hn] at q3; cases q3
      · exact q.elim
    | _ => exact q.elim
  | exc x S1 => rw [ev] at q; exact q.elim
  | bad => rw [ev] at q; exact q.elim
theorem psd_setLc {i : Nat} {t : Ex} (mode : ∀ {A : Om × Hp} {σ : L2.St} {H : Hp} {Q : VK}, tM X.K ct A t σ H Q → tD X.K ct WF (elc it g tt te vs) σ H Q) (hi : PDi X ct WF tg iter it) (hc : X.calm = true) (hN : X.N.Nodup) (ok : BlkOk X.N X.env.scope scope own)
    (hg : ∀ (s : Shared) (H : Hp) (C : Addr) (cl : List (Str × Addr)) (fp : List Addr), PGE (X.blk s H scope (compEnvC scope cl C X.env) fp) ct tg g) (ht : ∀ (s : Shared) (H : Hp) (C : Addr) (cl : List (Str × Addr)) (fp : List Addr), PTs (X.blk s H scope (compEnvC scope cl C X.env) fp) ifs (tDb X.K ct W' tt))
    (he : ∀ (s : Shared) (H : Hp) (C : Addr) (cl : List (Str × Addr)) (fp : List Addr), PD (X.blk s H scope (compEnvC scope cl C X.env) fp) ct W' elt te) (hv : vs = own.map (·.2)) (sub : ∀ i ∈ g.names, i ∈ vs) (hy : X.N[i]? = some y) (hyl : X.env.scope.names.lookup y = some .local)
    (hsw : swapsWith (.ListComp elt [⟨tg, iter, ifs, 0⟩] scope pos) (some (.Name y py)) spos.line X.env = pure true) (hs : ∀ x, foldedSetIterable iter X.env x = pure x := by intro _; rfl) : PSD X ct (.Assign [.Name y py] (.ListComp elt [⟨tg, iter, ifs, 0⟩] scope pos) spos) (sset i t) := fun A => by
  subst hv
  refine PS.wk (PS.kf (ps_setLc (g := fun v σ H Q => KF X.K H → gE X.K ct g v σ H Q) (tt := tDb X.K ct W' tt) (te := tD X.K ct W' te) hc hN hy hyl hsw hi ok (fun s H C cl fp => PG.kf (hg s H C cl fp)) ht he hs)) fun D σ H ⟨o, lo, G, S, r, q⟩ => ?_
  refine lc_tD sub (mode (A := A) ⟨o, lo, G, S, r, ?_⟩)
  unfold sset at q
  cases ev : t G S with
  | ok d S1 =>
    rw [ev] at q
    intro o1 v H1 T r1
    exact q o1 (lo.rm i) _ H1 (T.r.set (r1.mono (StRel.rmMono i))) (T.m.trans (StRel.rmMono i))
  | exc x S1 => rw [ev] at q; exact q.elim
  | bad => rw [ev] at q; exact q.elim
theorem psd_ownLc {i : Nat} {t : Ex} (mode : ∀ {A : Om × Hp} {σ : L2.St} {H : Hp} {Q : VK}, tMf X.K ct A t σ H Q → tDf X.K ct WF (elc it g tt te vs) σ H Q) (hi : PDi X ct WF tg iter it) (hc : X.calm = true) (hN : X.N.Nodup) (ok : BlkOk X.N X.env.scope scope own)
    (hg : ∀ (s : Shared) (H : Hp) (C : Addr) (cl : List (Str × Addr)) (fp : List Addr), PGE (X.blk s H scope (compEnvC scope cl C X.env) fp) ct tg g) (ht : ∀ (s : Shared) (H : Hp) (C : Addr) (cl : List (Str × Addr)) (fp : List Addr), PTs (X.blk s H scope (compEnvC scope cl C X.env) fp) ifs (tDb X.K ct W' tt))
    (he : ∀ (s : Shared) (H : Hp) (C : Addr) (cl : List (Str × Addr)) (fp : List Addr), PD (X.blk s H scope (compEnvC scope cl C X.env) fp) ct W' elt te) (hv : vs = own.map (·.2)) (sub : ∀ i ∈ g.names, i ∈ vs) (hy : X.N[i]? = some y) (hyl : X.env.scope.names.lookup y = some .local)
    (hsw : swapsWith (.ListComp elt [⟨tg, iter, ifs, 0⟩] scope pos) (some (.Name y py)) spos.line X.env = pure true) (hs : ∀ x, foldedSetIterable iter X.env x = pure x := by intro _; rfl) : PSD X ct (.Assign [.Name y py] (.ListComp elt [⟨tg, iter, ifs, 0⟩] scope pos) spos) (sown i t) := fun A => by
  subst hv
  refine PS.wk (PS.kf (ps_setLc (g := fun v σ H Q => KF X.K H → gE X.K ct g v σ H Q) (tt := tDb X.K ct W' tt) (te := tD X.K ct W' te) hc hN hy hyl hsw hi ok (fun s H C cl fp => PG.kf (hg s H C cl fp)) ht he hs)) fun D σ H ⟨o, lo, G, S, r, q⟩ => ?_
  refine lc_tDf sub (mode (A := A) ⟨o, lo, G, S, r, ?_⟩)
  unfold sown at q
  cases ev : t G S with
  | ok d S1 =>
    rw [ev] at q
    cases d with
    | lst ds =>
      dsimp only at q
      split at q
      · rename_i hz
        refine ⟨ds, rfl, hz.2.1, fun o1 l vs H1 T hn hl hb rl => ?_⟩
        obtain ⟨r2, m2⟩ := StRel.own r T.r T.m T.k hz.1 hl hn hb rl hz.2.1 hz.2.2
        exact q o1 (lo.ad i l) _ H1 r2 m2
      · exact q.elim
    | _ => exact q.elim
  | exc x S1 => rw [ev] at q; exact q.elim
  | bad => rw [ev] at q; exact q.elim
end
end DL

end
section
set_option maxRecDepth 100000
set_option maxHeartbeats 4000000
/-! The data layer: a tuple backwards. -/
namespace DL
open PySem PySem.Spec PyProof.Rows L2
theorem pick_back (xs : Array Value) : ((List.range xs.size).filterMap fun (m : Nat) => xs[(((xs.size : Int) - 1) + (m : Int) * (-1)).toNat]?).toArray = xs.toList.reverse.toArray := by
  have e : ∀ m ∈ List.range xs.size, xs[(((xs.size : Int) - 1) + (m : Int) * (-1)).toNat]? = some (xs.toList.reverse.getD m .none) := fun m hm => by
    have lt : m < xs.size := List.mem_range.mp hm
    have e1 : (((xs.size : Int) - 1) + (m : Int) * (-1)).toNat = xs.size - 1 - m := by omega
    rw [e1, List.getD_eq_getElem?_getD, List.getElem?_reverse (by simpa using lt), Array.length_toList, Array.getElem?_toList, Array.getElem?_eq_getElem (by omega)]
    rfl
  have gen : ∀ (l : List Nat) (f : Nat → Option Value) (g : Nat → Value), (∀ m ∈ l, f m = some (g m)) → l.filterMap f = l.map g := by
    intro l f g
    induction l with
    | nil => intro _; rfl
    | cons a r ih =>
      intro h
      rw [List.filterMap_cons_some (h a List.mem_cons_self), ih fun m hm => h m (List.mem_cons_of_mem _ hm)]
      rfl
  rw [gen _ _ _ e]
  congr 1
  refine List.ext_getElem (by simp) fun i h1 h2 => ?_
  simp only [List.getElem_map, List.getElem_range]
  rw [List.getD_eq_getElem?_getD, List.getElem?_eq_getElem h2]
  rfl
section
variable {prog : Program} {w : World} {A : Around} {E : Value → Shared → Prop} {s : Shared}
theorem sliceBack {sl : Addr} {vl vu vs : Value} {n : Nat} {Q : Int × Int × Nat → Shared → Prop} (hs : s.heap.IsSliceOf sl vl vu vs) (pl : IsPart vl none) (pu : IsPart vu none) (ps : IsPart vs (some (-1)))
    (h : Q ((n : Int) - 1, -1, n) s) : wpAny (model prog w) A (Builtin.Slice.sliceApplied (.ref sl) (pure (n : Int))) Q E s := by
  obtain ⟨os, hos, hcs, hds⟩ := id hs
  unfold Builtin.Slice.sliceApplied Builtin.Slice.sliceFields
  refine wpAny_bind (wpAny_bind (wpAny_field hos hds (x := vl) rfl (wpAny_bind (wpAny_field hos hds (x := vu) rfl (wpAny_bind (wpAny_field hos hds (x := vs) rfl (wpAny_pure ?_)))))))
  refine wpAny_bind (HT.slicePart_ ps ?_)
  show wpAny _ _ (if ((-1 : Int) == 0) = true then _ else _) _ _ s
  rw [if_neg (by decide)]
  refine wpAny_bind (HT.slicePart_ pl (wpAny_bind (HT.slicePart_ pu (wpAny_bind (wpAny_pure ?_)))))
  have e1 : Builtin.Slice.sliceAdjust none none (-1) (n : Int) = ((n : Int) - 1, -1) := rfl
  have e2 : Builtin.Slice.slicePlaces ((n : Int) - 1) (-1) (-1) = n := by
    unfold Builtin.Slice.slicePlaces
    simp only [show ¬ ((-1 : Int) > 0) by decide, if_false]
    have e3 : ((n : Int) - 1 - -1 - 1) / (- -1) = (n : Int) - 1 := by
      rw [show ((- -1 : Int)) = 1 by decide, Int.ediv_one]
      omega
    rw [e3]
    split <;> omega
  show wpAny _ _ (match Builtin.Slice.sliceAdjust none none (-1) (n : Int) with | (lo, hi) => pure (lo, (-1 : Int), Builtin.Slice.slicePlaces lo hi (-1))) _ _ s
  rw [e1]
  show wpAny _ _ (pure ((n : Int) - 1, (-1 : Int), Builtin.Slice.slicePlaces ((n : Int) - 1) (-1) (-1))) _ _ s
  rw [e2]
  exact wpAny_pure h
theorem getItem_back {t sl : Addr} {items : Array Value} {vl vu vs : Value} {Q : Value → Shared → Prop} (ht : IsTup s.heap t items) (hs : s.heap.IsSliceOf sl vl vu vs) (pl : IsPart vl none) (pu : IsPart vu none) (ps : IsPart vs (some (-1)))
    (h : Q (.ref s.heap.objs.size) { s with heap := s.heap.push { cls := .type "tuple", data := .seq items.toList.reverse.toArray } }) (hsz : items.size ≤ sizeLine) : wpAny (model prog w) A (getItem (.ref t) (.ref sl)) Q E s := by
  have fits : sizeOk (.seq items.toList.reverse.toArray) := by
    show items.toList.reverse.toArray.size ≤ sizeLine
    simpa using hsz
  obtain ⟨os, hos, hcs, hds⟩ := id hs
  have hTs : s.TypeIs (.ref sl) "slice" := ⟨os, hos, hcs⟩
  unfold getItem
  try with_reducible refine wpAny_holding ?_
  first | refine wpAny_bind (wpAny_pure ?_) | skip
  refine wpAny_bind (wpAny_sequenceKey ht.typeIs (by decide) ?_)
  refine wpAny_bind (wpAny_callSpecial?_slot (name := Str.ofString "__getitem__") ht.typeIs PyProof.Rows.slot_tuple_getitem (wpAny_call_entry PyProof.Rows.slot_tuple_getitem ht.typeIs entry_tuple_getitem ?_ (args_tuple_getitem _ _)))
  show wpAny _ _ (Builtin.Tuple.tupleItemsOf (.ref t) >>= _) _ _ s
  refine wpAny_bind (tupleItemsOf_ ht ?_)
  refine wpAny_bind (wpAny_typeOf hTs ?_)
  rw [if_pos (by decide)]
  refine wpAny_bind (sliceBack hs pl pu ps ?_)
  have hno : ¬ ((((items.size : Int) - 1) == 0 && (-1 : Int) == 1 && items.size == items.size) = true) := by simp
  show wpAny _ _ (if (((items.size : Int) - 1) == 0 && (-1 : Int) == 1 && items.size == items.size) = true then _ else _) _ _ s
  rw [if_neg hno, pick_back]
  first
    | exact wpAny_bind (m := Builtin.Tuple.tupleExact _) (wpAny_newObj_type (wpAny_pure ⟨_, rfl, wpAny_pure h⟩) fits)
    | exact wpAny_bind (m := Builtin.Tuple.tupleExact _) (wpAny_newObj_type (wpAny_bind (wpAny_pure (wpAny_pure ⟨_, rfl, wpAny_pure h⟩))) fits)
    | exact wpAny_bind (wpAny_bind (m := Builtin.Tuple.tupleExact _) (wpAny_newObj_type (wpAny_pure (wpAny_pure ⟨_, rfl, wpAny_pure h⟩)) fits))
    | exact wpAny_bind (wpAny_bind (m := Builtin.Tuple.tupleExact _) (wpAny_newObj_type (wpAny_pure ⟨_, rfl, wpAny_pure h⟩) fits))
end
/-- a[::-1] -/
def erev (a : Ex) : Ex := fun G S => (a G S).bind fun x S1 => match x with
  | .tup xs => .ok (.tup xs.reverse) S1
  | .lst xs => .ok (.lst xs.reverse) S1
  | _ => .bad
def tRevT (K : PySem.W.Frag) (te : TE) : TE := fun σ H Q => te σ H fun x H1 => ∃ a xs, x = .ref a ∧ SqT K H1 a xs ∧ ∀ p, H1 p = none → Q (.ref p) (upd H1 p (.tup xs.reverse))
theorem pe_revT {X : Cx} {e : Expr} {te : TE} {k : Nat} {p1 p2 p3 pos : Pos} (he : PE X e te) : PE X (.Subscript e (.Slice none none (some (.UnaryOp .USub (.Constant (.int 1) k p1) p2)) p3) pos) (tRevT X.K te) := by
  refine ⟨fun pins s σ H Q I h => Subscript_ (thn (he.run pins s σ H _ I h) fun v s1 ⟨x, H1, I1, r1, a, xs, ex, hx, q⟩ => ?_)⟩
  subst ex
  cases r1
  have part : PO X (some (.UnaryOp .USub (.Constant (.int 1) k p1) p2)) (tPart (tUn (rU fun i => .int (-i)) (tC (.int 1)))) := po_some (pe_un un_neg pe_int)
  refine wpAny_Slice (thn (po_none.run pins s1 σ H1 (fun o H2 => o = none ∧ H2 = H1) I1 ⟨rfl, rfl⟩) fun vl s2 ⟨l, H2, I2, pl, el, e2⟩ => ?_)
  subst el e2
  refine thn (po_none.run pins s2 σ H2 (fun o H3 => o = none ∧ H3 = H2) I2 ⟨rfl, rfl⟩) fun vu s3 ⟨u, H3, I3, pu, eu, e3⟩ => ?_
  subst eu e3
  refine thn (part.run pins s3 σ H3 (fun o H4 => o = some (-1) ∧ H4 = H3) I3 ⟨1, rfl, -1, rfl, rfl, rfl⟩) fun vs s4 ⟨o, H4, I4, ps, eo, e4⟩ => ?_
  subst eo e4
  have I5 : Inv X pins σ H4 { s4 with heap := s4.heap.push { cls := .type "slice", data := .fields #[vl, vu, vs] } } := I4.kept (t' := s4.toks) fun b ob q => Heap.get?_push_of_some _ q
  obtain ⟨its, r, ht, hz⟩ := I5.tuple hx
  have hlen := r.length
  show wpAny (model X.prog X.w) X.A (subscriptTail e (.Slice none none (some (.UnaryOp .USub (.Constant (.int 1) k p1) p2)) p3) (.ref a) (.ref s4.heap.objs.size)) (EP X pins σ Q) X.xe { s4 with heap := s4.heap.push { cls := .type "slice", data := .fields #[vl, vu, vs] } }
  refine tail_any (ops := [.ref a, .ref s4.heap.objs.size]) ht.typeIs (PyProof.Rows.slot_tuple_getitem.lookup) ?_ (by with_unfolding_all rfl)
  refine getItem_back ht (Heap.IsSliceOf.new _ vl vu vs) pl pu ps ?_ (by rw [List.size_toArray]; omega)
  refine ⟨.ref _, _, I5.laid (t' := s4.toks) (o := .tup xs.reverse) (fun b ob q => Heap.get?_push_of_some _ q) (Nat.le_refl _) ?_, rfl, q _ (I5.hok.fresh (Nat.le_refl _))⟩
  refine ⟨by rw [List.length_reverse]; exact hz, its.reverse, r.reverse, ?_⟩
  exact ⟨_, Heap.get?_push_size _ rfl, rfl, _, rfl⟩
theorem pd_rev {X : Cx} {ct : CT} {W : Wish} {e : Expr} {te : Ex} {k : Nat} {p1 p2 p3 pos : Pos} (he : PD X ct W e te) : PD X ct W (.Subscript e (.Slice none none (some (.UnaryOp .USub (.Constant (.int 1) k p1) p2)) p3) pos) (erev te) := by
  have h1 := PE.kf (pe_revT (k := k) (p1 := p1) (p2 := p2) (p3 := p3) (pos := pos) he)
  have h2 := PE.kf (pe_revL (k := k) (p1 := p1) (p2 := p2) (p3 := p3) (pos := pos) he)
  refine ⟨fun pins s σ H Q I ⟨o, G, S, er, q⟩ => ?_⟩
  have q : Res X.K ct W o H ((te G S).bind fun x S1 => match x with
    | .tup xs => .ok (.tup xs.reverse) S1
    | .lst xs => .ok (.lst xs.reverse) S1
    | _ => .bad) (After X.K ct o H Q) := q
  cases ev : te G S with
  | ok d S1 =>
    rw [ev] at q
    cases d with
    | tup xs =>
      refine h1.run pins s σ H Q I ⟨o, G, S, er, ?_⟩
      rw [ev]
      intro o1 v H1 x1 s1 r1
      cases r1 with
      | tup ht r => exact ⟨_, _, rfl, ht, fun p hp kf => new_tup s1 hp kf r.reverse (After.later x1 q)⟩
    | lst xs =>
      refine h2.run pins s σ H Q I ⟨o, G, S, er, ?_⟩
      rw [ev]
      intro o1 v H1 x1 s1 r1
      cases r1 with
      | lst hl nb r => exact ⟨_, _, rfl, .of hl, fun p hp kf => new_lst s1 hp kf r.reverse (After.later x1 q)⟩
    | _ => exact q.elim
  | exc y S1 =>
    rw [ev] at q
    exact h1.run pins s σ H Q I ⟨o, G, S, er, by rw [ev]; exact q⟩
  | bad => rw [ev] at q; exact q.elim
end DL

end
section
set_option maxRecDepth 100000
set_option maxHeartbeats 1000000
/-! The data layer: how the functions of data are reckoned with. -/
namespace DL
section
variable {G : Env} {S : Store} {i j k : Nat} {a b c te to ti t : Ex} {xa xb xc : Tx} {ts : Exs} {u v : St} {f g : D → D → Option D} {d : D}
@[simp] theorem ev_evar : evar i G S = match look G i with | some d => .ok d S | none => .bad := (rfl)
@[simp] theorem ev_ec : ec d G S = .ok d S := (rfl)
@[simp] theorem ev_ebin : ebin f a b G S = (a G S).bind fun x S1 => (b G S1).bind fun y S2 => match f x y with | some z => .ok z S2 | none => .bad := (rfl)
@[simp] theorem ev_eun {f : D → Option D} : eun f a G S = (a G S).bind fun x S1 => match f x with | some z => .ok z S1 | none => .bad := (rfl)
@[simp] theorem ev_tst : tst a G S = (a G S).bind fun x S1 => match x with | .bl b => .ok b S1 | _ => .bad := (rfl)
@[simp] theorem ev_tru : tru a G S = (a G S).bind fun x S1 => match x.truth with | some b => .ok b S1 | none => .bad := (rfl)
@[simp] theorem ev_band : band xa xb G S = (xa G S).bind fun x S1 => if x = true then xb G S1 else .ok false S1 := (rfl)
@[simp] theorem ev_bor : bor xa xb G S = (xa G S).bind fun x S1 => if x = true then .ok true S1 else xb G S1 := (rfl)
@[simp] theorem ev_bnot : bnot xa G S = (xa G S).bind fun x S1 => .ok (!x) S1 := (rfl)
@[simp] theorem ev_eite : eite xc a b G S = (xc G S).bind fun x S1 => if x = true then a G S1 else b G S1 := (rfl)
@[simp] theorem ev_eand : eand a b G S = (a G S).bind fun x S1 => match x with | .bl true => b G S1 | .bl false => .ok (.bl false) S1 | _ => .bad := (rfl)
@[simp] theorem ev_eor : eor a b G S = (a G S).bind fun x S1 => match x with | .bl true => .ok (.bl true) S1 | .bl false => b G S1 | _ => .bad := (rfl)
@[simp] theorem ev_enot : enot a G S = (a G S).bind fun x S1 => match x.truth with | some b => .ok (.bl (!b)) S1 | none => .bad := (rfl)
@[simp] theorem ev_enil : enil G S = .ok [] S := (rfl)
@[simp] theorem ev_econs : econs a ts G S = (a G S).bind fun x S1 => (ts G S1).bind fun xs S2 => .ok (x :: xs) S2 := (rfl)
@[simp] theorem ev_etup : etup ts G S = (ts G S).bind fun xs S1 => if xs.length ≤ 16777216 then .ok (.tup xs) S1 else .bad := (rfl)
@[simp] theorem ev_elst : elst ts G S = (ts G S).bind fun xs S1 => if xs.length ≤ 16777216 then .ok (.lst xs) S1 else .bad := (rfl)
@[simp] theorem ev_eix : eix a b G S = (a G S).bind fun x S1 => (b G S1).bind fun y S2 => match opIx (deref S2 x) y with | some z => .ok z S2 | none => .bad := (rfl)
@[simp] theorem ev_elen : elen a G S = (a G S).bind fun x S1 => match fLen [deref S1 x] with | some z => .ok z S1 | none => .bad := (rfl)
@[simp] theorem ev_ecal {f : List D → Option D} : ecal f ts G S = (ts G S).bind fun xs S1 => match f xs with | some z => .ok z S1 | none => .bad := (rfl)
@[simp] theorem ev_ecall {h : Fn} : ecall h ts G S = (ts G S).bind fun xs S1 => match h xs S1 with | .ok z S2 => .ok z S2 | _ => .bad := (rfl)
@[simp] theorem ev_ebits : ebits a G S = (a G S).bind fun x S1 => match x with | .int i => .ok (.int (PySem.Builtin.Int.intBits i : Nat)) S1 | _ => .bad := (rfl)
@[simp] theorem ev_onone : onone G S = .ok none S := (rfl)
@[simp] theorem ev_osome : osome a G S = (a G S).bind fun x S1 => match x with | .int i => .ok (some i) S1 | _ => .bad := (rfl)
@[simp] theorem ev_ecut {l h : Ox} : ecut a l h G S = (a G S).bind fun x S1 => (l G S1).bind fun l S2 => (h G S2).bind fun h S3 => match x.cut l h with | some z => .ok z S3 | none => .bad := (rfl)
@[simp] theorem ev_eisi {T : BT} : eisi a T G S = (a G S).bind fun x S1 => match x.isT T with | some b => .ok (.bl b) S1 | none => .bad := (rfl)
@[simp] theorem ev_efld : efld a k j G S = (a G S).bind fun x S1 => match fldOf S1 k j x with | some d => .ok d S1 | none => .bad := (rfl)
@[simp] theorem ev_emeth {h : Fn} : emeth a k h ts G S = (a G S).bind fun x S1 => if clsOf S1 x = some k then (ts G S1).bind fun xs S2 => match h (x :: xs) S2 with | .ok z S3 => .ok z S3 | _ => .bad else .bad := (rfl)
@[simp] theorem ev_enew {h : Fn} : enew k j h ts G S = (ts G S).bind fun xs S1 => match h (.obj S1.length :: xs) (S1 ++ [⟨k, List.replicate j .no⟩]) with | .ok .non S2 => .ok (.obj S1.length) S2 | _ => .bad := (rfl)
@[simp] theorem ev_erev : erev a G S = (a G S).bind fun x S1 => match x with | .tup xs => .ok (.tup xs.reverse) S1 | .lst xs => .ok (.lst xs.reverse) S1 | _ => .bad := (rfl)
@[simp] theorem ev_iseq : iseq a G S = (a G S).bind fun x S1 => match x with | .lst ds => .ok ds S1 | .tup ds => .ok ds S1 | _ => .bad := (rfl)
@[simp] theorem ev_elc {it : Ix} {g : Tg} {tt : Tx} {vs : List Nat} : elc it g tt te vs G S = (it G S).bind fun ds S1 => match runLc g tt te (wipeG G vs) ds S1 with | .ok ys S2 => if ds.length ≤ 16777216 then .ok (.lst ys) S2 else .bad | _ => .bad := (rfl)
@[simp] theorem ev_strict {α : Type} {w : Env → Store → R α} : strict w G S = w (hide G) S := (rfl)
@[simp] theorem ev_relax : relax a G S = match a G S with | .ok d S1 => if d.flat = true ∧ Store.flat S1 = true then .ok d S1 else .bad | _ => .bad := (rfl)
@[simp] theorem ev_fstr : fstr a G S = match a (hide G) S with | .ok (.lst ds) S1 => if D.flats ds = true then .ok (.lst ds) S1 else .bad | _ => .bad := (rfl)
@[simp] theorem ev_frel : frel a G S = match a G S with | .ok (.lst ds) S1 => if D.flats ds = true ∧ Store.flat S1 = true then .ok (.lst ds) S1 else .bad | _ => .bad := (rfl)
@[simp] theorem ev_snx : snx G S = .nx G S := (rfl)
@[simp] theorem ev_sseq : sseq u v G S = match u G S with | .nx G' S' => v G' S' | z => z := (rfl)
@[simp] theorem ev_sset : sset i a G S = match a G S with | .ok d S1 => .nx (G.set i (.val d)) S1 | _ => .bad := (rfl)
@[simp] theorem ev_sown : sown i a G S = match a G S with | .ok (.lst ds) S1 => if i < G.length ∧ D.flats ds = true ∧ Store.flat S1 = true then .nx (G.set i (.own ds)) S1 else .bad | _ => .bad := (rfl)
@[simp] theorem ev_sfrz : sfrz i u G S = match G[i]? with | some (.own ds) => u (G.set i (.val (.lst ds))) S | _ => u G S := (rfl)
@[simp] theorem ev_sret : sret a G S = match a G S with | .ok d S1 => .rt d S1 | _ => .bad := (rfl)
@[simp] theorem ev_sdrop : sdrop a G S = match a G S with | .ok _ S1 => .nx G S1 | _ => .bad := (rfl)
@[simp] theorem ev_sif : sif xc u v G S = match xc G S with | .ok true S1 => u G S1 | .ok false S1 => v G S1 | _ => .bad := (rfl)
@[simp] theorem ev_sasg {g : Tg} : sasg g a G S = match a G S with | .ok d S1 => (match g.put d G with | some G' => .nx G' S1 | none => .bad) | _ => .bad := (rfl)
@[simp] theorem ev_spar : spar i j ts G S = match ts G S with | .ok [d, e] S1 => .nx ((G.set i (.val d)).set j (.val e)) S1 | _ => .bad := (rfl)
@[simp] theorem ev_spar3 : spar3 i j k ts G S = match ts G S with | .ok [d, e, f] S1 => .nx (((G.set i (.val d)).set j (.val e)).set k (.val f)) S1 | _ => .bad := (rfl)
@[simp] theorem ev_saug : saug i f a G S = match G[i]? with | some (.val d) => (match a G S with | .ok y S1 => (match f d y with | some z => .nx (G.set i (.val z)) S1 | none => .bad) | _ => .bad) | _ => .bad := (rfl)
@[simp] theorem ev_sfor {it : Ix} {g : Tg} : sfor it g u G S = match it G S with | .ok ds S1 => runFor g u ds G S1 | _ => .bad := (rfl)
@[simp] theorem ev_swhile {n : Nat} : swhile n xc u G S = runWhile xc u n G S := (rfl)
@[simp] theorem ev_sadd {f : D → Option (List D)} : sadd i f a G S = match a G S with | .ok d S1 => (match G[i]?, f d with | some (.own ds), some es => (if ds.length + es.length ≤ 16777216 then .nx (G.set i (.own (ds ++ es))) S1 else .bad) | _, _ => .bad) | _ => .bad := (rfl)
@[simp] theorem ev_sput : sput i ti a G S = match a G S with | .ok d S1 => (match ti G S1 with | .ok (.int k) S2 => (match G[i]? with | some (.own ds) => (match L2.ixN ds.length k with | some j => .nx (G.set i (.own (ds.set j d))) S2 | none => .bad) | _ => .bad) | _ => .bad) | _ => .bad := (rfl)
@[simp] theorem ev_sputa : sputa i f ti a G S = match ti G S with | .ok (.int k) S1 => (match a G S1 with | .ok d S2 => (match G[i]? with | some (.own ds) => (match L2.ixN ds.length k with | some j => (match ds[j]? with | some d0 => (match f d0 d with | some z => .nx (G.set i (.own (ds.set j z))) S2 | none => .bad) | none => .bad) | none => .bad) | _ => .bad) | _ => .bad) | _ => .bad := (rfl)
@[simp] theorem ev_mkFn {np n : Nat} {ds : List D} : mkFn np n u ds S = if ds.length = np then match u (ds.map Slot.val ++ List.replicate (n - np) .no) S with | .rt d S' => .ok d S' | .nx _ S' => .ok .non S' | .exc x _ S' => .exc x S' | _ => .bad else .bad := (rfl)
@[simp] theorem ev_look0 {s : Slot} : look (s :: G) 0 = s.look := (rfl)
@[simp] theorem ev_lookS {s : Slot} : look (s :: G) (i + 1) = look G i := (rfl)
@[simp] theorem ev_slook {d : D} : (Slot.val d).look = some d := (rfl)
@[simp] theorem ev_slookO {ds : List D} : (Slot.own ds).look = some (.lst ds) := (rfl)
@[simp] theorem ev_hide0 : hide [] = [] := (rfl)
@[simp] theorem ev_hideV : hide (.val d :: G) = .val d :: hide G := (rfl)
@[simp] theorem ev_hideO {ds : List D} : hide (.own ds :: G) = .no :: hide G := (rfl)
@[simp] theorem ev_hideN : hide (.no :: G) = .no :: hide G := (rfl)
@[simp] theorem ev_put {g : Nat} : Tg.put (.nm g) d G = some (G.set g (.val d)) := (rfl)
@[simp] theorem ev_putT {gs : List Tg} {ds : List D} : Tg.put (.tp gs) (.tup ds) G = Tg.puts gs ds G := (rfl)
@[simp] theorem ev_puts0 : Tg.puts [] [] G = some G := (rfl)
@[simp] theorem ev_putsC {g : Tg} {gs : List Tg} {ds : List D} : Tg.puts (g :: gs) (d :: ds) G = (Tg.put g d G).bind (Tg.puts gs ds) := (rfl)
@[simp] theorem ev_runFor0 {g : Tg} : runFor g u [] G S = .nx G S := (rfl)
theorem ev_runForC {g : Tg} {ds : List D} : runFor g u (d :: ds) G S = match g.put d G with | some G1 => (match u G1 S with | .nx G2 S2 => runFor g u ds G2 S2 | .ct G2 S2 => runFor g u ds G2 S2 | .bk G2 S2 => .nx G2 S2 | z => z) | none => .bad := (rfl)
theorem ev_runWhileS {n : Nat} : runWhile xc u (n + 1) G S = match xc G S with | .ok true S1 => (match u G S1 with | .nx G2 S2 => runWhile xc u n G2 S2 | .ct G2 S2 => runWhile xc u n G2 S2 | .bk G2 S2 => .nx G2 S2 | z => z) | .ok false S1 => .nx G S1 | _ => .bad := (rfl)
@[simp] theorem ev_deref_int {i : Int} : deref S (.int i) = .int i := (rfl)
@[simp] theorem ev_deref_tup {ds : List D} : deref S (.tup ds) = .tup ds := (rfl)
@[simp] theorem ev_deref_lst {ds : List D} : deref S (.lst ds) = .lst ds := (rfl)
@[simp] theorem ev_deref_scr {ds : List Int} : deref S (.scr ds) = .scr ds := (rfl)
@[simp] theorem ev_add {i j : Int} : opAdd (.int i) (.int j) = some (.int (i + j)) := (rfl)
@[simp] theorem ev_sub {i j : Int} : opSub (.int i) (.int j) = some (.int (i - j)) := (rfl)
@[simp] theorem ev_mul {i j : Int} : opMul (.int i) (.int j) = if mulOk i j = true then some (.int (i * j)) else none := (rfl)
@[simp] theorem ev_div {i j : Int} : opDiv (.int i) (.int j) = if 0 < j ∧ j.natAbs.log2 < 9000 then some (.int (i / j)) else none := (rfl)
@[simp] theorem ev_mod {i j : Int} : opMod (.int i) (.int j) = if 0 < j then some (.int (i % j)) else none := (rfl)
@[simp] theorem ev_shl {i j : Int} : opShl (.int i) (.int j) = if 0 ≤ j ∧ j ≤ 1000000 ∧ i.natAbs.log2 < 10000000 then some (.int (i * 2 ^ j.toNat)) else none := (rfl)
@[simp] theorem ev_shr {i j : Int} : opShr (.int i) (.int j) = if 0 ≤ j then some (.int (i / 2 ^ j.toNat)) else none := (rfl)
@[simp] theorem ev_neg {i : Int} : opNeg (.int i) = some (.int (-i)) := (rfl)
@[simp] theorem ev_lt {i j : Int} : opLt (.int i) (.int j) = some (.bl (decide (i < j))) := (rfl)
@[simp] theorem ev_le {i j : Int} : opLe (.int i) (.int j) = some (.bl (decide (i ≤ j))) := (rfl)
@[simp] theorem ev_gt {i j : Int} : opGt (.int i) (.int j) = some (.bl (decide (j < i))) := (rfl)
@[simp] theorem ev_ge {i j : Int} : opGe (.int i) (.int j) = some (.bl (decide (j ≤ i))) := (rfl)
@[simp] theorem ev_eq {i j : Int} : opEq (.int i) (.int j) = some (.bl (i == j)) := (rfl)
@[simp] theorem ev_ne {i j : Int} : opNe (.int i) (.int j) = some (.bl (!(i == j))) := (rfl)
@[simp] theorem ev_onInts {i j : Int} : onInts f (.int i) (.int j) = f (.int i) (.int j) := (rfl)
@[simp] theorem ev_max2 {i j : Int} : fMax2 [.int i, .int j] = some (.int (if j > i then j else i)) := (rfl)
@[simp] theorem ev_min2 {i j : Int} : fMin2 [.int i, .int j] = some (.int (if j < i then j else i)) := (rfl)
@[simp] theorem ev_int1 {i : Int} : fInt1 [.int i] = some (.int i) := (rfl)
@[simp] theorem ev_abs {i : Int} : fAbs [.int i] = some (.int (if i < 0 then -i else i)) := (rfl)
@[simp] theorem ev_tupleL {xs : List D} : fTuple [.lst xs] = some (.tup xs) := (rfl)
@[simp] theorem ev_tupleT {xs : List D} : fTuple [.tup xs] = some (.tup xs) := (rfl)
@[simp] theorem ev_lenT {xs : List D} : fLen [.tup xs] = some (.int xs.length) := (rfl)
@[simp] theorem ev_lenL {xs : List D} : fLen [.lst xs] = some (.int xs.length) := (rfl)
@[simp] theorem ev_lenS {xs : List Int} : fLen [.scr xs] = some (.int xs.length) := (rfl)
@[simp] theorem ev_addOne : addOne d = some [d] := (rfl)
@[simp] theorem ev_items2 {xs : List D} : D.items2 (.tup xs) = some xs := (rfl)
@[simp] theorem ev_truthB {b : Bool} : (D.bl b).truth = some b := (rfl)
@[simp] theorem ev_cutT {xs : List D} {l h : Option Int} : D.cut l h (.tup xs) = some (.tup (cutL xs l h)) := (rfl)
@[simp] theorem ev_cutLs {xs : List D} {l h : Option Int} : D.cut l h (.lst xs) = some (.lst (cutL xs l h)) := (rfl)
end
abbrev tI' (xs : List Int) : D := .tup (xs.map D.int)
abbrev lI' (xs : List Int) : D := .lst (xs.map D.int)
@[simp] theorem ints_map : ∀ xs : List Int, D.ints (xs.map D.int) = some xs
  | [] => rfl
  | x :: r => by show (D.ints (r.map D.int)).map (x :: ·) = _; rw [ints_map r]; rfl
@[simp] theorem ev_sumT {xs : List Int} : fSum [.tup (xs.map D.int)] = some (.int xs.sum) := by
  show (D.ints (xs.map D.int)).map _ = _
  rw [ints_map]; rfl
@[simp] theorem ev_sumL {xs : List Int} : fSum [.lst (xs.map D.int)] = some (.int xs.sum) := by
  show (D.ints (xs.map D.int)).map _ = _
  rw [ints_map]; rfl
@[simp] theorem flats_ints : ∀ xs : List Int, D.flats (xs.map D.int) = true
  | [] => rfl
  | x :: r => by show (true && D.flats (r.map D.int)) = true; rw [flats_ints r]; rfl
theorem ixN_nat (n j : Nat) (h : j < n) : L2.ixN n (j : Int) = some j := by
  unfold L2.ixN
  rw [if_pos (Int.natCast_nonneg j), if_pos (by omega)]
  simp
theorem atI_nat' {α : Type} (xs : List α) (j : Nat) : L2.atI xs (j : Int) = xs[j]? := by
  unfold L2.atI
  by_cases h : j < xs.length
  · rw [ixN_nat _ _ h]; rfl
  · rw [List.getElem?_eq_none (by omega)]
    unfold L2.ixN
    rw [if_pos (Int.natCast_nonneg j), if_neg (by omega)]; rfl
/-- an item of a tuple, a list of ints -/
theorem ix_ti (xs : List Int) (j : Nat) (h : j < xs.length) : opIx (.tup (xs.map D.int)) (.int (j : Int)) = some (.int xs[j]) := by
  show L2.atI _ _ = _
  rw [atI_nat']; simp [h]
theorem ix_li (xs : List Int) (j : Nat) (h : j < xs.length) : opIx (.lst (xs.map D.int)) (.int (j : Int)) = some (.int xs[j]) := by
  show L2.atI _ _ = _
  rw [atI_nat']; simp [h]
theorem ix_tup (xs : List D) (j : Nat) : opIx (.tup xs) (.int (j : Int)) = xs[j]? := atI_nat' xs j
theorem ix_lst (xs : List D) (j : Nat) : opIx (.lst xs) (.int (j : Int)) = xs[j]? := atI_nat' xs j
theorem cut_take {α : Type} (xs : List α) (j : Nat) : cutL xs none (some (j : Int)) = xs.take j := by
  unfold cutL
  rw [HT.sIx_none, HT.sIx_nat]
  simp
theorem cut_drop {α : Type} (xs : List α) (j : Nat) : cutL xs (some (j : Int)) none = xs.drop j := by
  unfold cutL
  rw [HT.sIx_none, HT.sIx_nat]
  by_cases h : j ≤ xs.length
  · rw [Nat.min_eq_left h]
    exact List.take_of_length_le (by rw [List.length_drop]; omega)
  · rw [Nat.min_eq_right (by omega), List.drop_length, List.drop_eq_nil_of_le (by omega)]; simp
theorem runLc_map {g : Tg} {te : Ex} {G : Env} {S : Store} (f : D → D) : ∀ ds : List D, (∀ d ∈ ds, ∃ G1, g.put d G = some G1 ∧ te G1 S = .ok (f d) S) → runLc g tyes te G ds S = .ok (ds.map f) S
  | [], _ => rfl
  | d :: r, h => by
    obtain ⟨G1, h1, h2⟩ := h d List.mem_cons_self
    have ih := runLc_map f r fun d hd => h d (List.mem_cons_of_mem _ hd)
    unfold runLc
    rw [h1]
    simp only [tyes, h2, ih, List.map_cons]
/-- a loop that keeps P -/
theorem runFor_all {g : Tg} {u : St} {α : Type} (emb : α → D) (P : List α → Env → Store → Prop) (step : ∀ x done G S, P done G S → ∃ G1 G2 S2, g.put (emb x) G = some G1 ∧ u G1 S = .nx G2 S2 ∧ P (done ++ [x]) G2 S2) :
    ∀ (xs done : List α) (G : Env) (S : Store), P done G S → ∃ G' S', runFor g u (xs.map emb) G S = .nx G' S' ∧ P (done ++ xs) G' S'
  | [], done, G, S, h => ⟨G, S, rfl, by rw [List.append_nil]; exact h⟩
  | x :: r, done, G, S, h => by
    obtain ⟨G1, G2, S2, h1, h2, h3⟩ := step x done G S h
    obtain ⟨G', S', h4, h5⟩ := runFor_all emb P step r (done ++ [x]) G2 S2 h3
    refine ⟨G', S', ?_, by rw [List.append_assoc] at h5; exact h5⟩
    rw [List.map_cons, ev_runForC, h1]
    dsimp only
    rw [h2]
    exact h4
/-- the same where the items lie in a set -/
theorem runFor_mem {g : Tg} {u : St} {α : Type} (emb : α → D) (P : List α → Env → Store → Prop) : ∀ (xs done : List α) (G : Env) (S : Store), (∀ x ∈ xs, ∀ done G S, P done G S → ∃ G1 G2 S2, g.put (emb x) G = some G1 ∧ u G1 S = .nx G2 S2 ∧ P (done ++ [x]) G2 S2) → P done G S →
    ∃ G' S', runFor g u (xs.map emb) G S = .nx G' S' ∧ P (done ++ xs) G' S'
  | [], done, G, S, _, h => ⟨G, S, rfl, by rw [List.append_nil]; exact h⟩
  | x :: r, done, G, S, step, h => by
    obtain ⟨G1, G2, S2, h1, h2, h3⟩ := step x List.mem_cons_self done G S h
    obtain ⟨G', S', h4, h5⟩ := runFor_mem emb P r (done ++ [x]) G2 S2 (fun y hy => step y (List.mem_cons_of_mem _ hy)) h3
    refine ⟨G', S', ?_, by rw [List.append_assoc] at h5; exact h5⟩
    rw [List.map_cons, ev_runForC, h1]
    dsimp only
    rw [h2]
    exact h4
theorem rng_nat (n : Nat) : rngD 0 n = (List.range n).map fun i : Nat => D.int (i : Int) := by
  unfold rngD
  refine List.map_congr_left fun i _ => ?_
  rw [Int.zero_add]
theorem irng1_nat {ts : Exs} {G : Env} {S S1 : Store} {n : Nat} (h : ts G S = .ok [.int (n : Int)] S1) (hn : n ≤ 16777216) : irng1 ts G S = .ok ((List.range n).map fun i : Nat => D.int (i : Int)) S1 := by
  unfold irng1
  rw [h, ← rng_nat]
  exact gate_pos ⟨by omega, by omega⟩
theorem irng2_nat {ts : Exs} {G : Env} {S S1 : Store} {i j : Int} (h : ts G S = .ok [.int i, .int j] S1) (hi : -16777216 ≤ i ∧ i ≤ 16777216) (hj : -16777216 ≤ j ∧ j ≤ 16777216) : irng2 ts G S = .ok (rngD i (j - i).toNat) S1 := by
  unfold irng2
  rw [h]
  exact gate_pos ⟨by omega, by omega, by omega, by omega⟩
end DL

end
section
set_option maxRecDepth 100000
set_option maxHeartbeats 2000000
/-! The data layer: what the module's run leaves. -/
namespace DL
open PySem PySem.Spec PyProof.Rows L2

/-- a value that K holds is the data d -/
def repB (K : PySem.W.Frag) : Nat → Value → D → Bool
  | _, .int i _, .int j => i == j
  | n + 1, .ref a, .tup ds => match K.lookup a with
    | some ⟨.type c, _, .seq its _, _⟩ => decide (c = "tuple") && (decide (its.size ≤ sizeLine) && repsB K n its.toList ds)
    | _ => false
  | _, _, _ => false
where repsB (K : PySem.W.Frag) : Nat → List Value → List D → Bool
  | _, [], [] => true
  | n, u :: us, d :: ds => repB K n u d && repsB K n us ds
  | _, _, _ => false
mutual
theorem repB_ok {K : PySem.W.Frag} : ∀ (n : Nat) (u : Value) (d : D), repB K n u d = true → ∃ v, RelV v u ∧ ∀ o H, Rep K o H v d
  | n, u, d, h => by
    unfold repB at h
    split at h
    · rw [eq_of_beq h]
      exact ⟨.int _, ⟨_, rfl⟩, fun o H => .int _⟩
    · rename_i n a ds
      split at h
      · rename_i c dct its k sl e
        rw [Bool.and_eq_true, Bool.and_eq_true] at h
        obtain ⟨h1, h2, h3⟩ := h
        obtain ⟨vs, r, q⟩ := repsB_ok n its.toList ds h3
        refine ⟨.ref a, rfl, fun o H => .tup (.inr ⟨_, its, k, e, by rw [of_decide_eq_true h1], rfl, of_decide_eq_true h2, r⟩) (q o H)⟩
      · cases h
    · cases h
theorem repsB_ok {K : PySem.W.Frag} : ∀ (n : Nat) (us : List Value) (ds : List D), repB.repsB K n us ds = true → ∃ vs, Vals vs us ∧ ∀ o H, RepL K o H vs ds
  | n, [], [], _ => ⟨[], .nil, fun _ _ => .nil⟩
  | n, u :: us, d :: ds, h => by
    unfold repB.repsB at h
    rw [Bool.and_eq_true] at h
    obtain ⟨v, r1, q1⟩ := repB_ok n u d h.1
    obtain ⟨vs, r2, q2⟩ := repsB_ok n us ds h.2
    exact ⟨v :: vs, .cons r1 r2, fun o H => .cons (q1 o H) (q2 o H)⟩
  | n, [], _ :: _, h => by unfold repB.repsB at h; cases h
  | n, _ :: _, [], h => by unfold repB.repsB at h; cases h
end
abbrev AlY : Type := Bool × He.AlD
def obsY (n : Nat) (fa : List He.Fa) (fn : List He.DefD) (ex : PySem.W.Frag → Bool) (g : Addr → Option Obj) : AlY := (ex (He.frG g (He.asD g n)), He.obsDG n fa fn g)
def hookY (n : Nat) (fa : List He.Fa) (fn : List He.DefD) (ex : PySem.W.Frag → Bool) : PySem.W.Hook where
  α := AlY
  obs := fun s => obsY n fa fn ex s.heap.get?
  val := fun _ => (true, He.valD fn)
  says := fun _ h => ∃ K : PySem.W.Frag, K.In h ∧ ex K = true ∧ He.SaysD fa fn K
  of := fun _ _ e => ⟨_, He.frG_in, congrArg (fun z : AlY => z.1) e, congrArg (fun z : AlY => z.2) e⟩
  keeps := fun _ _ _ ⟨K, hK, c⟩ k => ⟨K, PySem.W.Frag.In.keeps hK k, c⟩
theorem obsY_eq {n : Nat} {fa : List He.Fa} {fn : List He.DefD} {ex : PySem.W.Frag → Bool} {g : Addr → Option Obj} {s : Shared} (h : ∀ a, g a = s.heap.get? a) : obsY n fa fn ex g = (hookY n fa fn ex).obs s := by
  have e : g = s.heap.get? := funext h
  rw [e] <;> rfl
theorem kd_of {K : PySem.W.Frag} {mg : Str → Option Value} {x : Str} {d : D} {n : Nat} (h : mg x = some (.ref (He.ga K x))) (e : repB K n (.ref (He.ga K x)) d = true) : KD K mg x d := by
  obtain ⟨v, r, q⟩ := repB_ok n _ d e
  exact ⟨v, _, h, r, q⟩
theorem cd_ok {K : PySem.W.Frag} {c : CD} (h1 : Cls K c.C) (h2 : (c.fl.all fun f => (PySem.W.findIn K (.ref c.C) f == some none)) = true) (h3 : c.fl.Nodup) (h4 : c.fl.length ≤ 900) : CDok K c :=
  ⟨h1, fun f hf => eq_of_beq (List.all_eq_true.mp h2 f hf), h3, h4⟩
section
variable {P : Program} {w : World} {K : PySem.W.Frag} {mg : Str → Option Value} {base : Heap} {ct : CT}
theorem FA.mkE {x qual : Str} {params : Arguments} {body : List Stmt} {scope : Scope} {f : Addr} {fd : FuncData} {N ps : List Str} {k np n : Nat} {t : St} (F : FunD K x qual params body scope [] [] f fd) (S : FnScope N ps scope) (hp : ps.length = np) (hn : N.length = n)
    (h : ∀ (cdv : Value) (A : Around) (outer : List PySem.Env) (s : Shared) (H : Hp) (E : XK), Room k (XB P w K mg base N qual scope f cdv A outer s H E).A → PSDs (XB P w K mg base N qual scope f cdv A outer s H E) ct body t) : FnOk P w K mg base CX0 (k + 1) f fd ps (spD K ct (mkFn np n t)) := by
  have hpn : np ≤ N.length := by
    have := congrArg List.length S.pre
    rw [List.length_take] at this
    omega
  refine F.ok S (fun vs H Q E ⟨o, St, ds, sr, rx, q⟩ => ?_) fun cdv A outer s H vs Q E hr ⟨o, St, ds, sr, rx, q⟩ => ⟨_, PSs.nox (h cdv A outer s H E hr (o, H)), ?_⟩
  · rw [rx.length, hp]
    cases e : mkFn np n t ds St with
    | ok z S' => exact mkFn_len e
    | exc _ _ => rw [e] at q; exact q.elim
    | bad => rw [e] at q; exact q.elim
  · unfold mkFn at q
    by_cases hl : ds.length = np
    · rw [if_pos hl] at q
      subst hn
      refine ⟨o, _, _, St, StRel.begin sr rx hl hpn, ?_⟩
      have e : o.wi (fun _ => none) = o := Om.ext rfl rfl rfl fun a => ⟨fun z => z.elim id (fun ⟨i, q⟩ => nomatch q), .inl⟩
      rw [e]
      cases et : t (ds.map Slot.val ++ List.replicate (N.length - np) .no) St with
      | rt d S' => rw [et] at q; exact q
      | nx G S' =>
        rw [et] at q
        intro o' lo' σ' H' r m
        exact q o' .non H' r.x r.s0 .non
      | bk _ _ => rw [et] at q; exact q.elim
      | ct _ _ => rw [et] at q; exact q.elim
      | exc _ _ _ => rw [et] at q; exact q.elim
      | bad => rw [et] at q; exact q.elim
    · rw [if_neg hl] at q; exact q.elim
end
end DL

end
section
set_option maxRecDepth 100000
set_option maxHeartbeats 4000000

namespace DL
open PySem PySem.Spec PyProof.Rows L2
def top (i : Nat) : Stmt := PySem.Challenge.pw_psaltery_k22_whole_weights_by_formulas.main.body.getD i (.Pass ⟨0, 0, 0, 0⟩)
end DL
end
section
set_option maxRecDepth 100000
set_option maxHeartbeats 4000000

namespace DL
open PySem PySem.Spec PyProof.Rows L2
theorem fuel_ex : ∃ n : Nat, 900000 ≤ n := ⟨900000, Nat.le_refl _⟩
noncomputable def FUEL : Nat := Classical.choose fuel_ex
theorem fuel_big : 900000 ≤ FUEL := Classical.choose_spec fuel_ex
/-- tally_step -/
noncomputable def b_tally_step : St :=
   (sret (etup (econs (ecal fSum (econs (ecut (evar 0) onone (osome (evar 1))) enil)) (econs (eix (evar 0) (evar 1)) (econs (ecal fSum (econs (evar 0) enil)) enil)))))
noncomputable def s_tally_step : Fn := mkFn 2 2 b_tally_step
/-- counted_tally -/
noncomputable def b_counted_tally : St :=
   (sseq (sown 2 (fstr (ebin opMul (elst (econs (ec (.int 0)) enil)) (evar 1))))
    (sseq (sfor (strict (iseq (evar 0))) (.nm 3) (sputa 2 (onInts opAdd) (strict (evar 3)) (strict (ec (.int 1)))))
    (sfrz 2 (sret (ecal fTuple (econs (evar 2) enil))))))
noncomputable def s_counted_tally : Fn := mkFn 2 4 b_counted_tally
/-- even_tally -/
noncomputable def b_even_tally : St :=
   (sret (ebin opMul (etup (econs (ec (.int 1)) enil)) (evar 0)))
noncomputable def s_even_tally : Fn := mkFn 1 1 b_even_tally
/-- risen_tally -/
noncomputable def b_risen_tally : St :=
   (sret (ebin opAdd (ebin opAdd (ecut (evar 0) onone (osome (evar 1))) (etup (econs (ebin opAdd (eix (evar 0) (evar 1)) (evar 2)) enil))) (ecut (evar 0) (osome (ebin opAdd (evar 1) (ec (.int 1)))) onone)))
noncomputable def s_risen_tally : Fn := mkFn 3 3 b_risen_tally
/-- is_renewed -/
noncomputable def b_is_renewed : St :=
   (sret (ebin opGt (ebin opAdd (ecal fSum (econs (evar 0) enil)) (eix (evar 1) (ec (.int 0)))) (eix (evar 1) (ec (.int 1)))))
noncomputable def s_is_renewed : Fn := mkFn 2 2 b_is_renewed
/-- grown_tally -/
noncomputable def b_grown_tally : St :=
   (sseq (sset 3 (strict (ecall s_risen_tally (econs (evar 0) (econs (evar 1) (econs (eix (evar 2) (ec (.int 0))) enil))))))
    (sseq (sif (strict (tru (ecall s_is_renewed (econs (evar 0) (econs (evar 2) enil))))) (sret (ecal fTuple (econs (elc (iseq (evar 3)) (.nm 4) tyes (ebin opDiv (ebin opAdd (evar 4) (ec (.int 1))) (ec (.int 2))) [4]) enil))) snx)
    (sret (evar 3))))
noncomputable def s_grown_tally : Fn := mkFn 3 5 b_grown_tally
/-- still_course -/
noncomputable def b_still_course : St :=
   (sseq (sset 2 (strict (ecall s_counted_tally (econs (evar 0) (econs (evar 1) enil)))))
    (sret (ecal fTuple (econs (elc (iseq (evar 0)) (.nm 3) tyes (ecall s_tally_step (econs (evar 2) (econs (evar 3) enil))) [3]) enil))))
noncomputable def s_still_course : Fn := mkFn 2 4 b_still_course
/-- falling_course -/
noncomputable def b_falling_course : St :=
   (sseq (sset 2 (strict (ecall s_counted_tally (econs (evar 0) (econs (evar 1) enil)))))
    (sseq (sown 3 (fstr (elst enil)))
    (sseq (sfor (strict (iseq (evar 0))) (.nm 4) (sseq (sadd 3 addOne (strict (ecall s_tally_step (econs (evar 2) (econs (evar 4) enil)))))
    (sset 2 (strict (ecall s_risen_tally (econs (evar 2) (econs (evar 4) (econs (eun opNeg (ec (.int 1))) enil))))))))
    (sfrz 3 (sret (ecal fTuple (econs (evar 3) enil)))))))
noncomputable def s_falling_course : Fn := mkFn 2 5 b_falling_course
/-- moving_walk -/
noncomputable def b_moving_walk : St :=
   (sseq (sset 3 (strict (ecall s_even_tally (econs (evar 1) enil))))
    (sseq (sown 4 (fstr (elst enil)))
    (sseq (sown 5 (fstr (elst enil)))
    (sseq (sfor (strict (ienum (econs (evar 0) enil))) (.tp [(.nm 6), (.nm 7)]) (sseq (sadd 4 addOne (strict (ecall s_tally_step (econs (evar 3) (econs (evar 7) enil)))))
    (sseq (sif (strict (tru (ecall s_is_renewed (econs (evar 3) (econs (evar 2) enil))))) (sadd 5 addOne (strict (evar 6))) snx)
    (sset 3 (strict (ecall s_grown_tally (econs (evar 3) (econs (evar 7) (econs (evar 2) enil)))))))))
    (sfrz 5 (sfrz 4 (sret (etup (econs (ecal fTuple (econs (evar 4) enil)) (econs (ecal fTuple (econs (evar 5) enil)) enil))))))))))
noncomputable def s_moving_walk : Fn := mkFn 3 8 b_moving_walk
/-- moving_course -/
noncomputable def b_moving_course : St :=
   (sret (eix (ecall s_moving_walk (econs (evar 0) (econs (evar 1) (econs (evar 2) enil)))) (ec (.int 0))))
noncomputable def s_moving_course : Fn := mkFn 3 3 b_moving_course
/-- renewal_places -/
noncomputable def b_renewal_places : St :=
   (sret (eix (ecall s_moving_walk (econs (evar 0) (econs (evar 1) (econs (evar 2) enil)))) (ec (.int 1))))
noncomputable def s_renewal_places : Fn := mkFn 3 3 b_renewal_places
/-- weight_pair -/
noncomputable def b_weight_pair : St :=
   (sseq (sset 1 (strict (ec (.int 1))))
    (sseq (sset 2 (strict (ec (.int 1))))
    (sseq (sfor (strict (iseq (evar 0))) (.tp [(.nm 3), (.nm 4), (.nm 5)]) (sseq (saug 1 (onInts opMul) (strict (evar 4)))
    (saug 2 (onInts opMul) (strict (evar 5)))))
    (sret (etup (econs (evar 1) (econs (evar 2) enil)))))))
noncomputable def s_weight_pair : Fn := mkFn 1 6 b_weight_pair
/-- size_of -/
noncomputable def b_size_of : St :=
   (sret (ebits (evar 0)))
noncomputable def s_size_of : Fn := mkFn 1 1 b_size_of
/-- folded -/
noncomputable def b_folded : St :=
   (sret (eite (tst (ebin opGe (evar 0) (ec (.int 0)))) (ebin opMul (ec (.int 2)) (evar 0)) (ebin opSub (ebin opMul (eun opNeg (ec (.int 2))) (evar 0)) (ec (.int 1)))))
noncomputable def s_folded : Fn := mkFn 1 1 b_folded
/-- first_state -/
noncomputable def b_first_state : St :=
   (sret (etup (econs (ec (.int 0)) (econs (ebin opShl (ec (.int 1)) (ec (.int 32))) (econs (ec (.int 32)) enil)))))
noncomputable def s_first_state : Fn := mkFn 0 0 b_first_state
/-- coded_state -/
noncomputable def b_coded_state : St :=
   (sseq (sasg (.tp [(.nm 2), (.nm 3), (.nm 4)]) (strict (evar 0)))
    (sseq (sasg (.tp [(.nm 5), (.nm 6), (.nm 7)]) (strict (evar 1)))
    (sseq (sset 8 (strict (ebin opDiv (evar 3) (evar 7))))
    (sseq (spar 2 3 (strict (econs (ebin opAdd (evar 2) (ebin opMul (evar 8) (evar 5))) (econs (ebin opMul (evar 8) (evar 6)) enil))))
    (sseq (swhile FUEL (strict (tst (ebin opLt (evar 3) (ec (.int 16777216))))) (spar3 2 3 4 (strict (econs (ebin opShl (evar 2) (ec (.int 8))) (econs (ebin opShl (evar 3) (ec (.int 8))) (econs (ebin opAdd (evar 4) (ec (.int 8))) enil))))))
    (sret (etup (econs (evar 2) (econs (evar 3) (econs (evar 4) enil))))))))))
noncomputable def s_coded_state : Fn := mkFn 2 9 b_coded_state
/-- state_of_steps -/
noncomputable def b_state_of_steps : St :=
   (sseq (sset 1 (strict (ecall s_first_state enil)))
    (sseq (sfor (strict (iseq (evar 0))) (.nm 2) (sset 1 (strict (ecall s_coded_state (econs (evar 1) (econs (evar 2) enil))))))
    (sret (evar 1))))
noncomputable def s_state_of_steps : Fn := mkFn 1 3 b_state_of_steps
/-- has_multiple -/
noncomputable def b_has_multiple : St :=
   (sseq (sasg (.tp [(.nm 2), (.nm 3), (.nm 4)]) (strict (evar 0)))
    (sret (ebin opLt (ebin opShl (ebin opAdd (ebin opShr (ebin opSub (evar 2) (ec (.int 1))) (evar 1)) (ec (.int 1))) (evar 1)) (ebin opAdd (evar 2) (evar 3)))))
noncomputable def s_has_multiple : Fn := mkFn 2 5 b_has_multiple
/-- free_figures -/
noncomputable def b_free_figures : St :=
   (sseq (sset 1 (strict (ebin opSub (ecall s_size_of (econs (eix (evar 0) (ec (.int 1))) enil)) (ec (.int 1)))))
    (sseq (swhile FUEL (strict (band (tst (ebin opLt (evar 1) (eix (evar 0) (ec (.int 2))))) (tru (ecall s_has_multiple (econs (evar 0) (econs (ebin opAdd (evar 1) (ec (.int 1))) enil)))))) (saug 1 (onInts opAdd) (strict (ec (.int 1)))))
    (sret (evar 1))))
noncomputable def s_free_figures : Fn := mkFn 1 2 b_free_figures
/-- code_length -/
noncomputable def b_code_length : St :=
   (sseq (sset 1 (strict (ecall s_state_of_steps (econs (evar 0) enil))))
    (sret (ebin opSub (eix (evar 1) (ec (.int 2))) (ecall s_free_figures (econs (evar 1) enil)))))
noncomputable def s_code_length : Fn := mkFn 1 2 b_code_length
/-- is_within_weight -/
noncomputable def b_is_within_weight : St :=
   (sseq (sif (strict (bor (tst (ebin opLe (evar 1) (ec (.int 0)))) (tst (ebin opGt (evar 1) (ec (.int 20000)))))) (sret (ebin opEq (evar 1) (ec (.int 0)))) snx)
    (sseq (sasg (.tp [(.nm 2), (.nm 3)]) (strict (ecall s_weight_pair (econs (evar 0) enil))))
    (sseq (sfor (strict (iseq (evar 0))) (.nm 4) (spar 2 3 (strict (econs (ebin opMul (evar 2) (ebin opSub (ec (.int 4096)) (ec (.int 1)))) (econs (ebin opMul (evar 3) (ec (.int 4096))) enil)))))
    (sret (ebin opLt (ebin opShl (evar 2) (ebin opSub (evar 1) (ec (.int 1)))) (evar 3))))))
noncomputable def s_is_within_weight : Fn := mkFn 2 5 b_is_within_weight
/-- grade_of -/
noncomputable def b_grade_of : St :=
   (sret (ecall s_size_of (econs (ecall s_folded (econs (evar 0) enil)) enil)))
noncomputable def s_grade_of : Fn := mkFn 1 1 b_grade_of
/-- group_sizes -/
noncomputable def b_group_sizes : St :=
   (sseq (sset 1 (strict (ebin opSub (evar 0) (ec (.int 1)))))
    (sseq (sown 2 (fstr (elst enil)))
    (sseq (swhile FUEL (strict (tst (ebin opGt (evar 1) (ec (.int 0))))) (sseq (sadd 2 addOne (strict (ecal fMin2 (econs (ec (.int 8)) (econs (evar 1) enil)))))
    (saug 1 (onInts opSub) (strict (ec (.int 8))))))
    (sfrz 2 (sret (evar 2))))))
noncomputable def s_group_sizes : Fn := mkFn 1 3 b_group_sizes
/-- figure_steps -/
noncomputable def b_figure_steps : St :=
   (sseq (sset 1 (strict (ecall s_folded (econs (evar 0) enil))))
    (sseq (sset 2 (strict (ebin opSub (ecall s_size_of (econs (evar 1) enil)) (ec (.int 1)))))
    (sseq (sown 3 (fstr (elst enil)))
    (sseq (sfor (strict (iseq (ecall s_group_sizes (econs (ecall s_size_of (econs (evar 1) enil)) enil)))) (.nm 4) (sseq (saug 2 (onInts opSub) (strict (evar 4)))
    (sadd 3 addOne (strict (etup (econs (ebin opMod (ebin opShr (evar 1) (evar 2)) (ebin opShl (ec (.int 1)) (evar 4))) (econs (ec (.int 1)) (econs (ebin opShl (ec (.int 1)) (evar 4)) enil))))))))
    (sfrz 3 (sret (ecal fTuple (econs (evar 3) enil))))))))
noncomputable def s_figure_steps : Fn := mkFn 1 5 b_figure_steps
/-- GradeBook.__init__ -/
noncomputable def b_GradeBook___init__ : St :=
   (sseq (sfset (strict (evar 0)) 0 0 (strict (evar 1)))
    (sseq (sfown (strict (evar 0)) 0 1 (fstr (ebin opMul (elst (econs (evar 2) enil)) (elen (evar 2)))))
    (sfset (strict (evar 0)) 0 2 (strict (ec (.int 0))))))
noncomputable def s_GradeBook___init__ : Fn := mkFn 3 3 b_GradeBook___init__
/-- GradeBook.tally_now -/
noncomputable def b_GradeBook_tally_now : St :=
   (sret (eix (efld (evar 0) 0 1) (efld (evar 0) 0 2)))
noncomputable def s_GradeBook_tally_now : Fn := mkFn 1 1 b_GradeBook_tally_now
/-- GradeBook.pass_grade -/
noncomputable def b_GradeBook_pass_grade : St :=
   (sseq (sset 2 (strict (eix (efld (evar 0) 0 1) (efld (evar 0) 0 2))))
    (sseq (sif (strict (tst (ebin opEq (efld (evar 0) 0 0) (ec (.int 1))))) (sfput (strict (efld (evar 0) 0 1)) (strict (efld (evar 0) 0 2)) (strict (ecall s_risen_tally (econs (evar 2) (econs (evar 1) (econs (eun opNeg (ec (.int 1))) enil)))))) snx)
    (sseq (sif (strict (tst (ebin opGt (efld (evar 0) 0 0) (ec (.int 1))))) (sfput (strict (efld (evar 0) 0 1)) (strict (efld (evar 0) 0 2)) (strict (ecall s_grown_tally (econs (evar 2) (econs (evar 1) (econs (eix (ec (.tup [(.tup [(.int 1), (.int 4096)]), (.tup [(.int 8), (.int 512)]), (.tup [(.int 32), (.int 64)])])) (ebin opMod (ebin opSub (efld (evar 0) 0 0) (ec (.int 2))) (ec (.int 3)))) enil)))))) snx)
    (sif (strict (tst (ebin opGt (efld (evar 0) 0 0) (ec (.int 4))))) (sfset (strict (evar 0)) 0 2 (strict (evar 1))) snx))))
noncomputable def s_GradeBook_pass_grade : Fn := mkFn 2 3 b_GradeBook_pass_grade
/-- begun_tally -/
noncomputable def b_begun_tally : St :=
   (sseq (sif (strict (tst (ebin opGt (evar 2) (ec (.int 1))))) (sret (ecall s_even_tally (econs (ebin opAdd (evar 1) (ec (.int 2))) enil))) snx)
    (sret (ecall s_counted_tally (econs (elc (iseq (evar 0)) (.nm 3) tyes (ecall s_grade_of (econs (evar 3) enil)) [3]) (econs (ebin opAdd (evar 1) (ec (.int 2))) enil)))))
noncomputable def s_begun_tally : Fn := mkFn 3 4 b_begun_tally
/-- model_course -/
noncomputable def b_model_course : St :=
   (sseq (sset 3 (strict (enew 0 3 s_GradeBook___init__ (econs (evar 2) (econs (ecall s_begun_tally (econs (evar 0) (econs (evar 1) (econs (evar 2) enil)))) enil)))))
    (sseq (sown 4 (fstr (elst enil)))
    (sseq (sfor (strict (iseq (evar 0))) (.nm 5) (sseq (sset 6 (strict (ecall s_grade_of (econs (evar 5) enil))))
    (sseq (sadd 4 addOne (strict (ecall s_tally_step (econs (emeth (evar 3) 0 s_GradeBook_tally_now enil) (econs (evar 6) enil)))))
    (sseq (sadd 4 D.items2 (strict (ecall s_figure_steps (econs (evar 5) enil))))
    (sdrop (strict (emeth (evar 3) 0 s_GradeBook_pass_grade (econs (evar 6) enil))))))))
    (sfrz 4 (sret (ecal fTuple (econs (evar 4) enil)))))))
noncomputable def s_model_course : Fn := mkFn 3 7 b_model_course
/-- _law_cell -/
noncomputable def b__law_cell : St :=
   (sseq (sif (strict (tst (ebin opLt (evar 1) (elen (evar 0))))) (sret (eix (evar 0) (evar 1))) snx)
    (sret (ebin opAdd (ebin opMul (ec (.int 5)) (evar 1)) (ec (.int 3)))))
noncomputable def s__law_cell : Fn := mkFn 2 2 b__law_cell
/-- _law_draws -/
noncomputable def b__law_draws : St :=
   (sseq (sset 2 (strict (ecal fAbs (econs (ecal fInt1 (econs (evar 0) enil)) enil))))
    (sseq (sset 3 (strict (ebin opGe (evar 2) (ebin opPow (ec (.int 10)) (ec (.int 18))))))
    (sseq (sset 4 (strict (evar 2)))
    (sseq (sown 5 (fstr (elst enil)))
    (sseq (sfor (strict (irng1 (econs (evar 1) enil))) (.nm 6) (sif (strict (band (tru (evar 3)) (tst (ebin opGt (evar 2) (ec (.int 0)))))) (sseq (sadd 5 addOne (strict (ebin opMod (ecal fInt1 (econs (evar 2) enil)) (ec (.int 5040)))))
    (sset 2 (strict (ebin opDiv (evar 2) (ec (.int 5040)))))) (sseq (sset 7 (strict (ebin opMod (ecal fInt1 (econs (ebin opAdd (ebin opAdd (ebin opMul (evar 4) (ec (.int 48271))) (ebin opMul (ebin opAdd (evar 6) (ec (.int 1))) (ec (.int 69621)))) (ec (.int 11))) enil)) (ec (.int 2147483647)))))
    (sseq (sset 7 (strict (ebin opMod (ecal fInt1 (econs (ebin opAdd (ebin opMul (evar 7) (evar 7)) (ebin opMul (ec (.int 40692)) (ebin opAdd (evar 6) (ec (.int 3))))) enil)) (ec (.int 2147483399)))))
    (sadd 5 addOne (strict (ebin opMod (ecal fInt1 (econs (ebin opDiv (evar 7) (ec (.int 64))) enil)) (ec (.int 5040)))))))))
    (sfrz 5 (sret (evar 5))))))))
noncomputable def s__law_draws : Fn := mkFn 2 8 b__law_draws
/-- _law_is_integer -/
noncomputable def b__law_is_integer : St :=
   (sret (eand (eisi (evar 0) .int) (enot (eisi (evar 0) .bool))))
noncomputable def s__law_is_integer : Fn := mkFn 1 1 b__law_is_integer
/-- _law_is -/
noncomputable def b__law_is (self_ : Fn) : St :=
   (sseq (sif (strict (tst (ebin opIs (evar 1) (ec .non)))) (sret (ebin opIs (evar 0) (ec .non))) snx)
    (sseq (sif (strict (tru (eisi (evar 1) .bool))) (sret (eand (eisi (evar 0) .bool) (ebin opEq (evar 0) (evar 1)))) snx)
    (sseq (sif (strict (tru (eisi (evar 1) .int))) (sret (eand (ecall s__law_is_integer (econs (evar 0) enil)) (ebin opEq (evar 0) (evar 1)))) snx)
    (sseq (sif (strict (tru (eisi (evar 1) .str))) (sret (eand (eisi (evar 0) .str) (ebin opEq (evar 0) (evar 1)))) snx)
    (sseq (sif (strict (bor (bnot (tru (eisi (evar 0) .tuple))) (tst (ebin opNe (elen (evar 0)) (elen (evar 1)))))) (sret (ec (.bl false))) snx)
    (sret (ecal fAll (econs (elc (irng1 (econs (elen (evar 1)) enil)) (.nm 2) tyes (ecall self_ (econs (eix (evar 0) (evar 2)) (econs (eix (evar 1) (evar 2)) enil))) [2]) enil))))))))
noncomputable def s__law_is : Nat → Fn
  | 0 => fun _ _ => .bad
  | n + 1 => mkFn 2 3 (b__law_is (s__law_is n))
/-- _law_counted -/
noncomputable def b__law_counted : St :=
   (sseq (sown 2 (fstr (ebin opMul (elst (econs (ec (.int 0)) enil)) (evar 1))))
    (sseq (sfor (strict (iseq (evar 0))) (.nm 3) (sput 2 (strict (evar 3)) (relax (ebin opAdd (eix (evar 2) (evar 3)) (ec (.int 1))))))
    (sfrz 2 (sret (evar 2)))))
noncomputable def s__law_counted : Fn := mkFn 2 4 b__law_counted
/-- _law_size -/
noncomputable def b__law_size : St :=
   (sseq (sset 1 (strict (ec (.int 0))))
    (sseq (swhile FUEL (strict (tst (ebin opGt (ebin opShr (evar 0) (evar 1)) (ec (.int 0))))) (sset 1 (strict (ebin opAdd (evar 1) (ec (.int 1))))))
    (sret (evar 1))))
noncomputable def s__law_size : Fn := mkFn 1 2 b__law_size
/-- _law_folded -/
noncomputable def b__law_folded : St :=
   (sret (eite (tst (ebin opGe (evar 0) (ec (.int 0)))) (ebin opMul (ec (.int 2)) (evar 0)) (ebin opSub (ebin opSub (ec (.int 0)) (ebin opMul (ec (.int 2)) (evar 0))) (ec (.int 1)))))
noncomputable def s__law_folded : Fn := mkFn 1 1 b__law_folded
/-- _law_made_remnants -/
noncomputable def b__law_made_remnants : St :=
   (sseq (sown 3 (fstr (elst enil)))
    (sseq (sfor (strict (irng1 (econs (evar 1) enil))) (.nm 4) (sseq (sset 5 (strict (ecal fInt1 (econs (eix (evar 0) (evar 4)) enil))))
    (sseq (sset 6 (strict (ebin opShl (ec (.int 1)) (evar 2))))
    (sseq (sset 7 (strict (ebin opSub (ebin opMod (ebin opDiv (evar 5) (ec (.int 6))) (ec (.int 9))) (ec (.int 4)))))
    (sseq (sset 8 (strict (eix (etup (econs (evar 7) (econs (evar 7) (econs (ebin opSub (ebin opDiv (evar 5) (ec (.int 6))) (ec (.int 400))) (econs (ebin opSub (evar 6) (ec (.int 1))) (econs (ebin opSub (ec (.int 0)) (evar 6)) (econs (ebin opMul (ebin opMul (evar 5) (evar 5)) (ec (.int 7))) enil))))))) (ebin opMod (evar 5) (ec (.int 6))))))
    (sadd 3 addOne (strict (ebin opSub (ebin opMod (ebin opAdd (evar 8) (evar 6)) (ebin opMul (ec (.int 2)) (evar 6))) (evar 6)))))))))
    (sfrz 3 (sret (ecal fTuple (econs (evar 3) enil))))))
noncomputable def s__law_made_remnants : Fn := mkFn 3 9 b__law_made_remnants
/-- _law_faculty -/
noncomputable def b__law_faculty : St :=
   (sseq (sset 1 (strict (ec (.int 1))))
    (sseq (sfor (strict (irng2 (econs (ec (.int 2)) (econs (ebin opAdd (evar 0) (ec (.int 1))) enil)))) (.nm 2) (sset 1 (strict (ebin opMul (evar 1) (evar 2)))))
    (sret (evar 1))))
noncomputable def s__law_faculty : Fn := mkFn 1 3 b__law_faculty
/-- _law_times -/
noncomputable def b__law_times : St :=
   (sseq (sset 2 (strict (ec (.int 1))))
    (sseq (sfor (strict (irng1 (econs (evar 1) enil))) (.nm 3) (sset 2 (strict (ebin opMul (evar 2) (evar 0)))))
    (sret (evar 2))))
noncomputable def s__law_times : Fn := mkFn 2 4 b__law_times
/-- _law_still_weight -/
noncomputable def b__law_still_weight : St :=
   (sseq (spar 1 2 (strict (econs (ec (.int 1)) (econs (ecal fSum (econs (evar 0) enil)) enil))))
    (sseq (sfor (strict (iseq (evar 0))) (.nm 3) (sset 1 (strict (ebin opMul (evar 1) (ecall s__law_times (econs (evar 3) (econs (evar 3) enil)))))))
    (sret (etup (econs (evar 1) (econs (ecall s__law_times (econs (evar 2) (econs (evar 2) enil))) enil))))))
noncomputable def s__law_still_weight : Fn := mkFn 1 4 b__law_still_weight
/-- _law_falling_weight -/
noncomputable def b__law_falling_weight : St :=
   (sseq (sset 1 (strict (ec (.int 1))))
    (sseq (sfor (strict (iseq (evar 0))) (.nm 2) (sset 1 (strict (ebin opMul (evar 1) (ecall s__law_faculty (econs (evar 2) enil))))))
    (sret (etup (econs (evar 1) (econs (ecall s__law_faculty (econs (ecal fSum (econs (evar 0) enil)) enil)) enil))))))
noncomputable def s__law_falling_weight : Fn := mkFn 1 3 b__law_falling_weight
/-- _law_moving_weight -/
noncomputable def b__law_moving_weight : St :=
   (sseq (sasg (.tp [(.nm 2), (.nm 3)]) (strict (etup (econs (ec (.int 1)) (econs (ec (.int 1)) enil)))))
    (sseq (sfor (strict (iseq (evar 0))) (.nm 4) (sfor (strict (irng1 (econs (evar 4) enil))) (.nm 5) (sset 2 (strict (ebin opMul (evar 2) (ebin opAdd (ec (.int 1)) (ebin opMul (evar 1) (evar 5))))))))
    (sseq (sfor (strict (irng1 (econs (ecal fSum (econs (evar 0) enil)) enil))) (.nm 5) (sset 3 (strict (ebin opMul (evar 3) (ebin opAdd (elen (evar 0)) (ebin opMul (evar 1) (evar 5)))))))
    (sret (etup (econs (evar 2) (econs (evar 3) enil)))))))
noncomputable def s__law_moving_weight : Fn := mkFn 2 6 b__law_moving_weight
/-- _law_symbols_fine -/
noncomputable def b__law_symbols_fine : St :=
   (sseq (sset 3 (strict (ecall s__law_counted (econs (evar 0) (econs (evar 1) enil)))))
    (sseq (sset 4 (strict (etup (econs (evar 2) (econs (ec (.int 4096)) enil)))))
    (sseq (sif (strict (bnot (tru (ecall (s__law_is 8) (econs (ecall s_weight_pair (econs (ecall s_still_course (econs (evar 0) (econs (evar 1) enil))) enil)) (econs (ecall s__law_still_weight (econs (evar 3) enil)) enil)))))) (sret (ec (.bl false))) snx)
    (sseq (sif (strict (bnot (tru (ecall (s__law_is 8) (econs (ecall s_weight_pair (econs (ecall s_falling_course (econs (evar 0) (econs (evar 1) enil))) enil)) (econs (ecall s__law_falling_weight (econs (evar 3) enil)) enil)))))) (sret (ec (.bl false))) snx)
    (sseq (sset 5 (strict (ecall s_moving_course (econs (evar 0) (econs (evar 1) (econs (evar 4) enil))))))
    (sseq (sif (strict (tst (ebin opLe (ebin opAdd (evar 1) (ebin opMul (evar 2) (elen (evar 0)))) (ec (.int 4096))))) (sseq (sif (strict (bnot (tru (ecall (s__law_is 8) (econs (ecall s_renewal_places (econs (evar 0) (econs (evar 1) (econs (evar 4) enil)))) (econs (etup enil) enil)))))) (sret (ec (.bl false))) snx)
    (sif (strict (bnot (tru (ecall (s__law_is 8) (econs (ecall s_weight_pair (econs (evar 5) enil)) (econs (ecall s__law_moving_weight (econs (evar 3) (econs (evar 2) enil))) enil)))))) (sret (ec (.bl false))) snx)) snx)
    (sseq (sif (strict (band (tst (ebin opGt (elen (evar 0)) (ec (.int 0)))) (bnot (tru (ecall (s__law_is 8) (econs (ecall s_counted_tally (econs (evar 0) (econs (evar 1) enil))) (econs (ecal fTuple (econs (evar 3) enil)) enil))))))) (sret (ec (.bl false))) snx)
    (sseq (sset 6 (strict (ecall s_code_length (econs (evar 5) enil))))
    (sret (eand (ecall s__law_is_integer (econs (evar 6) enil)) (ecall (s__law_is 8) (econs (ecall s_is_within_weight (econs (evar 5) (econs (evar 6) enil))) (econs (ec (.bl true)) enil)))))))))))))
noncomputable def s__law_symbols_fine : Fn := mkFn 3 7 b__law_symbols_fine
/-- _law_models_fine -/
noncomputable def b__law_models_fine : St :=
   (sseq (sset 2 (strict (elc (iseq (evar 0)) (.nm 4) tyes (ecall s__law_size (econs (ecall s__law_folded (econs (evar 4) enil)) enil)) [4])))
    (sseq (sif (strict (bnot (tru (ecall (s__law_is 8) (econs (ecal fTuple (econs (elc (iseq (evar 0)) (.nm 4) tyes (ecall s_grade_of (econs (evar 4) enil)) [4]) enil)) (econs (ecal fTuple (econs (evar 2) enil)) enil)))))) (sret (ec (.bl false))) snx)
    (sseq (sset 3 (strict (ecal fSum (econs (elc (iseq (evar 2)) (.nm 9) tyes (ecal fMax2 (econs (ec (.int 0)) (econs (ebin opSub (evar 9) (ec (.int 1))) enil))) [9]) enil))))
    (sseq (sfor (strict (iseq (evar 0))) (.nm 4) (sif (strict (bnot (tru (ecall (s__law_is 8) (econs (ecall s_weight_pair (econs (ecall s_figure_steps (econs (evar 4) enil)) enil)) (econs (etup (econs (ec (.int 1)) (econs (ebin opShl (ec (.int 1)) (ecal fMax2 (econs (ec (.int 0)) (econs (ebin opSub (ecall s__law_size (econs (ecall s__law_folded (econs (evar 4) enil)) enil)) (ec (.int 1))) enil)))) enil))) enil)))))) (sret (ec (.bl false))) snx))
    (sseq (sset 5 (strict (ecall s__law_counted (econs (evar 2) (econs (ebin opAdd (evar 1) (ec (.int 2))) enil)))))
    (sseq (sown 6 (fstr (elst (econs (ecall s__law_still_weight (econs (evar 5) enil)) (econs (ecall s__law_falling_weight (econs (evar 5) enil)) (econs (ecall s__law_moving_weight (econs (evar 5) (econs (ec (.int 1)) enil))) enil))))))
    (sseq (sif (strict (tst (ebin opLe (ebin opAdd (ebin opAdd (evar 1) (ec (.int 2))) (ebin opMul (ec (.int 8)) (elen (evar 0)))) (ec (.int 512))))) (sadd 6 addOne (strict (ecall s__law_moving_weight (econs (evar 5) (econs (ec (.int 8)) enil))))) snx)
    (sfrz 6 (sseq (sfor (strict (irng1 (econs (elen (evar 6)) enil))) (.nm 7) (sseq (sset 8 (strict (etup (econs (eix (eix (evar 6) (evar 7)) (ec (.int 0))) (econs (ebin opShl (eix (eix (evar 6) (evar 7)) (ec (.int 1))) (evar 3)) enil)))))
    (sif (strict (bnot (tru (ecall (s__law_is 8) (econs (ecall s_weight_pair (econs (ecall s_model_course (econs (evar 0) (econs (evar 1) (econs (evar 7) enil)))) enil)) (econs (evar 8) enil)))))) (sret (ec (.bl false))) snx)))
    (sret (ec (.bl true))))))))))))
noncomputable def s__law_models_fine : Fn := mkFn 2 10 b__law_models_fine
/-- law -/
noncomputable def b_law : St :=
   (sseq (sfor (strict (irng1 (econs (ec (.int 2)) enil))) (.nm 1) (sseq (sset 2 (strict (ecall s__law_draws (econs (ecall s__law_cell (econs (evar 0) (econs (evar 1) enil))) (econs (ec (.int 210)) enil)))))
    (sseq (sset 3 (strict (ebin opAdd (ec (.int 2)) (ebin opMod (ecal fInt1 (econs (eix (evar 2) (ec (.int 0))) enil)) (ec (.int 31))))))
    (sseq (sset 4 (strict (eix (etup (econs (evar 3) (econs (ecal fMin2 (econs (evar 3) (econs (ec (.int 3)) enil))) enil))) (ebin opMod (ecal fInt1 (econs (eix (evar 2) (ec (.int 1))) enil)) (ec (.int 2))))))
    (sseq (sset 5 (strict (ecal fTuple (econs (elc (iseq (ecut (evar 2) (osome (ec (.int 9))) (osome (ebin opAdd (ec (.int 9)) (ebin opMod (ecal fInt1 (econs (eix (evar 2) (ec (.int 2))) enil)) (ec (.int 201))))))) (.nm 9) tyes (ebin opMod (ecal fInt1 (econs (evar 9) enil)) (evar 4)) [9]) enil))))
    (sseq (sset 6 (strict (eix (etup (econs (ec (.int 1)) (econs (ec (.int 2)) (econs (ec (.int 7)) (econs (ec (.int 20)) (econs (ec (.int 32)) enil)))))) (ebin opMod (ecal fInt1 (econs (eix (evar 2) (ec (.int 3))) enil)) (ec (.int 5))))))
    (sseq (sif (strict (bnot (tru (ecall s__law_symbols_fine (econs (evar 5) (econs (evar 3) (econs (evar 6) enil))))))) (sret (ec (.bl false))) snx)
    (sseq (sif (strict (bnot (tru (ecall (s__law_is 8) (econs (ecall s_weight_pair (econs (ecall s_still_course (econs (erev (evar 5)) (econs (evar 3) enil))) enil)) (econs (ecall s__law_still_weight (econs (ecall s__law_counted (econs (evar 5) (econs (evar 3) enil))) enil)) enil)))))) (sret (ec (.bl false))) snx)
    (sseq (sset 7 (strict (ebin opAdd (ec (.int 3)) (ebin opMod (ecal fInt1 (econs (eix (evar 2) (ec (.int 4))) enil)) (ec (.int 23))))))
    (sseq (sset 8 (strict (ecall s__law_made_remnants (econs (ecut (evar 2) (osome (ec (.int 60))) onone) (econs (ebin opAdd (ec (.int 1)) (ebin opMod (ecal fInt1 (econs (eix (evar 2) (ec (.int 5))) enil)) (ec (.int 40)))) (econs (evar 7) enil))))))
    (sif (strict (bnot (tru (ecall s__law_models_fine (econs (evar 8) (econs (evar 7) enil)))))) (sret (ec (.bl false))) snx)))))))))))
    (sret (ec (.bl true))))
noncomputable def s_law : Fn := mkFn 1 10 b_law
end DL
end
section
set_option maxRecDepth 100000
set_option maxHeartbeats 4000000

namespace DL
open PySem PySem.Spec PyProof.Rows L2
def cd_GradeBook (K : PySem.W.Frag) : CD := ⟨He.ga K "GradeBook", ["model", "tallies", "before"]⟩
def ct (K : PySem.W.Frag) : CT
  | 0 => some (cd_GradeBook K)
  | _ => none
abbrev N_tally_step : List Str := ["tally", "symbol"]
theorem sc_tally_step : FnScope N_tally_step ["tally", "symbol"] (defScope (top 1)) := ⟨rfl, rfl, rfl, by decide +kernel, rfl, by decide +kernel, by decide +kernel⟩
theorem ok_tally_step {P : Program} {w : World} {K : PySem.W.Frag} {mg : Str → Option Value} {base : Heap} {f : Addr} {fd : FuncData} (B : BX mg) (F : FunD K "tally_step" "tally_step" (defArgs (top 1)) (defBody (top 1)) (defScope (top 1)) [] [] f fd) : FA P w K mg base (ct K) 1 f s_tally_step := by
  refine FA.mk' (N := N_tally_step) (ps := ["tally", "symbol"]) (k := 0) F sc_tally_step (F.bindsN fun _ _ _ _ _ _ us hl => match us, hl with | [_, _], _ => rfl) rfl rfl fun cdv A outer s H E hr => ?_
  have nd := sc_tally_step.nd
  have hu := hr.units
  exact (psd_one (psd_ret (W := WF) (pd_tup (pds_cons (pd_callB (cs_sum rfl) (by rfl) B.sum_ (by decide +kernel) (pds_cons (pd_cut (pd_var 0) pdo_none (pdo_some (pd_var 1))) pds_nil)) (pds_cons (pd_ix (pd_var 0) (pd_var 1) (by intro _ _; rfl)) (pds_cons (pd_callB (cs_sum rfl) (by rfl) B.sum_ (by decide +kernel) (pds_cons (pd_var 0) pds_nil)) pds_nil))))))
abbrev N_counted_tally : List Str := ["symbols", "size", "counts", "symbol"]
theorem sc_counted_tally : FnScope N_counted_tally ["symbols", "size"] (defScope (top 2)) := ⟨rfl, rfl, rfl, by decide +kernel, rfl, by decide +kernel, by decide +kernel⟩
theorem ok_counted_tally {P : Program} {w : World} {K : PySem.W.Frag} {mg : Str → Option Value} {base : Heap} {f : Addr} {fd : FuncData} (B : BX mg) (F : FunD K "counted_tally" "counted_tally" (defArgs (top 2)) (defBody (top 2)) (defScope (top 2)) [] [] f fd) : FA P w K mg base (ct K) 1 f s_counted_tally := by
  refine FA.mk' (N := N_counted_tally) (ps := ["symbols", "size"]) (k := 0) F sc_counted_tally (F.bindsN fun _ _ _ _ _ _ us hl => match us, hl with | [_, _], _ => rfl) rfl rfl fun cdv A outer s H E hr => ?_
  have nd := sc_counted_tally.nd
  have hu := hr.units
  exact (psd_cons (psd_own (i := 2) (pmf_strict (pdf_mul (pd_lst (pds_cons pd_int pds_nil)) (pd_var 1))) nd rfl (by first | exact Or.inl rfl | exact Or.inr rfl) (by rfl) (by first | exact Or.inl rfl | exact Or.inr rfl))
    (psd_cons (psd_for (pmi_strict (W := WF) (pdi_seq (pd_var 0))) (pgd_name (i := 3) nd rfl (by first | exact Or.inl rfl | exact Or.inr rfl) (by first | exact Or.inl rfl | exact Or.inr rfl)) (psd_one (psd_puta (i := 2) (pm_strict (W := WF) pd_int) (pm_strict (W := WF) (pd_var 3)) ios_add rfl (by first | exact Or.inl rfl | exact Or.inr (Or.inl rfl) | exact Or.inr (Or.inr rfl)))) PassesOwn.never rfl)
    (psds_frz (i := 2) (psd_one (psd_ret (W := WF) (pd_callT cs_tuple (by rfl) B.tuple_ (by decide +kernel) (pds_cons (pd_var 2) pds_nil)))))))
abbrev N_even_tally : List Str := ["size"]
theorem sc_even_tally : FnScope N_even_tally ["size"] (defScope (top 3)) := ⟨rfl, rfl, rfl, by decide +kernel, rfl, by decide +kernel, by decide +kernel⟩
theorem ok_even_tally {P : Program} {w : World} {K : PySem.W.Frag} {mg : Str → Option Value} {base : Heap} {f : Addr} {fd : FuncData} (B : BX mg) (F : FunD K "even_tally" "even_tally" (defArgs (top 3)) (defBody (top 3)) (defScope (top 3)) [] [] f fd) : FA P w K mg base (ct K) 1 f s_even_tally := by
  refine FA.mk' (N := N_even_tally) (ps := ["size"]) (k := 0) F sc_even_tally (F.bindsN fun _ _ _ _ _ _ us hl => match us, hl with | [_], _ => rfl) rfl rfl fun cdv A outer s H E hr => ?_
  have nd := sc_even_tally.nd
  have hu := hr.units
  exact (psd_one (psd_ret (W := WF) (pd_bin os_mul (pd_tup (pds_cons pd_int pds_nil)) (pd_var 0))))
abbrev N_risen_tally : List Str := ["tally", "symbol", "gain"]
theorem sc_risen_tally : FnScope N_risen_tally ["tally", "symbol", "gain"] (defScope (top 4)) := ⟨rfl, rfl, rfl, by decide +kernel, rfl, by decide +kernel, by decide +kernel⟩
theorem ok_risen_tally {P : Program} {w : World} {K : PySem.W.Frag} {mg : Str → Option Value} {base : Heap} {f : Addr} {fd : FuncData} (B : BX mg) (F : FunD K "risen_tally" "risen_tally" (defArgs (top 4)) (defBody (top 4)) (defScope (top 4)) [] [] f fd) : FA P w K mg base (ct K) 1 f s_risen_tally := by
  refine FA.mk' (N := N_risen_tally) (ps := ["tally", "symbol", "gain"]) (k := 0) F sc_risen_tally (F.bindsN fun _ _ _ _ _ _ us hl => match us, hl with | [_, _, _], _ => rfl) rfl rfl fun cdv A outer s H E hr => ?_
  have nd := sc_risen_tally.nd
  have hu := hr.units
  exact (psd_one (psd_ret (W := WF) (pd_bin os_add (pd_bin os_add (pd_cut (pd_var 0) pdo_none (pdo_some (pd_var 1))) (pd_tup (pds_cons (pd_bin os_add (pd_ix (pd_var 0) (pd_var 1) (by intro _ _; rfl)) (pd_var 2)) pds_nil))) (pd_cut (pd_var 0) (pdo_some (pd_bin os_add (pd_var 1) pd_int)) pdo_none))))
abbrev N_is_renewed : List Str := ["tally", "rule"]
theorem sc_is_renewed : FnScope N_is_renewed ["tally", "rule"] (defScope (top 5)) := ⟨rfl, rfl, rfl, by decide +kernel, rfl, by decide +kernel, by decide +kernel⟩
theorem ok_is_renewed {P : Program} {w : World} {K : PySem.W.Frag} {mg : Str → Option Value} {base : Heap} {f : Addr} {fd : FuncData} (B : BX mg) (F : FunD K "is_renewed" "is_renewed" (defArgs (top 5)) (defBody (top 5)) (defScope (top 5)) [] [] f fd) : FA P w K mg base (ct K) 1 f s_is_renewed := by
  refine FA.mk' (N := N_is_renewed) (ps := ["tally", "rule"]) (k := 0) F sc_is_renewed (F.bindsN fun _ _ _ _ _ _ us hl => match us, hl with | [_, _], _ => rfl) rfl rfl fun cdv A outer s H E hr => ?_
  have nd := sc_is_renewed.nd
  have hu := hr.units
  exact (psd_one (psd_ret (W := WF) (pd_cmp os_gt (pd_bin os_add (pd_callB (cs_sum rfl) (by rfl) B.sum_ (by decide +kernel) (pds_cons (pd_var 0) pds_nil)) (pd_ix (pd_var 1) pd_int (by intro _ _; rfl))) (pd_ix (pd_var 1) pd_int (by intro _ _; rfl)) (by rfl))))
abbrev N_grown_tally : List Str := ["tally", "symbol", "rule", "grown", "count"]
theorem sc_grown_tally : FnScope N_grown_tally ["tally", "symbol", "rule"] (defScope (top 6)) := ⟨rfl, rfl, rfl, by decide +kernel, rfl, by decide +kernel, by decide +kernel⟩
theorem ok_grown_tally {P : Program} {w : World} {K : PySem.W.Frag} {mg : Str → Option Value} {base : Heap} {f : Addr} {fd : FuncData} (B : BX mg) (F_is_renewed : FI P w K mg base (ct K) 1 "is_renewed" s_is_renewed) (F_risen_tally : FI P w K mg base (ct K) 1 "risen_tally" s_risen_tally) (F : FunD K "grown_tally" "grown_tally" (defArgs (top 6)) (defBody (top 6)) (defScope (top 6)) [] [] f fd) : FA P w K mg base (ct K) 2 f s_grown_tally := by
  refine FA.mk' (N := N_grown_tally) (ps := ["tally", "symbol", "rule"]) (k := 1) F sc_grown_tally (F.bindsN fun _ _ _ _ _ _ us hl => match us, hl with | [_, _, _], _ => rfl) rfl rfl fun cdv A outer s H E hr => ?_
  have nd := sc_grown_tally.nd
  have hu := hr.units
  exact (psd_cons (psd_set (i := 3) (pm_strict (W := WF) (pd_call F_risen_tally (hr.mono (by omega)) (by rfl) (pds_cons (pd_var 0) (pds_cons (pd_var 1) (pds_cons (pd_ix (pd_var 2) pd_int (by intro _ _; rfl)) pds_nil))))) nd rfl (by first | exact Or.inl rfl | exact Or.inr rfl) (by rfl) (by first | exact Or.inl rfl | exact Or.inr rfl))
    (psd_cons (psd_if (pmb_strict (W := WF) (pdb_tru (pd_call F_is_renewed (hr.mono (by omega)) (by rfl) (pds_cons (pd_var 0) (pds_cons (pd_var 2) pds_nil))))) (psd_one (psd_ret (W := WF) (pd_callT cs_tuple (by rfl) B.tuple_ (by decide +kernel) (pds_cons (pd_lc (X := XB P w K mg base N_grown_tally "grown_tally" (defScope (top 6)) f cdv A outer s H E) (own := [("count", 4)]) (W' := WF) (pdi_seq (pd_var 3)) rfl nd (blkOk_by (N := N_grown_tally) (sc := defScope (top 6)) (by decide +kernel)) (fun _ _ _ _ _ => (pge_name (i := 4) nd rfl (by first | exact Or.inl rfl | exact Or.inr rfl) (by first | exact Or.inl rfl | exact Or.inr rfl))) (fun _ _ _ _ _ => ptd_nil) (fun _ _ _ _ _ => (pd_bin os_div (pd_bin os_add (pd_var 4) pd_int) pd_int)) (vs := [4]) rfl (by decide)) pds_nil)))) psd_nil)
    (psd_one (psd_ret (W := WF) (pd_var 3)))))
abbrev N_still_course : List Str := ["symbols", "size", "tally", "symbol"]
theorem sc_still_course : FnScope N_still_course ["symbols", "size"] (defScope (top 7)) := ⟨rfl, rfl, rfl, by decide +kernel, rfl, by decide +kernel, by decide +kernel⟩
theorem ok_still_course {P : Program} {w : World} {K : PySem.W.Frag} {mg : Str → Option Value} {base : Heap} {f : Addr} {fd : FuncData} (B : BX mg) (F_counted_tally : FI P w K mg base (ct K) 1 "counted_tally" s_counted_tally) (F_tally_step : FI P w K mg base (ct K) 1 "tally_step" s_tally_step) (F : FunD K "still_course" "still_course" (defArgs (top 7)) (defBody (top 7)) (defScope (top 7)) [] [] f fd) : FA P w K mg base (ct K) 2 f s_still_course := by
  refine FA.mk' (N := N_still_course) (ps := ["symbols", "size"]) (k := 1) F sc_still_course (F.bindsN fun _ _ _ _ _ _ us hl => match us, hl with | [_, _], _ => rfl) rfl rfl fun cdv A outer s H E hr => ?_
  have nd := sc_still_course.nd
  have hu := hr.units
  exact (psd_cons (psd_set (i := 2) (pm_strict (W := WF) (pd_call F_counted_tally (hr.mono (by omega)) (by rfl) (pds_cons (pd_var 0) (pds_cons (pd_var 1) pds_nil)))) nd rfl (by first | exact Or.inl rfl | exact Or.inr rfl) (by rfl) (by first | exact Or.inl rfl | exact Or.inr rfl))
    (psd_one (psd_ret (W := WF) (pd_callT cs_tuple (by rfl) B.tuple_ (by decide +kernel) (pds_cons (pd_lc (X := XB P w K mg base N_still_course "still_course" (defScope (top 7)) f cdv A outer s H E) (own := [("symbol", 3)]) (W' := WF) (pdi_seq (pd_var 0)) rfl nd (blkOk_by (N := N_still_course) (sc := defScope (top 7)) (by decide +kernel)) (fun _ _ _ _ _ => (pge_name (i := 3) nd rfl (by first | exact Or.inl rfl | exact Or.inr rfl) (by first | exact Or.inl rfl | exact Or.inr rfl))) (fun _ _ _ _ _ => ptd_nil) (fun _ _ _ _ _ => (pd_call F_tally_step (hr.mono (by omega)) (by rfl) (pds_cons (pd_var 2) (pds_cons (pd_var 3) pds_nil)))) (vs := [3]) rfl (by decide)) pds_nil)))))
abbrev N_falling_course : List Str := ["symbols", "size", "tally", "steps", "symbol"]
theorem sc_falling_course : FnScope N_falling_course ["symbols", "size"] (defScope (top 8)) := ⟨rfl, rfl, rfl, by decide +kernel, rfl, by decide +kernel, by decide +kernel⟩
theorem ok_falling_course {P : Program} {w : World} {K : PySem.W.Frag} {mg : Str → Option Value} {base : Heap} {f : Addr} {fd : FuncData} (B : BX mg) (F_counted_tally : FI P w K mg base (ct K) 1 "counted_tally" s_counted_tally) (F_risen_tally : FI P w K mg base (ct K) 1 "risen_tally" s_risen_tally) (F_tally_step : FI P w K mg base (ct K) 1 "tally_step" s_tally_step) (F : FunD K "falling_course" "falling_course" (defArgs (top 8)) (defBody (top 8)) (defScope (top 8)) [] [] f fd) : FA P w K mg base (ct K) 2 f s_falling_course := by
  refine FA.mk' (N := N_falling_course) (ps := ["symbols", "size"]) (k := 1) F sc_falling_course (F.bindsN fun _ _ _ _ _ _ us hl => match us, hl with | [_, _], _ => rfl) rfl rfl fun cdv A outer s H E hr => ?_
  have nd := sc_falling_course.nd
  have hu := hr.units
  exact (psd_cons (psd_set (i := 2) (pm_strict (W := WF) (pd_call F_counted_tally (hr.mono (by omega)) (by rfl) (pds_cons (pd_var 0) (pds_cons (pd_var 1) pds_nil)))) nd rfl (by first | exact Or.inl rfl | exact Or.inr rfl) (by rfl) (by first | exact Or.inl rfl | exact Or.inr rfl))
    (psd_cons (psd_own (i := 3) (pmf_strict (pdf_lst pds_nil)) nd rfl (by first | exact Or.inl rfl | exact Or.inr rfl) (by rfl) (by first | exact Or.inl rfl | exact Or.inr rfl))
    (psd_cons (psd_for (pmi_strict (W := WF) (pdi_seq (pd_var 0))) (pgd_name (i := 4) nd rfl (by first | exact Or.inl rfl | exact Or.inr rfl) (by first | exact Or.inl rfl | exact Or.inr rfl)) (psd_cons (psd_add (i := 3) add_one PySem.F.slot_list_append PySem.F.type_list_append mt_append (pm_strict (W := WF) (pd_call F_tally_step (hr.mono (by omega)) (by rfl) (pds_cons (pd_var 2) (pds_cons (pd_var 4) pds_nil)))) rfl (by first | exact Or.inl rfl | exact Or.inr (Or.inl rfl) | exact Or.inr (Or.inr rfl)))
    (psd_one (psd_set (i := 2) (pm_strict (W := WF) (pd_call F_risen_tally (hr.mono (by omega)) (by rfl) (pds_cons (pd_var 2) (pds_cons (pd_var 4) (pds_cons (pd_un us_neg pd_int) pds_nil))))) nd rfl (by first | exact Or.inl rfl | exact Or.inr rfl) (by rfl) (by first | exact Or.inl rfl | exact Or.inr rfl)))) PassesOwn.never rfl)
    (psds_frz (i := 3) (psd_one (psd_ret (W := WF) (pd_callT cs_tuple (by rfl) B.tuple_ (by decide +kernel) (pds_cons (pd_var 3) pds_nil))))))))
abbrev N_moving_walk : List Str := ["symbols", "size", "rule", "tally", "steps", "renewals", "at", "symbol"]
theorem sc_moving_walk : FnScope N_moving_walk ["symbols", "size", "rule"] (defScope (top 9)) := ⟨rfl, rfl, rfl, by decide +kernel, rfl, by decide +kernel, by decide +kernel⟩
theorem ok_moving_walk {P : Program} {w : World} {K : PySem.W.Frag} {mg : Str → Option Value} {base : Heap} {f : Addr} {fd : FuncData} (B : BX mg) (F_even_tally : FI P w K mg base (ct K) 1 "even_tally" s_even_tally) (F_grown_tally : FI P w K mg base (ct K) 2 "grown_tally" s_grown_tally) (F_is_renewed : FI P w K mg base (ct K) 1 "is_renewed" s_is_renewed) (F_tally_step : FI P w K mg base (ct K) 1 "tally_step" s_tally_step) (F : FunD K "moving_walk" "moving_walk" (defArgs (top 9)) (defBody (top 9)) (defScope (top 9)) [] [] f fd) : FA P w K mg base (ct K) 3 f s_moving_walk := by
  refine FA.mk' (N := N_moving_walk) (ps := ["symbols", "size", "rule"]) (k := 2) F sc_moving_walk (F.bindsN fun _ _ _ _ _ _ us hl => match us, hl with | [_, _, _], _ => rfl) rfl rfl fun cdv A outer s H E hr => ?_
  have nd := sc_moving_walk.nd
  have hu := hr.units
  exact (psd_cons (psd_set (i := 3) (pm_strict (W := WF) (pd_call F_even_tally (hr.mono (by omega)) (by rfl) (pds_cons (pd_var 1) pds_nil))) nd rfl (by first | exact Or.inl rfl | exact Or.inr rfl) (by rfl) (by first | exact Or.inl rfl | exact Or.inr rfl))
    (psd_cons (psd_own (i := 4) (pmf_strict (pdf_lst pds_nil)) nd rfl (by first | exact Or.inl rfl | exact Or.inr rfl) (by rfl) (by first | exact Or.inl rfl | exact Or.inr rfl))
    (psd_cons (psd_own (i := 5) (pmf_strict (pdf_lst pds_nil)) nd rfl (by first | exact Or.inl rfl | exact Or.inr rfl) (by rfl) (by first | exact Or.inl rfl | exact Or.inr rfl))
    (psd_cons (psd_for (pmi_strict (W := WF) (pdi_enum (by rfl) B.enumerate_ (pds_cons (pd_var 0) pds_nil))) (pgd_tup (n := 2) rfl (pgds_cons (pgd_name (i := 6) nd rfl (by first | exact Or.inl rfl | exact Or.inr rfl) (by first | exact Or.inl rfl | exact Or.inr rfl)) (pgds_cons (pgd_name (i := 7) nd rfl (by first | exact Or.inl rfl | exact Or.inr rfl) (by first | exact Or.inl rfl | exact Or.inr rfl)) pgds_nil)) rfl rfl rfl) (psd_cons (psd_add (i := 4) add_one PySem.F.slot_list_append PySem.F.type_list_append mt_append (pm_strict (W := WF) (pd_call F_tally_step (hr.mono (by omega)) (by rfl) (pds_cons (pd_var 3) (pds_cons (pd_var 7) pds_nil)))) rfl (by first | exact Or.inl rfl | exact Or.inr (Or.inl rfl) | exact Or.inr (Or.inr rfl)))
    (psd_cons (psd_if (pmb_strict (W := WF) (pdb_tru (pd_call F_is_renewed (hr.mono (by omega)) (by rfl) (pds_cons (pd_var 3) (pds_cons (pd_var 2) pds_nil))))) (psd_one (psd_add (i := 5) add_one PySem.F.slot_list_append PySem.F.type_list_append mt_append (pm_strict (W := WF) (pd_var 6)) rfl (by first | exact Or.inl rfl | exact Or.inr (Or.inl rfl) | exact Or.inr (Or.inr rfl)))) psd_nil)
    (psd_one (psd_set (i := 3) (pm_strict (W := WF) (pd_call F_grown_tally (hr.mono (by omega)) (by rfl) (pds_cons (pd_var 3) (pds_cons (pd_var 7) (pds_cons (pd_var 2) pds_nil))))) nd rfl (by first | exact Or.inl rfl | exact Or.inr rfl) (by rfl) (by first | exact Or.inl rfl | exact Or.inr rfl))))) PassesOwn.never rfl)
    (psds_frz (i := 5) (psds_frz (i := 4) (psd_one (psd_ret (W := WF) (pd_tup (pds_cons (pd_callT cs_tuple (by rfl) B.tuple_ (by decide +kernel) (pds_cons (pd_var 4) pds_nil)) (pds_cons (pd_callT cs_tuple (by rfl) B.tuple_ (by decide +kernel) (pds_cons (pd_var 5) pds_nil)) pds_nil)))))))))))
abbrev N_moving_course : List Str := ["symbols", "size", "rule"]
theorem sc_moving_course : FnScope N_moving_course ["symbols", "size", "rule"] (defScope (top 10)) := ⟨rfl, rfl, rfl, by decide +kernel, rfl, by decide +kernel, by decide +kernel⟩
theorem ok_moving_course {P : Program} {w : World} {K : PySem.W.Frag} {mg : Str → Option Value} {base : Heap} {f : Addr} {fd : FuncData} (B : BX mg) (F_moving_walk : FI P w K mg base (ct K) 3 "moving_walk" s_moving_walk) (F : FunD K "moving_course" "moving_course" (defArgs (top 10)) (defBody (top 10)) (defScope (top 10)) [] [] f fd) : FA P w K mg base (ct K) 4 f s_moving_course := by
  refine FA.mk' (N := N_moving_course) (ps := ["symbols", "size", "rule"]) (k := 3) F sc_moving_course (F.bindsN fun _ _ _ _ _ _ us hl => match us, hl with | [_, _, _], _ => rfl) rfl rfl fun cdv A outer s H E hr => ?_
  have nd := sc_moving_course.nd
  have hu := hr.units
  exact (psd_one (psd_ret (W := WF) (pd_ix (pd_call F_moving_walk (hr.mono (by omega)) (by rfl) (pds_cons (pd_var 0) (pds_cons (pd_var 1) (pds_cons (pd_var 2) pds_nil)))) pd_int (by intro _ _; rfl))))
abbrev N_renewal_places : List Str := ["symbols", "size", "rule"]
theorem sc_renewal_places : FnScope N_renewal_places ["symbols", "size", "rule"] (defScope (top 11)) := ⟨rfl, rfl, rfl, by decide +kernel, rfl, by decide +kernel, by decide +kernel⟩
theorem ok_renewal_places {P : Program} {w : World} {K : PySem.W.Frag} {mg : Str → Option Value} {base : Heap} {f : Addr} {fd : FuncData} (B : BX mg) (F_moving_walk : FI P w K mg base (ct K) 3 "moving_walk" s_moving_walk) (F : FunD K "renewal_places" "renewal_places" (defArgs (top 11)) (defBody (top 11)) (defScope (top 11)) [] [] f fd) : FA P w K mg base (ct K) 4 f s_renewal_places := by
  refine FA.mk' (N := N_renewal_places) (ps := ["symbols", "size", "rule"]) (k := 3) F sc_renewal_places (F.bindsN fun _ _ _ _ _ _ us hl => match us, hl with | [_, _, _], _ => rfl) rfl rfl fun cdv A outer s H E hr => ?_
  have nd := sc_renewal_places.nd
  have hu := hr.units
  exact (psd_one (psd_ret (W := WF) (pd_ix (pd_call F_moving_walk (hr.mono (by omega)) (by rfl) (pds_cons (pd_var 0) (pds_cons (pd_var 1) (pds_cons (pd_var 2) pds_nil)))) pd_int (by intro _ _; rfl))))
abbrev N_weight_pair : List Str := ["steps", "counts", "totals", "_", "count", "total"]
theorem sc_weight_pair : FnScope N_weight_pair ["steps"] (defScope (top 12)) := ⟨rfl, rfl, rfl, by decide +kernel, rfl, by decide +kernel, by decide +kernel⟩
theorem ok_weight_pair {P : Program} {w : World} {K : PySem.W.Frag} {mg : Str → Option Value} {base : Heap} {f : Addr} {fd : FuncData} (B : BX mg) (F : FunD K "weight_pair" "weight_pair" (defArgs (top 12)) (defBody (top 12)) (defScope (top 12)) [] [] f fd) : FA P w K mg base (ct K) 1 f s_weight_pair := by
  refine FA.mk' (N := N_weight_pair) (ps := ["steps"]) (k := 0) F sc_weight_pair (F.bindsN fun _ _ _ _ _ _ us hl => match us, hl with | [_], _ => rfl) rfl rfl fun cdv A outer s H E hr => ?_
  have nd := sc_weight_pair.nd
  have hu := hr.units
  exact (psd_cons (psd_set (i := 1) (pm_strict (W := WF) pd_int) nd rfl (by first | exact Or.inl rfl | exact Or.inr rfl) (by rfl) (by first | exact Or.inl rfl | exact Or.inr rfl))
    (psd_cons (psd_set (i := 2) (pm_strict (W := WF) pd_int) nd rfl (by first | exact Or.inl rfl | exact Or.inr rfl) (by rfl) (by first | exact Or.inl rfl | exact Or.inr rfl))
    (psd_cons (psd_for (pmi_strict (W := WF) (pdi_seq (pd_var 0))) (pgd_tup (n := 3) rfl (pgds_cons (pgd_name (i := 3) nd rfl (by first | exact Or.inl rfl | exact Or.inr rfl) (by first | exact Or.inl rfl | exact Or.inr rfl)) (pgds_cons (pgd_name (i := 4) nd rfl (by first | exact Or.inl rfl | exact Or.inr rfl) (by first | exact Or.inl rfl | exact Or.inr rfl)) (pgds_cons (pgd_name (i := 5) nd rfl (by first | exact Or.inl rfl | exact Or.inr rfl) (by first | exact Or.inl rfl | exact Or.inr rfl)) pgds_nil))) rfl rfl rfl) (psd_cons (psd_aug (i := 1) (pm_strict (W := WF) (pd_var 4)) ios_mul nd rfl (by first | exact Or.inl rfl | exact Or.inr rfl) (by first | exact Or.inl rfl | exact Or.inr rfl))
    (psd_one (psd_aug (i := 2) (pm_strict (W := WF) (pd_var 5)) ios_mul nd rfl (by first | exact Or.inl rfl | exact Or.inr rfl) (by first | exact Or.inl rfl | exact Or.inr rfl)))) PassesOwn.never rfl)
    (psd_one (psd_ret (W := WF) (pd_tup (pds_cons (pd_var 1) (pds_cons (pd_var 2) pds_nil))))))))
abbrev N_size_of : List Str := ["v"]
theorem sc_size_of : FnScope N_size_of ["v"] (defScope (top 14)) := ⟨rfl, rfl, rfl, by decide +kernel, rfl, by decide +kernel, by decide +kernel⟩
theorem ok_size_of {P : Program} {w : World} {K : PySem.W.Frag} {mg : Str → Option Value} {base : Heap} {f : Addr} {fd : FuncData} (B : BX mg) (F : FunD K "size_of" "size_of" (defArgs (top 14)) (defBody (top 14)) (defScope (top 14)) [] [] f fd) : FA P w K mg base (ct K) 1 f s_size_of := by
  refine FA.mk' (N := N_size_of) (ps := ["v"]) (k := 0) F sc_size_of (F.bindsN fun _ _ _ _ _ _ us hl => match us, hl with | [_], _ => rfl) rfl rfl fun cdv A outer s H E hr => ?_
  have nd := sc_size_of.nd
  have hu := hr.units
  exact (psd_one (psd_ret (W := WF) (pd_bits (pd_var 0))))
abbrev N_folded : List Str := ["s"]
theorem sc_folded : FnScope N_folded ["s"] (defScope (top 15)) := ⟨rfl, rfl, rfl, by decide +kernel, rfl, by decide +kernel, by decide +kernel⟩
theorem ok_folded {P : Program} {w : World} {K : PySem.W.Frag} {mg : Str → Option Value} {base : Heap} {f : Addr} {fd : FuncData} (B : BX mg) (F : FunD K "folded" "folded" (defArgs (top 15)) (defBody (top 15)) (defScope (top 15)) [] [] f fd) : FA P w K mg base (ct K) 1 f s_folded := by
  refine FA.mk' (N := N_folded) (ps := ["s"]) (k := 0) F sc_folded (F.bindsN fun _ _ _ _ _ _ us hl => match us, hl with | [_], _ => rfl) rfl rfl fun cdv A outer s H E hr => ?_
  have nd := sc_folded.nd
  have hu := hr.units
  exact (psd_one (psd_ret (W := WF) (pd_ite (pdb_cmp os_ge (pd_var 0) pd_int (by rfl)) (pd_bin os_mul pd_int (pd_var 0)) (pd_bin os_sub (pd_bin os_mul (pd_un us_neg pd_int) (pd_var 0)) pd_int))))
abbrev N_first_state : List Str := []
theorem sc_first_state : FnScope N_first_state [] (defScope (top 21)) := ⟨rfl, rfl, rfl, by decide +kernel, rfl, by decide +kernel, by decide +kernel⟩
theorem ok_first_state {P : Program} {w : World} {K : PySem.W.Frag} {mg : Str → Option Value} {base : Heap} {f : Addr} {fd : FuncData} (B : BX mg) (g_BEGINNING : ∃ t, mg "BEGINNING" = some (.int 32 t)) (F : FunD K "first_state" "first_state" (defArgs (top 21)) (defBody (top 21)) (defScope (top 21)) [] [] f fd) : FA P w K mg base (ct K) 1 f s_first_state := by
  refine FA.mk' (N := N_first_state) (ps := []) (k := 0) F sc_first_state (F.bindsN fun _ _ _ _ _ _ us hl => match us, hl with | [], _ => rfl) rfl rfl fun cdv A outer s H E hr => ?_
  have nd := sc_first_state.nd
  have hu := hr.units
  exact (psd_one (psd_ret (W := WF) (pd_tup (pds_cons pd_int (pds_cons (pd_bin os_shl pd_int (pd_gint (by rfl) g_BEGINNING)) (pds_cons (pd_gint (by rfl) g_BEGINNING) pds_nil))))))
abbrev N_coded_state : List Str := ["state", "step", "low", "wide", "size", "start", "count", "total", "unit"]
theorem sc_coded_state : FnScope N_coded_state ["state", "step"] (defScope (top 22)) := ⟨rfl, rfl, rfl, by decide +kernel, rfl, by decide +kernel, by decide +kernel⟩
theorem ok_coded_state {P : Program} {w : World} {K : PySem.W.Frag} {mg : Str → Option Value} {base : Heap} {f : Addr} {fd : FuncData} (B : BX mg) (g_LEAST : ∃ t, mg "LEAST" = some (.int 16777216 t)) (F : FunD K "coded_state" "coded_state" (defArgs (top 22)) (defBody (top 22)) (defScope (top 22)) [] [] f fd) : FA P w K mg base (ct K) 1 f s_coded_state := by
  refine FA.mk' (N := N_coded_state) (ps := ["state", "step"]) (k := 0) F sc_coded_state (F.bindsN fun _ _ _ _ _ _ us hl => match us, hl with | [_, _], _ => rfl) rfl rfl fun cdv A outer s H E hr => ?_
  have nd := sc_coded_state.nd
  have hu := hr.units
  exact (psd_cons (psd_asg (pm_strict (W := WF) (pd_var 0)) (pgd_tup (n := 3) rfl (pgds_cons (pgd_name (i := 2) nd rfl (by first | exact Or.inl rfl | exact Or.inr rfl) (by first | exact Or.inl rfl | exact Or.inr rfl)) (pgds_cons (pgd_name (i := 3) nd rfl (by first | exact Or.inl rfl | exact Or.inr rfl) (by first | exact Or.inl rfl | exact Or.inr rfl)) (pgds_cons (pgd_name (i := 4) nd rfl (by first | exact Or.inl rfl | exact Or.inr rfl) (by first | exact Or.inl rfl | exact Or.inr rfl)) pgds_nil))) rfl rfl rfl) (by rfl) (by rfl))
    (psd_cons (psd_asg (pm_strict (W := WF) (pd_var 1)) (pgd_tup (n := 3) rfl (pgds_cons (pgd_name (i := 5) nd rfl (by first | exact Or.inl rfl | exact Or.inr rfl) (by first | exact Or.inl rfl | exact Or.inr rfl)) (pgds_cons (pgd_name (i := 6) nd rfl (by first | exact Or.inl rfl | exact Or.inr rfl) (by first | exact Or.inl rfl | exact Or.inr rfl)) (pgds_cons (pgd_name (i := 7) nd rfl (by first | exact Or.inl rfl | exact Or.inr rfl) (by first | exact Or.inl rfl | exact Or.inr rfl)) pgds_nil))) rfl rfl rfl) (by rfl) (by rfl))
    (psd_cons (psd_set (i := 8) (pm_strict (W := WF) (pd_bin os_div (pd_var 3) (pd_var 7))) nd rfl (by first | exact Or.inl rfl | exact Or.inr rfl) (by rfl) (by first | exact Or.inl rfl | exact Or.inr rfl))
    (psd_cons (psd_par (i := 2) (j := 3) (pms_strict (W := WF) (pds_cons (pd_bin os_add (pd_var 2) (pd_bin os_mul (pd_var 8) (pd_var 5))) (pds_cons (pd_bin os_mul (pd_var 8) (pd_var 6)) pds_nil))) rfl nd rfl rfl (by decide) (by rfl) (by rfl) (by rfl) (by rfl))
    (psd_cons (psd_while (pmb_strict (W := WF) (pdb_cmp os_lt (pd_var 3) (pd_gint (by rfl) g_LEAST) (by rfl))) (psd_one (psd_par3 (i := 2) (j := 3) (l := 4) (pms_strict (W := WF) (pds_cons (pd_bin os_shl (pd_var 2) pd_int) (pds_cons (pd_bin os_shl (pd_var 3) pd_int) (pds_cons (pd_bin os_add (pd_var 4) pd_int) pds_nil)))) rfl nd rfl rfl rfl (by decide) (by decide) (by decide) (by rfl) (by rfl) (by rfl) (by rfl) (by rfl))) PassesOwn.never)
    (psd_one (psd_ret (W := WF) (pd_tup (pds_cons (pd_var 2) (pds_cons (pd_var 3) (pds_cons (pd_var 4) pds_nil)))))))))))
abbrev N_state_of_steps : List Str := ["steps", "state", "step"]
theorem sc_state_of_steps : FnScope N_state_of_steps ["steps"] (defScope (top 23)) := ⟨rfl, rfl, rfl, by decide +kernel, rfl, by decide +kernel, by decide +kernel⟩
theorem ok_state_of_steps {P : Program} {w : World} {K : PySem.W.Frag} {mg : Str → Option Value} {base : Heap} {f : Addr} {fd : FuncData} (B : BX mg) (F_coded_state : FI P w K mg base (ct K) 1 "coded_state" s_coded_state) (F_first_state : FI P w K mg base (ct K) 1 "first_state" s_first_state) (F : FunD K "state_of_steps" "state_of_steps" (defArgs (top 23)) (defBody (top 23)) (defScope (top 23)) [] [] f fd) : FA P w K mg base (ct K) 2 f s_state_of_steps := by
  refine FA.mk' (N := N_state_of_steps) (ps := ["steps"]) (k := 1) F sc_state_of_steps (F.bindsN fun _ _ _ _ _ _ us hl => match us, hl with | [_], _ => rfl) rfl rfl fun cdv A outer s H E hr => ?_
  have nd := sc_state_of_steps.nd
  have hu := hr.units
  exact (psd_cons (psd_set (i := 1) (pm_strict (W := WF) (pd_call0 F_first_state (hr.mono (by omega)) (by rfl))) nd rfl (by first | exact Or.inl rfl | exact Or.inr rfl) (by rfl) (by first | exact Or.inl rfl | exact Or.inr rfl))
    (psd_cons (psd_for (pmi_strict (W := WF) (pdi_seq (pd_var 0))) (pgd_name (i := 2) nd rfl (by first | exact Or.inl rfl | exact Or.inr rfl) (by first | exact Or.inl rfl | exact Or.inr rfl)) (psd_one (psd_set (i := 1) (pm_strict (W := WF) (pd_call F_coded_state (hr.mono (by omega)) (by rfl) (pds_cons (pd_var 1) (pds_cons (pd_var 2) pds_nil)))) nd rfl (by first | exact Or.inl rfl | exact Or.inr rfl) (by rfl) (by first | exact Or.inl rfl | exact Or.inr rfl))) PassesOwn.never rfl)
    (psd_one (psd_ret (W := WF) (pd_var 1)))))
abbrev N_has_multiple : List Str := ["state", "shift", "low", "wide", "_"]
theorem sc_has_multiple : FnScope N_has_multiple ["state", "shift"] (defScope (top 24)) := ⟨rfl, rfl, rfl, by decide +kernel, rfl, by decide +kernel, by decide +kernel⟩
theorem ok_has_multiple {P : Program} {w : World} {K : PySem.W.Frag} {mg : Str → Option Value} {base : Heap} {f : Addr} {fd : FuncData} (B : BX mg) (F : FunD K "has_multiple" "has_multiple" (defArgs (top 24)) (defBody (top 24)) (defScope (top 24)) [] [] f fd) : FA P w K mg base (ct K) 1 f s_has_multiple := by
  refine FA.mk' (N := N_has_multiple) (ps := ["state", "shift"]) (k := 0) F sc_has_multiple (F.bindsN fun _ _ _ _ _ _ us hl => match us, hl with | [_, _], _ => rfl) rfl rfl fun cdv A outer s H E hr => ?_
  have nd := sc_has_multiple.nd
  have hu := hr.units
  exact (psd_cons (psd_asg (pm_strict (W := WF) (pd_var 0)) (pgd_tup (n := 3) rfl (pgds_cons (pgd_name (i := 2) nd rfl (by first | exact Or.inl rfl | exact Or.inr rfl) (by first | exact Or.inl rfl | exact Or.inr rfl)) (pgds_cons (pgd_name (i := 3) nd rfl (by first | exact Or.inl rfl | exact Or.inr rfl) (by first | exact Or.inl rfl | exact Or.inr rfl)) (pgds_cons (pgd_name (i := 4) nd rfl (by first | exact Or.inl rfl | exact Or.inr rfl) (by first | exact Or.inl rfl | exact Or.inr rfl)) pgds_nil))) rfl rfl rfl) (by rfl) (by rfl))
    (psd_one (psd_ret (W := WF) (pd_cmp os_lt (pd_bin os_shl (pd_bin os_add (pd_bin os_shr (pd_bin os_sub (pd_var 2) pd_int) (pd_var 1)) pd_int) (pd_var 1)) (pd_bin os_add (pd_var 2) (pd_var 3)) (by rfl)))))
abbrev N_free_figures : List Str := ["state", "shift"]
theorem sc_free_figures : FnScope N_free_figures ["state"] (defScope (top 25)) := ⟨rfl, rfl, rfl, by decide +kernel, rfl, by decide +kernel, by decide +kernel⟩
theorem ok_free_figures {P : Program} {w : World} {K : PySem.W.Frag} {mg : Str → Option Value} {base : Heap} {f : Addr} {fd : FuncData} (B : BX mg) (F_has_multiple : FI P w K mg base (ct K) 1 "has_multiple" s_has_multiple) (F_size_of : FI P w K mg base (ct K) 1 "size_of" s_size_of) (F : FunD K "free_figures" "free_figures" (defArgs (top 25)) (defBody (top 25)) (defScope (top 25)) [] [] f fd) : FA P w K mg base (ct K) 2 f s_free_figures := by
  refine FA.mk' (N := N_free_figures) (ps := ["state"]) (k := 1) F sc_free_figures (F.bindsN fun _ _ _ _ _ _ us hl => match us, hl with | [_], _ => rfl) rfl rfl fun cdv A outer s H E hr => ?_
  have nd := sc_free_figures.nd
  have hu := hr.units
  exact (psd_cons (psd_set (i := 1) (pm_strict (W := WF) (pd_bin os_sub (pd_call F_size_of (hr.mono (by omega)) (by rfl) (pds_cons (pd_ix (pd_var 0) pd_int (by intro _ _; rfl)) pds_nil)) pd_int)) nd rfl (by first | exact Or.inl rfl | exact Or.inr rfl) (by rfl) (by first | exact Or.inl rfl | exact Or.inr rfl))
    (psd_cons (psd_while (pmb_strict (W := WF) (pdb_bool (pdw_and (pdb_cmp os_lt (pd_var 1) (pd_ix (pd_var 0) pd_int (by intro _ _; rfl)) (by rfl)) (pdw_and1 (pdb_tru (pd_call F_has_multiple (hr.mono (by omega)) (by rfl) (pds_cons (pd_var 0) (pds_cons (pd_bin os_add (pd_var 1) pd_int) pds_nil)))))))) (psd_one (psd_aug (i := 1) (pm_strict (W := WF) pd_int) ios_add nd rfl (by first | exact Or.inl rfl | exact Or.inr rfl) (by first | exact Or.inl rfl | exact Or.inr rfl))) PassesOwn.never)
    (psd_one (psd_ret (W := WF) (pd_var 1)))))
abbrev N_code_length : List Str := ["steps", "state"]
theorem sc_code_length : FnScope N_code_length ["steps"] (defScope (top 26)) := ⟨rfl, rfl, rfl, by decide +kernel, rfl, by decide +kernel, by decide +kernel⟩
theorem ok_code_length {P : Program} {w : World} {K : PySem.W.Frag} {mg : Str → Option Value} {base : Heap} {f : Addr} {fd : FuncData} (B : BX mg) (F_free_figures : FI P w K mg base (ct K) 2 "free_figures" s_free_figures) (F_state_of_steps : FI P w K mg base (ct K) 2 "state_of_steps" s_state_of_steps) (F : FunD K "code_length" "code_length" (defArgs (top 26)) (defBody (top 26)) (defScope (top 26)) [] [] f fd) : FA P w K mg base (ct K) 3 f s_code_length := by
  refine FA.mk' (N := N_code_length) (ps := ["steps"]) (k := 2) F sc_code_length (F.bindsN fun _ _ _ _ _ _ us hl => match us, hl with | [_], _ => rfl) rfl rfl fun cdv A outer s H E hr => ?_
  have nd := sc_code_length.nd
  have hu := hr.units
  exact (psd_cons (psd_set (i := 1) (pm_strict (W := WF) (pd_call F_state_of_steps (hr.mono (by omega)) (by rfl) (pds_cons (pd_var 0) pds_nil))) nd rfl (by first | exact Or.inl rfl | exact Or.inr rfl) (by rfl) (by first | exact Or.inl rfl | exact Or.inr rfl))
    (psd_one (psd_ret (W := WF) (pd_bin os_sub (pd_ix (pd_var 1) pd_int (by intro _ _; rfl)) (pd_call F_free_figures (hr.mono (by omega)) (by rfl) (pds_cons (pd_var 1) pds_nil))))))
abbrev N_is_within_weight : List Str := ["steps", "length", "counts", "totals", "_"]
theorem sc_is_within_weight : FnScope N_is_within_weight ["steps", "length"] (defScope (top 27)) := ⟨rfl, rfl, rfl, by decide +kernel, rfl, by decide +kernel, by decide +kernel⟩
theorem ok_is_within_weight {P : Program} {w : World} {K : PySem.W.Frag} {mg : Str → Option Value} {base : Heap} {f : Addr} {fd : FuncData} (B : BX mg) (g_LOSS : ∃ t, mg "LOSS" = some (.int 4096 t)) (g_MOST_LENGTH : ∃ t, mg "MOST_LENGTH" = some (.int 20000 t)) (F_weight_pair : FI P w K mg base (ct K) 1 "weight_pair" s_weight_pair) (F : FunD K "is_within_weight" "is_within_weight" (defArgs (top 27)) (defBody (top 27)) (defScope (top 27)) [] [] f fd) : FA P w K mg base (ct K) 2 f s_is_within_weight := by
  refine FA.mk' (N := N_is_within_weight) (ps := ["steps", "length"]) (k := 1) F sc_is_within_weight (F.bindsN fun _ _ _ _ _ _ us hl => match us, hl with | [_, _], _ => rfl) rfl rfl fun cdv A outer s H E hr => ?_
  have nd := sc_is_within_weight.nd
  have hu := hr.units
  exact (psd_cons (psd_if (pmb_strict (W := WF) (pdb_bool (pdw_or (pdb_cmp os_le (pd_var 1) pd_int (by rfl)) (pdw_or1 (pdb_cmp os_gt (pd_var 1) (pd_gint (by rfl) g_MOST_LENGTH) (by rfl)))))) (psd_one (psd_ret (W := WF) (pd_cmp (os_eq hu) (pd_var 1) pd_int (by rfl)))) psd_nil)
    (psd_cons (psd_asg (pm_strict (W := WF) (pd_call F_weight_pair (hr.mono (by omega)) (by rfl) (pds_cons (pd_var 0) pds_nil))) (pgd_tup (n := 2) rfl (pgds_cons (pgd_name (i := 2) nd rfl (by first | exact Or.inl rfl | exact Or.inr rfl) (by first | exact Or.inl rfl | exact Or.inr rfl)) (pgds_cons (pgd_name (i := 3) nd rfl (by first | exact Or.inl rfl | exact Or.inr rfl) (by first | exact Or.inl rfl | exact Or.inr rfl)) pgds_nil)) rfl rfl rfl) (by rfl) (by rfl))
    (psd_cons (psd_for (pmi_strict (W := WF) (pdi_seq (pd_var 0))) (pgd_name (i := 4) nd rfl (by first | exact Or.inl rfl | exact Or.inr rfl) (by first | exact Or.inl rfl | exact Or.inr rfl)) (psd_one (psd_par (i := 2) (j := 3) (pms_strict (W := WF) (pds_cons (pd_bin os_mul (pd_var 2) (pd_bin os_sub (pd_gint (by rfl) g_LOSS) pd_int)) (pds_cons (pd_bin os_mul (pd_var 3) (pd_gint (by rfl) g_LOSS)) pds_nil))) rfl nd rfl rfl (by decide) (by rfl) (by rfl) (by rfl) (by rfl))) PassesOwn.never rfl)
    (psd_one (psd_ret (W := WF) (pd_cmp os_lt (pd_bin os_shl (pd_var 2) (pd_bin os_sub (pd_var 1) pd_int)) (pd_var 3) (by rfl)))))))
abbrev N_grade_of : List Str := ["remnant"]
theorem sc_grade_of : FnScope N_grade_of ["remnant"] (defScope (top 31)) := ⟨rfl, rfl, rfl, by decide +kernel, rfl, by decide +kernel, by decide +kernel⟩
theorem ok_grade_of {P : Program} {w : World} {K : PySem.W.Frag} {mg : Str → Option Value} {base : Heap} {f : Addr} {fd : FuncData} (B : BX mg) (F_folded : FI P w K mg base (ct K) 1 "folded" s_folded) (F_size_of : FI P w K mg base (ct K) 1 "size_of" s_size_of) (F : FunD K "grade_of" "grade_of" (defArgs (top 31)) (defBody (top 31)) (defScope (top 31)) [] [] f fd) : FA P w K mg base (ct K) 2 f s_grade_of := by
  refine FA.mk' (N := N_grade_of) (ps := ["remnant"]) (k := 1) F sc_grade_of (F.bindsN fun _ _ _ _ _ _ us hl => match us, hl with | [_], _ => rfl) rfl rfl fun cdv A outer s H E hr => ?_
  have nd := sc_grade_of.nd
  have hu := hr.units
  exact (psd_one (psd_ret (W := WF) (pd_call F_size_of (hr.mono (by omega)) (by rfl) (pds_cons (pd_call F_folded (hr.mono (by omega)) (by rfl) (pds_cons (pd_var 0) pds_nil)) pds_nil))))
abbrev N_group_sizes : List Str := ["grade", "left", "sizes"]
theorem sc_group_sizes : FnScope N_group_sizes ["grade"] (defScope (top 32)) := ⟨rfl, rfl, rfl, by decide +kernel, rfl, by decide +kernel, by decide +kernel⟩
theorem ok_group_sizes {P : Program} {w : World} {K : PySem.W.Frag} {mg : Str → Option Value} {base : Heap} {f : Addr} {fd : FuncData} (B : BX mg) (g_GROUP : ∃ t, mg "GROUP" = some (.int 8 t)) (F : FunD K "group_sizes" "group_sizes" (defArgs (top 32)) (defBody (top 32)) (defScope (top 32)) [] [] f fd) : FA P w K mg base (ct K) 1 f s_group_sizes := by
  refine FA.mk' (N := N_group_sizes) (ps := ["grade"]) (k := 0) F sc_group_sizes (F.bindsN fun _ _ _ _ _ _ us hl => match us, hl with | [_], _ => rfl) rfl rfl fun cdv A outer s H E hr => ?_
  have nd := sc_group_sizes.nd
  have hu := hr.units
  exact (psd_cons (psd_set (i := 1) (pm_strict (W := WF) (pd_bin os_sub (pd_var 0) pd_int)) nd rfl (by first | exact Or.inl rfl | exact Or.inr rfl) (by rfl) (by first | exact Or.inl rfl | exact Or.inr rfl))
    (psd_cons (psd_own (i := 2) (pmf_strict (pdf_lst pds_nil)) nd rfl (by first | exact Or.inl rfl | exact Or.inr rfl) (by rfl) (by first | exact Or.inl rfl | exact Or.inr rfl))
    (psd_cons (psd_while (pmb_strict (W := WF) (pdb_cmp os_gt (pd_var 1) pd_int (by rfl))) (psd_cons (psd_add (i := 2) add_one PySem.F.slot_list_append PySem.F.type_list_append mt_append (pm_strict (W := WF) (pd_callB (cs_min2 rfl) (by rfl) B.min_ (by decide +kernel) (pds_cons (pd_gint (by rfl) g_GROUP) (pds_cons (pd_var 1) pds_nil)))) rfl (by first | exact Or.inl rfl | exact Or.inr (Or.inl rfl) | exact Or.inr (Or.inr rfl)))
    (psd_one (psd_aug (i := 1) (pm_strict (W := WF) (pd_gint (by rfl) g_GROUP)) ios_sub nd rfl (by first | exact Or.inl rfl | exact Or.inr rfl) (by first | exact Or.inl rfl | exact Or.inr rfl)))) PassesOwn.never)
    (psds_frz (i := 2) (psd_one (psd_ret (W := WF) (pd_var 2)))))))
abbrev N_figure_steps : List Str := ["remnant", "v", "left", "steps", "n"]
theorem sc_figure_steps : FnScope N_figure_steps ["remnant"] (defScope (top 33)) := ⟨rfl, rfl, rfl, by decide +kernel, rfl, by decide +kernel, by decide +kernel⟩
theorem ok_figure_steps {P : Program} {w : World} {K : PySem.W.Frag} {mg : Str → Option Value} {base : Heap} {f : Addr} {fd : FuncData} (B : BX mg) (F_folded : FI P w K mg base (ct K) 1 "folded" s_folded) (F_group_sizes : FI P w K mg base (ct K) 1 "group_sizes" s_group_sizes) (F_size_of : FI P w K mg base (ct K) 1 "size_of" s_size_of) (F : FunD K "figure_steps" "figure_steps" (defArgs (top 33)) (defBody (top 33)) (defScope (top 33)) [] [] f fd) : FA P w K mg base (ct K) 2 f s_figure_steps := by
  refine FA.mk' (N := N_figure_steps) (ps := ["remnant"]) (k := 1) F sc_figure_steps (F.bindsN fun _ _ _ _ _ _ us hl => match us, hl with | [_], _ => rfl) rfl rfl fun cdv A outer s H E hr => ?_
  have nd := sc_figure_steps.nd
  have hu := hr.units
  exact (psd_cons (psd_set (i := 1) (pm_strict (W := WF) (pd_call F_folded (hr.mono (by omega)) (by rfl) (pds_cons (pd_var 0) pds_nil))) nd rfl (by first | exact Or.inl rfl | exact Or.inr rfl) (by rfl) (by first | exact Or.inl rfl | exact Or.inr rfl))
    (psd_cons (psd_set (i := 2) (pm_strict (W := WF) (pd_bin os_sub (pd_call F_size_of (hr.mono (by omega)) (by rfl) (pds_cons (pd_var 1) pds_nil)) pd_int)) nd rfl (by first | exact Or.inl rfl | exact Or.inr rfl) (by rfl) (by first | exact Or.inl rfl | exact Or.inr rfl))
    (psd_cons (psd_own (i := 3) (pmf_strict (pdf_lst pds_nil)) nd rfl (by first | exact Or.inl rfl | exact Or.inr rfl) (by rfl) (by first | exact Or.inl rfl | exact Or.inr rfl))
    (psd_cons (psd_for (pmi_strict (W := WF) (pdi_seq (pd_call F_group_sizes (hr.mono (by omega)) (by rfl) (pds_cons (pd_call F_size_of (hr.mono (by omega)) (by rfl) (pds_cons (pd_var 1) pds_nil)) pds_nil)))) (pgd_name (i := 4) nd rfl (by first | exact Or.inl rfl | exact Or.inr rfl) (by first | exact Or.inl rfl | exact Or.inr rfl)) (psd_cons (psd_aug (i := 2) (pm_strict (W := WF) (pd_var 4)) ios_sub nd rfl (by first | exact Or.inl rfl | exact Or.inr rfl) (by first | exact Or.inl rfl | exact Or.inr rfl))
    (psd_one (psd_add (i := 3) add_one PySem.F.slot_list_append PySem.F.type_list_append mt_append (pm_strict (W := WF) (pd_tup (pds_cons (pd_bin os_mod (pd_bin os_shr (pd_var 1) (pd_var 2)) (pd_bin os_shl pd_int (pd_var 4))) (pds_cons pd_int (pds_cons (pd_bin os_shl pd_int (pd_var 4)) pds_nil))))) rfl (by first | exact Or.inl rfl | exact Or.inr (Or.inl rfl) | exact Or.inr (Or.inr rfl))))) PassesOwn.never rfl)
    (psds_frz (i := 3) (psd_one (psd_ret (W := WF) (pd_callT cs_tuple (by rfl) B.tuple_ (by decide +kernel) (pds_cons (pd_var 3) pds_nil)))))))))
abbrev N_GradeBook___init__ : List Str := ["self", "model", "tally"]
theorem sc_GradeBook___init__ : FnScope N_GradeBook___init__ ["self", "model", "tally"] (defScope (inClass (top 34) 0)) := ⟨rfl, rfl, rfl, by decide +kernel, rfl, by decide +kernel, by decide +kernel⟩
theorem ok_GradeBook___init__ {P : Program} {w : World} {K : PySem.W.Frag} {mg : Str → Option Value} {base : Heap} {f : Addr} {fd : FuncData} (B : BX mg) (F : FunD K "__init__" "GradeBook.__init__" (defArgs (inClass (top 34) 0)) (defBody (inClass (top 34) 0)) (defScope (inClass (top 34) 0)) [] [] f fd) : FA P w K mg base (ct K) 1 f s_GradeBook___init__ := by
  refine FA.mk' (N := N_GradeBook___init__) (ps := ["self", "model", "tally"]) (k := 0) F sc_GradeBook___init__ (F.bindsN fun _ _ _ _ _ _ us hl => match us, hl with | [_, _, _], _ => rfl) rfl rfl fun cdv A outer s H E hr => ?_
  have nd := sc_GradeBook___init__.nd
  have hu := hr.units
  exact (psd_cons (psd_fset (c := 0) (j := 0) (cd := cd_GradeBook K) (pm_strict (W := WF) (pd_var 1)) (pm_strict (W := WF) (pd_var 0)) rfl rfl (by rfl))
    (psd_cons (psd_fown (c := 0) (j := 1) (cd := cd_GradeBook K) (pmf_strict (pdf_mul (pd_lst (pds_cons (pd_var 2) pds_nil)) (pd_len (by rfl) B.len_ (pd_var 2)))) (pm_strict (W := WF) (pd_var 0)) rfl rfl (by rfl))
    (psd_one (psd_fset (c := 0) (j := 2) (cd := cd_GradeBook K) (pm_strict (W := WF) pd_int) (pm_strict (W := WF) (pd_var 0)) rfl rfl (by rfl)))))
abbrev N_GradeBook_tally_now : List Str := ["self"]
theorem sc_GradeBook_tally_now : FnScope N_GradeBook_tally_now ["self"] (defScope (inClass (top 34) 1)) := ⟨rfl, rfl, rfl, by decide +kernel, rfl, by decide +kernel, by decide +kernel⟩
theorem ok_GradeBook_tally_now {P : Program} {w : World} {K : PySem.W.Frag} {mg : Str → Option Value} {base : Heap} {f : Addr} {fd : FuncData} (B : BX mg) (F : FunD K "tally_now" "GradeBook.tally_now" (defArgs (inClass (top 34) 1)) (defBody (inClass (top 34) 1)) (defScope (inClass (top 34) 1)) [] [] f fd) : FA P w K mg base (ct K) 1 f s_GradeBook_tally_now := by
  refine FA.mk' (N := N_GradeBook_tally_now) (ps := ["self"]) (k := 0) F sc_GradeBook_tally_now (F.bindsN fun _ _ _ _ _ _ us hl => match us, hl with | [_], _ => rfl) rfl rfl fun cdv A outer s H E hr => ?_
  have nd := sc_GradeBook_tally_now.nd
  have hu := hr.units
  exact (psd_one (psd_ret (W := WF) (pd_ix (pd_fld (c := 0) (j := 1) (cd := cd_GradeBook K) (pd_var 0) rfl rfl rfl) (pd_fld (c := 0) (j := 2) (cd := cd_GradeBook K) (pd_var 0) rfl rfl rfl) (by intro _ _; rfl))))
abbrev N_GradeBook_pass_grade : List Str := ["self", "grade", "tally"]
theorem sc_GradeBook_pass_grade : FnScope N_GradeBook_pass_grade ["self", "grade"] (defScope (inClass (top 34) 2)) := ⟨rfl, rfl, rfl, by decide +kernel, rfl, by decide +kernel, by decide +kernel⟩
theorem ok_GradeBook_pass_grade {P : Program} {w : World} {K : PySem.W.Frag} {mg : Str → Option Value} {base : Heap} {f : Addr} {fd : FuncData} (B : BX mg) (g_RULES : KD K mg "RULES" (.tup [(.tup [(.int 1), (.int 4096)]), (.tup [(.int 8), (.int 512)]), (.tup [(.int 32), (.int 64)])])) (F_grown_tally : FI P w K mg base (ct K) 2 "grown_tally" s_grown_tally) (F_risen_tally : FI P w K mg base (ct K) 1 "risen_tally" s_risen_tally) (F : FunD K "pass_grade" "GradeBook.pass_grade" (defArgs (inClass (top 34) 2)) (defBody (inClass (top 34) 2)) (defScope (inClass (top 34) 2)) [] [] f fd) : FA P w K mg base (ct K) 3 f s_GradeBook_pass_grade := by
  refine FA.mk' (N := N_GradeBook_pass_grade) (ps := ["self", "grade"]) (k := 2) F sc_GradeBook_pass_grade (F.bindsN fun _ _ _ _ _ _ us hl => match us, hl with | [_, _], _ => rfl) rfl rfl fun cdv A outer s H E hr => ?_
  have nd := sc_GradeBook_pass_grade.nd
  have hu := hr.units
  exact (psd_cons (psd_set (i := 2) (pm_strict (W := WF) (pd_ix (pd_fld (c := 0) (j := 1) (cd := cd_GradeBook K) (pd_var 0) rfl rfl rfl) (pd_fld (c := 0) (j := 2) (cd := cd_GradeBook K) (pd_var 0) rfl rfl rfl) (by intro _ _; rfl))) nd rfl (by first | exact Or.inl rfl | exact Or.inr rfl) (by rfl) (by first | exact Or.inl rfl | exact Or.inr rfl))
    (psd_cons (psd_if (pmb_strict (W := WF) (pdb_cmp (os_eq hu) (pd_fld (c := 0) (j := 0) (cd := cd_GradeBook K) (pd_var 0) rfl rfl rfl) pd_int (by rfl))) (psd_one (psd_fput (pm_strict (W := WF) (pd_call F_risen_tally (hr.mono (by omega)) (by rfl) (pds_cons (pd_var 2) (pds_cons (pd_var 1) (pds_cons (pd_un us_neg pd_int) pds_nil))))) (pm_strict (W := WF) (pd_fld (c := 0) (j := 1) (cd := cd_GradeBook K) (pd_var 0) rfl rfl rfl)) (pm_strict (W := WF) (pd_fld (c := 0) (j := 2) (cd := cd_GradeBook K) (pd_var 0) rfl rfl rfl)) (by rfl) (by rfl))) psd_nil)
    (psd_cons (psd_if (pmb_strict (W := WF) (pdb_cmp os_gt (pd_fld (c := 0) (j := 0) (cd := cd_GradeBook K) (pd_var 0) rfl rfl rfl) pd_int (by rfl))) (psd_one (psd_fput (pm_strict (W := WF) (pd_call F_grown_tally (hr.mono (by omega)) (by rfl) (pds_cons (pd_var 2) (pds_cons (pd_var 1) (pds_cons (pd_ix (pd_gtup (by rfl) g_RULES) (pd_bin os_mod (pd_bin os_sub (pd_fld (c := 0) (j := 0) (cd := cd_GradeBook K) (pd_var 0) rfl rfl rfl) pd_int) pd_int) (by intro _ _; rfl)) pds_nil))))) (pm_strict (W := WF) (pd_fld (c := 0) (j := 1) (cd := cd_GradeBook K) (pd_var 0) rfl rfl rfl)) (pm_strict (W := WF) (pd_fld (c := 0) (j := 2) (cd := cd_GradeBook K) (pd_var 0) rfl rfl rfl)) (by rfl) (by rfl))) psd_nil)
    (psd_one (psd_if (pmb_strict (W := WF) (pdb_cmp os_gt (pd_fld (c := 0) (j := 0) (cd := cd_GradeBook K) (pd_var 0) rfl rfl rfl) pd_int (by rfl))) (psd_one (psd_fset (c := 0) (j := 2) (cd := cd_GradeBook K) (pm_strict (W := WF) (pd_var 1)) (pm_strict (W := WF) (pd_var 0)) rfl rfl (by rfl))) psd_nil)))))
abbrev N_begun_tally : List Str := ["remnants", "width", "model", "remnant"]
theorem sc_begun_tally : FnScope N_begun_tally ["remnants", "width", "model"] (defScope (top 35)) := ⟨rfl, rfl, rfl, by decide +kernel, rfl, by decide +kernel, by decide +kernel⟩
theorem ok_begun_tally {P : Program} {w : World} {K : PySem.W.Frag} {mg : Str → Option Value} {base : Heap} {f : Addr} {fd : FuncData} (B : BX mg) (F_counted_tally : FI P w K mg base (ct K) 1 "counted_tally" s_counted_tally) (F_even_tally : FI P w K mg base (ct K) 1 "even_tally" s_even_tally) (F_grade_of : FI P w K mg base (ct K) 2 "grade_of" s_grade_of) (F : FunD K "begun_tally" "begun_tally" (defArgs (top 35)) (defBody (top 35)) (defScope (top 35)) [] [] f fd) : FA P w K mg base (ct K) 3 f s_begun_tally := by
  refine FA.mk' (N := N_begun_tally) (ps := ["remnants", "width", "model"]) (k := 2) F sc_begun_tally (F.bindsN fun _ _ _ _ _ _ us hl => match us, hl with | [_, _, _], _ => rfl) rfl rfl fun cdv A outer s H E hr => ?_
  have nd := sc_begun_tally.nd
  have hu := hr.units
  exact (psd_cons (psd_if (pmb_strict (W := WF) (pdb_cmp os_gt (pd_var 2) pd_int (by rfl))) (psd_one (psd_ret (W := WF) (pd_call F_even_tally (hr.mono (by omega)) (by rfl) (pds_cons (pd_bin os_add (pd_var 1) pd_int) pds_nil)))) psd_nil)
    (psd_one (psd_ret (W := WF) (pd_call F_counted_tally (hr.mono (by omega)) (by rfl) (pds_cons (pd_lc (X := XB P w K mg base N_begun_tally "begun_tally" (defScope (top 35)) f cdv A outer s H E) (own := [("remnant", 3)]) (W' := WF) (pdi_seq (pd_var 0)) rfl nd (blkOk_by (N := N_begun_tally) (sc := defScope (top 35)) (by decide +kernel)) (fun _ _ _ _ _ => (pge_name (i := 3) nd rfl (by first | exact Or.inl rfl | exact Or.inr rfl) (by first | exact Or.inl rfl | exact Or.inr rfl))) (fun _ _ _ _ _ => ptd_nil) (fun _ _ _ _ _ => (pd_call F_grade_of (hr.mono (by omega)) (by rfl) (pds_cons (pd_var 3) pds_nil))) (vs := [3]) rfl (by decide)) (pds_cons (pd_bin os_add (pd_var 1) pd_int) pds_nil))))))
abbrev N_model_course : List Str := ["remnants", "width", "model", "book", "steps", "remnant", "grade"]
theorem sc_model_course : FnScope N_model_course ["remnants", "width", "model"] (defScope (top 36)) := ⟨rfl, rfl, rfl, by decide +kernel, rfl, by decide +kernel, by decide +kernel⟩
theorem ok_model_course {P : Program} {w : World} {K : PySem.W.Frag} {mg : Str → Option Value} {base : Heap} {f : Addr} {fd : FuncData} (B : BX mg) (C_GradeBook : CDok K (cd_GradeBook K)) (N_GradeBook : NI P w K mg base (ct K) 1 "GradeBook" (cd_GradeBook K).C s_GradeBook___init__) (M_GradeBook_pass_grade : MI P w K mg base (ct K) 3 (cd_GradeBook K).C "pass_grade" s_GradeBook_pass_grade) (M_GradeBook_tally_now : MI P w K mg base (ct K) 1 (cd_GradeBook K).C "tally_now" s_GradeBook_tally_now) (F_begun_tally : FI P w K mg base (ct K) 3 "begun_tally" s_begun_tally) (F_figure_steps : FI P w K mg base (ct K) 2 "figure_steps" s_figure_steps) (F_grade_of : FI P w K mg base (ct K) 2 "grade_of" s_grade_of) (F_tally_step : FI P w K mg base (ct K) 1 "tally_step" s_tally_step) (F : FunD K "model_course" "model_course" (defArgs (top 36)) (defBody (top 36)) (defScope (top 36)) [] [] f fd) : FA P w K mg base (ct K) 5 f s_model_course := by
  refine FA.mk' (N := N_model_course) (ps := ["remnants", "width", "model"]) (k := 4) F sc_model_course (F.bindsN fun _ _ _ _ _ _ us hl => match us, hl with | [_, _, _], _ => rfl) rfl rfl fun cdv A outer s H E hr => ?_
  have nd := sc_model_course.nd
  have hu := hr.units
  exact (psd_cons (psd_set (i := 3) (pm_strict (W := WF) (pd_new (c := 0) (cd := cd_GradeBook K) rfl N_GradeBook (hr.mono (by omega)) (by rfl) (pds_cons (pd_var 2) (pds_cons (pd_call F_begun_tally (hr.mono (by omega)) (by rfl) (pds_cons (pd_var 0) (pds_cons (pd_var 1) (pds_cons (pd_var 2) pds_nil)))) pds_nil)) rfl)) nd rfl (by first | exact Or.inl rfl | exact Or.inr rfl) (by rfl) (by first | exact Or.inl rfl | exact Or.inr rfl))
    (psd_cons (psd_own (i := 4) (pmf_strict (pdf_lst pds_nil)) nd rfl (by first | exact Or.inl rfl | exact Or.inr rfl) (by rfl) (by first | exact Or.inl rfl | exact Or.inr rfl))
    (psd_cons (psd_for (pmi_strict (W := WF) (pdi_seq (pd_var 0))) (pgd_name (i := 5) nd rfl (by first | exact Or.inl rfl | exact Or.inr rfl) (by first | exact Or.inl rfl | exact Or.inr rfl)) (psd_cons (psd_set (i := 6) (pm_strict (W := WF) (pd_call F_grade_of (hr.mono (by omega)) (by rfl) (pds_cons (pd_var 5) pds_nil))) nd rfl (by first | exact Or.inl rfl | exact Or.inr rfl) (by rfl) (by first | exact Or.inl rfl | exact Or.inr rfl))
    (psd_cons (psd_add (i := 4) add_one PySem.F.slot_list_append PySem.F.type_list_append mt_append (pm_strict (W := WF) (pd_call F_tally_step (hr.mono (by omega)) (by rfl) (pds_cons (pd_meth0 (c := 0) (cd := cd_GradeBook K) (pd_var 3) rfl C_GradeBook (show _ ∉ (["model", "tallies", "before"] : List Str) by decide) M_GradeBook_tally_now (hr.mono (by omega))) (pds_cons (pd_var 6) pds_nil)))) rfl (by first | exact Or.inl rfl | exact Or.inr (Or.inl rfl) | exact Or.inr (Or.inr rfl)))
    (psd_cons (psd_add (i := 4) add_ext PySem.F.slot_list_extend PySem.F.type_list_extend mt_ext2 (pm_strict (W := WF) (pd_call F_figure_steps (hr.mono (by omega)) (by rfl) (pds_cons (pd_var 5) pds_nil))) rfl (by first | exact Or.inl rfl | exact Or.inr (Or.inl rfl) | exact Or.inr (Or.inr rfl)))
    (psd_one (psd_drop (pm_strict (W := WF) (pd_meth (c := 0) (cd := cd_GradeBook K) (pd_var 3) rfl C_GradeBook (show _ ∉ (["model", "tallies", "before"] : List Str) by decide) M_GradeBook_pass_grade (hr.mono (by omega)) (pds_cons (pd_var 6) pds_nil))) (by rfl)))))) PassesOwn.never rfl)
    (psds_frz (i := 4) (psd_one (psd_ret (W := WF) (pd_callT cs_tuple (by rfl) B.tuple_ (by decide +kernel) (pds_cons (pd_var 4) pds_nil))))))))
abbrev N__law_cell : List Str := ["script", "k"]
theorem sc__law_cell : FnScope N__law_cell ["script", "k"] (defScope (top 38)) := ⟨rfl, rfl, rfl, by decide +kernel, rfl, by decide +kernel, by decide +kernel⟩
theorem ok__law_cell {P : Program} {w : World} {K : PySem.W.Frag} {mg : Str → Option Value} {base : Heap} {f : Addr} {fd : FuncData} (B : BX mg) (F : FunD K "_law_cell" "_law_cell" (defArgs (top 38)) (defBody (top 38)) (defScope (top 38)) [] [] f fd) : FA P w K mg base (ct K) 1 f s__law_cell := by
  refine FA.mk' (N := N__law_cell) (ps := ["script", "k"]) (k := 0) F sc__law_cell (F.bindsN fun _ _ _ _ _ _ us hl => match us, hl with | [_, _], _ => rfl) rfl rfl fun cdv A outer s H E hr => ?_
  have nd := sc__law_cell.nd
  have hu := hr.units
  exact (psd_cons (psd_if (pmb_strict (W := WF) (pdb_cmp os_lt (pd_var 1) (pd_len (by rfl) B.len_ (pd_var 0)) (by rfl))) (psd_one (psd_ret (W := WF) (pd_ix (pd_var 0) (pd_var 1) (by intro _ _; rfl)))) psd_nil)
    (psd_one (psd_ret (W := WF) (pd_bin os_add (pd_bin os_mul pd_int (pd_var 1)) pd_int))))
abbrev N__law_draws : List Str := ["cell", "count", "rest", "digits", "seed", "draws", "k", "mixed"]
theorem sc__law_draws : FnScope N__law_draws ["cell", "count"] (defScope (top 39)) := ⟨rfl, rfl, rfl, by decide +kernel, rfl, by decide +kernel, by decide +kernel⟩
theorem ok__law_draws {P : Program} {w : World} {K : PySem.W.Frag} {mg : Str → Option Value} {base : Heap} {f : Addr} {fd : FuncData} (B : BX mg) (F : FunD K "_law_draws" "_law_draws" (defArgs (top 39)) (defBody (top 39)) (defScope (top 39)) [] [] f fd) : FA P w K mg base (ct K) 1 f s__law_draws := by
  refine FA.mk' (N := N__law_draws) (ps := ["cell", "count"]) (k := 0) F sc__law_draws (F.bindsN fun _ _ _ _ _ _ us hl => match us, hl with | [_, _], _ => rfl) rfl rfl fun cdv A outer s H E hr => ?_
  have nd := sc__law_draws.nd
  have hu := hr.units
  exact (psd_cons (psd_set (i := 2) (pm_strict (W := WF) (pd_callB cs_abs (by rfl) B.abs_ (by decide +kernel) (pds_cons (pd_callT cs_int1 (by rfl) B.int_ (by decide +kernel) (pds_cons (pd_var 0) pds_nil)) pds_nil))) nd rfl (by first | exact Or.inl rfl | exact Or.inr rfl) (by rfl) (by first | exact Or.inl rfl | exact Or.inr rfl))
    (psd_cons (psd_set (i := 3) (pm_strict (W := WF) (pd_cmp os_ge (pd_var 2) (pd_bin os_pow pd_int pd_int) (by rfl))) nd rfl (by first | exact Or.inl rfl | exact Or.inr rfl) (by rfl) (by first | exact Or.inl rfl | exact Or.inr rfl))
    (psd_cons (psd_set (i := 4) (pm_strict (W := WF) (pd_var 2)) nd rfl (by first | exact Or.inl rfl | exact Or.inr rfl) (by rfl) (by first | exact Or.inl rfl | exact Or.inr rfl))
    (psd_cons (psd_own (i := 5) (pmf_strict (pdf_lst pds_nil)) nd rfl (by first | exact Or.inl rfl | exact Or.inr rfl) (by rfl) (by first | exact Or.inl rfl | exact Or.inr rfl))
    (psd_cons (psd_for (pmi_strict (W := WF) (pdi_range1 (by rfl) B.range_ (pds_cons (pd_var 1) pds_nil))) (pgd_name (i := 6) nd rfl (by first | exact Or.inl rfl | exact Or.inr rfl) (by first | exact Or.inl rfl | exact Or.inr rfl)) (psd_one (psd_if (pmb_strict (W := WF) (pdb_bool (pdw_and (pdb_tru (pd_var 3)) (pdw_and1 (pdb_cmp os_gt (pd_var 2) pd_int (by rfl)))))) (psd_cons (psd_add (i := 5) add_one PySem.F.slot_list_append PySem.F.type_list_append mt_append (pm_strict (W := WF) (pd_bin os_mod (pd_callT cs_int1 (by rfl) B.int_ (by decide +kernel) (pds_cons (pd_var 2) pds_nil)) pd_int)) rfl (by first | exact Or.inl rfl | exact Or.inr (Or.inl rfl) | exact Or.inr (Or.inr rfl)))
    (psd_one (psd_set (i := 2) (pm_strict (W := WF) (pd_bin os_div (pd_var 2) pd_int)) nd rfl (by first | exact Or.inl rfl | exact Or.inr rfl) (by rfl) (by first | exact Or.inl rfl | exact Or.inr rfl)))) (psd_cons (psd_set (i := 7) (pm_strict (W := WF) (pd_bin os_mod (pd_callT cs_int1 (by rfl) B.int_ (by decide +kernel) (pds_cons (pd_bin os_add (pd_bin os_add (pd_bin os_mul (pd_var 4) pd_int) (pd_bin os_mul (pd_bin os_add (pd_var 6) pd_int) pd_int)) pd_int) pds_nil)) pd_int)) nd rfl (by first | exact Or.inl rfl | exact Or.inr rfl) (by rfl) (by first | exact Or.inl rfl | exact Or.inr rfl))
    (psd_cons (psd_set (i := 7) (pm_strict (W := WF) (pd_bin os_mod (pd_callT cs_int1 (by rfl) B.int_ (by decide +kernel) (pds_cons (pd_bin os_add (pd_bin os_mul (pd_var 7) (pd_var 7)) (pd_bin os_mul pd_int (pd_bin os_add (pd_var 6) pd_int))) pds_nil)) pd_int)) nd rfl (by first | exact Or.inl rfl | exact Or.inr rfl) (by rfl) (by first | exact Or.inl rfl | exact Or.inr rfl))
    (psd_one (psd_add (i := 5) add_one PySem.F.slot_list_append PySem.F.type_list_append mt_append (pm_strict (W := WF) (pd_bin os_mod (pd_callT cs_int1 (by rfl) B.int_ (by decide +kernel) (pds_cons (pd_bin os_div (pd_var 7) pd_int) pds_nil)) pd_int)) rfl (by first | exact Or.inl rfl | exact Or.inr (Or.inl rfl) | exact Or.inr (Or.inr rfl)))))))) PassesOwn.never rfl)
    (psds_frz (i := 5) (psd_one (psd_ret (W := WF) (pd_var 5)))))))))
abbrev N__law_is_integer : List Str := ["value"]
theorem sc__law_is_integer : FnScope N__law_is_integer ["value"] (defScope (top 40)) := ⟨rfl, rfl, rfl, by decide +kernel, rfl, by decide +kernel, by decide +kernel⟩
theorem ok__law_is_integer {P : Program} {w : World} {K : PySem.W.Frag} {mg : Str → Option Value} {base : Heap} {f : Addr} {fd : FuncData} (B : BX mg) (F : FunD K "_law_is_integer" "_law_is_integer" (defArgs (top 40)) (defBody (top 40)) (defScope (top 40)) [] [] f fd) : FA P w K mg base (ct K) 1 f s__law_is_integer := by
  refine FA.mk' (N := N__law_is_integer) (ps := ["value"]) (k := 0) F sc__law_is_integer (F.bindsN fun _ _ _ _ _ _ us hl => match us, hl with | [_], _ => rfl) rfl rfl fun cdv A outer s H E hr => ?_
  have nd := sc__law_is_integer.nd
  have hu := hr.units
  exact (psd_one (psd_ret (W := WF) (pd_and (pd_isi (T := .int) (by rfl) B.isinstance_ (pd_var 0) (by rfl) B.int_ (by decide +kernel) (by decide) (by decide)) (pd_one (pd_not (pd_isi (T := .bool) (by rfl) B.isinstance_ (pd_var 0) (by rfl) B.bool_ (by decide +kernel) (by decide) (by decide)))))))
abbrev N__law_is : List Str := ["value", "due", "at"]
theorem sc__law_is : FnScope N__law_is ["value", "due"] (defScope (top 41)) := ⟨rfl, rfl, rfl, by decide +kernel, rfl, by decide +kernel, by decide +kernel⟩
theorem ok__law_is {P : Program} {w : World} {K : PySem.W.Frag} {mg : Str → Option Value} {base : Heap} {f : Addr} {fd : FuncData} (B : BX mg) (F__law_is_integer : FI P w K mg base (ct K) 1 "_law_is_integer" s__law_is_integer) (F : FunD K "_law_is" "_law_is" (defArgs (top 41)) (defBody (top 41)) (defScope (top 41)) [] [] f fd) (gS : mg "_law_is" = some (.ref f)) (n : Nat) : FA P w K mg base (ct K) (n + 2) f (s__law_is n) := by
  induction n with
  | zero => exact FA.never (k := 1) F sc__law_is (F.bindsN fun _ _ _ _ _ _ us hl => match us, hl with | [_, _], _ => rfl) |>.mono (by omega)
  | succ n ih =>
    have F__law_is : FI P w K mg base (ct K) (n + 2) "_law_is" (s__law_is n) := ⟨f, gS, F.kp, ih⟩
    refine FA.mk' (N := N__law_is) (ps := ["value", "due"]) (k := n + 2) F sc__law_is (F.bindsN fun _ _ _ _ _ _ us hl => match us, hl with | [_, _], _ => rfl) rfl rfl fun cdv A outer s H E hr => ?_
    have nd := sc__law_is.nd
    have hu := hr.units
    exact (psd_cons (psd_if (pmb_strict (W := WF) (pdb_cmp os_is (pd_var 1) pd_non (by rfl))) (psd_one (psd_ret (W := WF) (pd_cmp os_is (pd_var 0) pd_non (by rfl)))) psd_nil)
    (psd_cons (psd_if (pmb_strict (W := WF) (pdb_tru (pd_isi (T := .bool) (by rfl) B.isinstance_ (pd_var 1) (by rfl) B.bool_ (by decide +kernel) (by decide) (by decide)))) (psd_one (psd_ret (W := WF) (pd_and (pd_isi (T := .bool) (by rfl) B.isinstance_ (pd_var 0) (by rfl) B.bool_ (by decide +kernel) (by decide) (by decide)) (pd_one (pd_cmp (os_eq hu) (pd_var 0) (pd_var 1) (by rfl)))))) psd_nil)
    (psd_cons (psd_if (pmb_strict (W := WF) (pdb_tru (pd_isi (T := .int) (by rfl) B.isinstance_ (pd_var 1) (by rfl) B.int_ (by decide +kernel) (by decide) (by decide)))) (psd_one (psd_ret (W := WF) (pd_and (pd_call F__law_is_integer (hr.mono (by omega)) (by rfl) (pds_cons (pd_var 0) pds_nil)) (pd_one (pd_cmp (os_eq hu) (pd_var 0) (pd_var 1) (by rfl)))))) psd_nil)
    (psd_cons (psd_if (pmb_strict (W := WF) (pdb_tru (pd_isi (T := .str) (by rfl) B.isinstance_ (pd_var 1) (by rfl) B.str_ (by decide +kernel) (by decide) (by decide)))) (psd_one (psd_ret (W := WF) (pd_and (pd_isi (T := .str) (by rfl) B.isinstance_ (pd_var 0) (by rfl) B.str_ (by decide +kernel) (by decide) (by decide)) (pd_one (pd_cmp (os_eq hu) (pd_var 0) (pd_var 1) (by rfl)))))) psd_nil)
    (psd_cons (psd_if (pmb_strict (W := WF) (pdb_bool (pdw_or (pdb_not (pdb_tru (pd_isi (T := .tuple) (by rfl) B.isinstance_ (pd_var 0) (by rfl) B.tuple_ (by decide +kernel) (by decide) (by decide)))) (pdw_or1 (pdb_cmp (os_ne hu) (pd_len (by rfl) B.len_ (pd_var 0)) (pd_len (by rfl) B.len_ (pd_var 1)) (by rfl)))))) (psd_one (psd_ret (W := WF) pd_bl)) psd_nil)
    (psd_one (psd_ret (W := WF) (pd_callB (cs_all rfl) (by rfl) B.all_ (by decide +kernel) (pds_cons (pd_lc (X := XB P w K mg base N__law_is "_law_is" (defScope (top 41)) f cdv A outer s H E) (own := [("at", 2)]) (W' := WF) (pdi_range1 (by rfl) B.range_ (pds_cons (pd_len (by rfl) B.len_ (pd_var 1)) pds_nil)) rfl nd (blkOk_by (N := N__law_is) (sc := defScope (top 41)) (by decide +kernel)) (fun _ _ _ _ _ => (pge_name (i := 2) nd rfl (by first | exact Or.inl rfl | exact Or.inr rfl) (by first | exact Or.inl rfl | exact Or.inr rfl))) (fun _ _ _ _ _ => ptd_nil) (fun _ _ _ _ _ => (pd_call F__law_is (hr.mono (Nat.le_refl _)) (by rfl) (pds_cons (pd_ix (pd_var 0) (pd_var 2) (by intro _ _; rfl)) (pds_cons (pd_ix (pd_var 1) (pd_var 2) (by intro _ _; rfl)) pds_nil)))) (vs := [2]) rfl (by decide)) pds_nil)))))))))
abbrev N__law_counted : List Str := ["symbols", "size", "numbers", "symbol"]
theorem sc__law_counted : FnScope N__law_counted ["symbols", "size"] (defScope (top 42)) := ⟨rfl, rfl, rfl, by decide +kernel, rfl, by decide +kernel, by decide +kernel⟩
theorem ok__law_counted {P : Program} {w : World} {K : PySem.W.Frag} {mg : Str → Option Value} {base : Heap} {f : Addr} {fd : FuncData} (B : BX mg) (F : FunD K "_law_counted" "_law_counted" (defArgs (top 42)) (defBody (top 42)) (defScope (top 42)) [] [] f fd) : FA P w K mg base (ct K) 1 f s__law_counted := by
  refine FA.mk' (N := N__law_counted) (ps := ["symbols", "size"]) (k := 0) F sc__law_counted (F.bindsN fun _ _ _ _ _ _ us hl => match us, hl with | [_, _], _ => rfl) rfl rfl fun cdv A outer s H E hr => ?_
  have nd := sc__law_counted.nd
  have hu := hr.units
  exact (psd_cons (psd_own (i := 2) (pmf_strict (pdf_mul (pd_lst (pds_cons pd_int pds_nil)) (pd_var 1))) nd rfl (by first | exact Or.inl rfl | exact Or.inr rfl) (by rfl) (by first | exact Or.inl rfl | exact Or.inr rfl))
    (psd_cons (psd_for (pmi_strict (W := WF) (pdi_seq (pd_var 0))) (pgd_name (i := 3) nd rfl (by first | exact Or.inl rfl | exact Or.inr rfl) (by first | exact Or.inl rfl | exact Or.inr rfl)) (psd_one (psd_put (i := 2) (pm_relax (W := WF) (pd_bin os_add (pd_ix (pd_var 2) (pd_var 3) (by intro _ _; rfl)) pd_int)) (pm_strict (W := WF) (pd_var 3)) rfl (by first | exact Or.inl rfl | exact Or.inr (Or.inl rfl) | exact Or.inr (Or.inr rfl)) (by rfl) (by rfl))) PassesOwn.never rfl)
    (psds_frz (i := 2) (psd_one (psd_ret (W := WF) (pd_var 2))))))
abbrev N__law_size : List Str := ["v", "size"]
theorem sc__law_size : FnScope N__law_size ["v"] (defScope (top 43)) := ⟨rfl, rfl, rfl, by decide +kernel, rfl, by decide +kernel, by decide +kernel⟩
theorem ok__law_size {P : Program} {w : World} {K : PySem.W.Frag} {mg : Str → Option Value} {base : Heap} {f : Addr} {fd : FuncData} (B : BX mg) (F : FunD K "_law_size" "_law_size" (defArgs (top 43)) (defBody (top 43)) (defScope (top 43)) [] [] f fd) : FA P w K mg base (ct K) 1 f s__law_size := by
  refine FA.mk' (N := N__law_size) (ps := ["v"]) (k := 0) F sc__law_size (F.bindsN fun _ _ _ _ _ _ us hl => match us, hl with | [_], _ => rfl) rfl rfl fun cdv A outer s H E hr => ?_
  have nd := sc__law_size.nd
  have hu := hr.units
  exact (psd_cons (psd_set (i := 1) (pm_strict (W := WF) pd_int) nd rfl (by first | exact Or.inl rfl | exact Or.inr rfl) (by rfl) (by first | exact Or.inl rfl | exact Or.inr rfl))
    (psd_cons (psd_while (pmb_strict (W := WF) (pdb_cmp os_gt (pd_bin os_shr (pd_var 0) (pd_var 1)) pd_int (by rfl))) (psd_one (psd_set (i := 1) (pm_strict (W := WF) (pd_bin os_add (pd_var 1) pd_int)) nd rfl (by first | exact Or.inl rfl | exact Or.inr rfl) (by rfl) (by first | exact Or.inl rfl | exact Or.inr rfl))) PassesOwn.never)
    (psd_one (psd_ret (W := WF) (pd_var 1)))))
abbrev N__law_folded : List Str := ["s"]
theorem sc__law_folded : FnScope N__law_folded ["s"] (defScope (top 44)) := ⟨rfl, rfl, rfl, by decide +kernel, rfl, by decide +kernel, by decide +kernel⟩
theorem ok__law_folded {P : Program} {w : World} {K : PySem.W.Frag} {mg : Str → Option Value} {base : Heap} {f : Addr} {fd : FuncData} (B : BX mg) (F : FunD K "_law_folded" "_law_folded" (defArgs (top 44)) (defBody (top 44)) (defScope (top 44)) [] [] f fd) : FA P w K mg base (ct K) 1 f s__law_folded := by
  refine FA.mk' (N := N__law_folded) (ps := ["s"]) (k := 0) F sc__law_folded (F.bindsN fun _ _ _ _ _ _ us hl => match us, hl with | [_], _ => rfl) rfl rfl fun cdv A outer s H E hr => ?_
  have nd := sc__law_folded.nd
  have hu := hr.units
  exact (psd_one (psd_ret (W := WF) (pd_ite (pdb_cmp os_ge (pd_var 0) pd_int (by rfl)) (pd_bin os_mul pd_int (pd_var 0)) (pd_bin os_sub (pd_bin os_sub pd_int (pd_bin os_mul pd_int (pd_var 0))) pd_int))))
abbrev N__law_made_remnants : List Str := ["draws", "n", "width", "left", "at", "draw", "half", "small", "number"]
theorem sc__law_made_remnants : FnScope N__law_made_remnants ["draws", "n", "width"] (defScope (top 45)) := ⟨rfl, rfl, rfl, by decide +kernel, rfl, by decide +kernel, by decide +kernel⟩
theorem ok__law_made_remnants {P : Program} {w : World} {K : PySem.W.Frag} {mg : Str → Option Value} {base : Heap} {f : Addr} {fd : FuncData} (B : BX mg) (F : FunD K "_law_made_remnants" "_law_made_remnants" (defArgs (top 45)) (defBody (top 45)) (defScope (top 45)) [] [] f fd) : FA P w K mg base (ct K) 1 f s__law_made_remnants := by
  refine FA.mk' (N := N__law_made_remnants) (ps := ["draws", "n", "width"]) (k := 0) F sc__law_made_remnants (F.bindsN fun _ _ _ _ _ _ us hl => match us, hl with | [_, _, _], _ => rfl) rfl rfl fun cdv A outer s H E hr => ?_
  have nd := sc__law_made_remnants.nd
  have hu := hr.units
  exact (psd_cons (psd_own (i := 3) (pmf_strict (pdf_lst pds_nil)) nd rfl (by first | exact Or.inl rfl | exact Or.inr rfl) (by rfl) (by first | exact Or.inl rfl | exact Or.inr rfl))
    (psd_cons (psd_for (pmi_strict (W := WF) (pdi_range1 (by rfl) B.range_ (pds_cons (pd_var 1) pds_nil))) (pgd_name (i := 4) nd rfl (by first | exact Or.inl rfl | exact Or.inr rfl) (by first | exact Or.inl rfl | exact Or.inr rfl)) (psd_cons (psd_set (i := 5) (pm_strict (W := WF) (pd_callT cs_int1 (by rfl) B.int_ (by decide +kernel) (pds_cons (pd_ix (pd_var 0) (pd_var 4) (by intro _ _; rfl)) pds_nil))) nd rfl (by first | exact Or.inl rfl | exact Or.inr rfl) (by rfl) (by first | exact Or.inl rfl | exact Or.inr rfl))
    (psd_cons (psd_set (i := 6) (pm_strict (W := WF) (pd_bin os_shl pd_int (pd_var 2))) nd rfl (by first | exact Or.inl rfl | exact Or.inr rfl) (by rfl) (by first | exact Or.inl rfl | exact Or.inr rfl))
    (psd_cons (psd_set (i := 7) (pm_strict (W := WF) (pd_bin os_sub (pd_bin os_mod (pd_bin os_div (pd_var 5) pd_int) pd_int) pd_int)) nd rfl (by first | exact Or.inl rfl | exact Or.inr rfl) (by rfl) (by first | exact Or.inl rfl | exact Or.inr rfl))
    (psd_cons (psd_set (i := 8) (pm_strict (W := WF) (pd_ix (pd_tup (pds_cons (pd_var 7) (pds_cons (pd_var 7) (pds_cons (pd_bin os_sub (pd_bin os_div (pd_var 5) pd_int) pd_int) (pds_cons (pd_bin os_sub (pd_var 6) pd_int) (pds_cons (pd_bin os_sub pd_int (pd_var 6)) (pds_cons (pd_bin os_mul (pd_bin os_mul (pd_var 5) (pd_var 5)) pd_int) pds_nil))))))) (pd_bin os_mod (pd_var 5) pd_int) (by intro _ _; rfl))) nd rfl (by first | exact Or.inl rfl | exact Or.inr rfl) (by rfl) (by first | exact Or.inl rfl | exact Or.inr rfl))
    (psd_one (psd_add (i := 3) add_one PySem.F.slot_list_append PySem.F.type_list_append mt_append (pm_strict (W := WF) (pd_bin os_sub (pd_bin os_mod (pd_bin os_add (pd_var 8) (pd_var 6)) (pd_bin os_mul pd_int (pd_var 6))) (pd_var 6))) rfl (by first | exact Or.inl rfl | exact Or.inr (Or.inl rfl) | exact Or.inr (Or.inr rfl)))))))) PassesOwn.never rfl)
    (psds_frz (i := 3) (psd_one (psd_ret (W := WF) (pd_callT cs_tuple (by rfl) B.tuple_ (by decide +kernel) (pds_cons (pd_var 3) pds_nil)))))))
abbrev N__law_faculty : List Str := ["n", "whole", "one"]
theorem sc__law_faculty : FnScope N__law_faculty ["n"] (defScope (top 46)) := ⟨rfl, rfl, rfl, by decide +kernel, rfl, by decide +kernel, by decide +kernel⟩
theorem ok__law_faculty {P : Program} {w : World} {K : PySem.W.Frag} {mg : Str → Option Value} {base : Heap} {f : Addr} {fd : FuncData} (B : BX mg) (F : FunD K "_law_faculty" "_law_faculty" (defArgs (top 46)) (defBody (top 46)) (defScope (top 46)) [] [] f fd) : FA P w K mg base (ct K) 1 f s__law_faculty := by
  refine FA.mk' (N := N__law_faculty) (ps := ["n"]) (k := 0) F sc__law_faculty (F.bindsN fun _ _ _ _ _ _ us hl => match us, hl with | [_], _ => rfl) rfl rfl fun cdv A outer s H E hr => ?_
  have nd := sc__law_faculty.nd
  have hu := hr.units
  exact (psd_cons (psd_set (i := 1) (pm_strict (W := WF) pd_int) nd rfl (by first | exact Or.inl rfl | exact Or.inr rfl) (by rfl) (by first | exact Or.inl rfl | exact Or.inr rfl))
    (psd_cons (psd_for (pmi_strict (W := WF) (pdi_range2 (by rfl) B.range_ (pds_cons pd_int (pds_cons (pd_bin os_add (pd_var 0) pd_int) pds_nil)))) (pgd_name (i := 2) nd rfl (by first | exact Or.inl rfl | exact Or.inr rfl) (by first | exact Or.inl rfl | exact Or.inr rfl)) (psd_one (psd_set (i := 1) (pm_strict (W := WF) (pd_bin os_mul (pd_var 1) (pd_var 2))) nd rfl (by first | exact Or.inl rfl | exact Or.inr rfl) (by rfl) (by first | exact Or.inl rfl | exact Or.inr rfl))) PassesOwn.never rfl)
    (psd_one (psd_ret (W := WF) (pd_var 1)))))
abbrev N__law_times : List Str := ["one", "many", "whole", "turn"]
theorem sc__law_times : FnScope N__law_times ["one", "many"] (defScope (top 47)) := ⟨rfl, rfl, rfl, by decide +kernel, rfl, by decide +kernel, by decide +kernel⟩
theorem ok__law_times {P : Program} {w : World} {K : PySem.W.Frag} {mg : Str → Option Value} {base : Heap} {f : Addr} {fd : FuncData} (B : BX mg) (F : FunD K "_law_times" "_law_times" (defArgs (top 47)) (defBody (top 47)) (defScope (top 47)) [] [] f fd) : FA P w K mg base (ct K) 1 f s__law_times := by
  refine FA.mk' (N := N__law_times) (ps := ["one", "many"]) (k := 0) F sc__law_times (F.bindsN fun _ _ _ _ _ _ us hl => match us, hl with | [_, _], _ => rfl) rfl rfl fun cdv A outer s H E hr => ?_
  have nd := sc__law_times.nd
  have hu := hr.units
  exact (psd_cons (psd_set (i := 2) (pm_strict (W := WF) pd_int) nd rfl (by first | exact Or.inl rfl | exact Or.inr rfl) (by rfl) (by first | exact Or.inl rfl | exact Or.inr rfl))
    (psd_cons (psd_for (pmi_strict (W := WF) (pdi_range1 (by rfl) B.range_ (pds_cons (pd_var 1) pds_nil))) (pgd_name (i := 3) nd rfl (by first | exact Or.inl rfl | exact Or.inr rfl) (by first | exact Or.inl rfl | exact Or.inr rfl)) (psd_one (psd_set (i := 2) (pm_strict (W := WF) (pd_bin os_mul (pd_var 2) (pd_var 0))) nd rfl (by first | exact Or.inl rfl | exact Or.inr rfl) (by rfl) (by first | exact Or.inl rfl | exact Or.inr rfl))) PassesOwn.never rfl)
    (psd_one (psd_ret (W := WF) (pd_var 2)))))
abbrev N__law_still_weight : List Str := ["numbers", "weight", "n", "one"]
theorem sc__law_still_weight : FnScope N__law_still_weight ["numbers"] (defScope (top 48)) := ⟨rfl, rfl, rfl, by decide +kernel, rfl, by decide +kernel, by decide +kernel⟩
theorem ok__law_still_weight {P : Program} {w : World} {K : PySem.W.Frag} {mg : Str → Option Value} {base : Heap} {f : Addr} {fd : FuncData} (B : BX mg) (F__law_times : FI P w K mg base (ct K) 1 "_law_times" s__law_times) (F : FunD K "_law_still_weight" "_law_still_weight" (defArgs (top 48)) (defBody (top 48)) (defScope (top 48)) [] [] f fd) : FA P w K mg base (ct K) 2 f s__law_still_weight := by
  refine FA.mk' (N := N__law_still_weight) (ps := ["numbers"]) (k := 1) F sc__law_still_weight (F.bindsN fun _ _ _ _ _ _ us hl => match us, hl with | [_], _ => rfl) rfl rfl fun cdv A outer s H E hr => ?_
  have nd := sc__law_still_weight.nd
  have hu := hr.units
  exact (psd_cons (psd_par (i := 1) (j := 2) (pms_strict (W := WF) (pds_cons pd_int (pds_cons (pd_callB (cs_sum rfl) (by rfl) B.sum_ (by decide +kernel) (pds_cons (pd_var 0) pds_nil)) pds_nil))) rfl nd rfl rfl (by decide) (by rfl) (by rfl) (by rfl) (by rfl))
    (psd_cons (psd_for (pmi_strict (W := WF) (pdi_seq (pd_var 0))) (pgd_name (i := 3) nd rfl (by first | exact Or.inl rfl | exact Or.inr rfl) (by first | exact Or.inl rfl | exact Or.inr rfl)) (psd_one (psd_set (i := 1) (pm_strict (W := WF) (pd_bin os_mul (pd_var 1) (pd_call F__law_times (hr.mono (by omega)) (by rfl) (pds_cons (pd_var 3) (pds_cons (pd_var 3) pds_nil))))) nd rfl (by first | exact Or.inl rfl | exact Or.inr rfl) (by rfl) (by first | exact Or.inl rfl | exact Or.inr rfl))) PassesOwn.never rfl)
    (psd_one (psd_ret (W := WF) (pd_tup (pds_cons (pd_var 1) (pds_cons (pd_call F__law_times (hr.mono (by omega)) (by rfl) (pds_cons (pd_var 2) (pds_cons (pd_var 2) pds_nil))) pds_nil)))))))
abbrev N__law_falling_weight : List Str := ["numbers", "weight", "one"]
theorem sc__law_falling_weight : FnScope N__law_falling_weight ["numbers"] (defScope (top 49)) := ⟨rfl, rfl, rfl, by decide +kernel, rfl, by decide +kernel, by decide +kernel⟩
theorem ok__law_falling_weight {P : Program} {w : World} {K : PySem.W.Frag} {mg : Str → Option Value} {base : Heap} {f : Addr} {fd : FuncData} (B : BX mg) (F__law_faculty : FI P w K mg base (ct K) 1 "_law_faculty" s__law_faculty) (F : FunD K "_law_falling_weight" "_law_falling_weight" (defArgs (top 49)) (defBody (top 49)) (defScope (top 49)) [] [] f fd) : FA P w K mg base (ct K) 2 f s__law_falling_weight := by
  refine FA.mk' (N := N__law_falling_weight) (ps := ["numbers"]) (k := 1) F sc__law_falling_weight (F.bindsN fun _ _ _ _ _ _ us hl => match us, hl with | [_], _ => rfl) rfl rfl fun cdv A outer s H E hr => ?_
  have nd := sc__law_falling_weight.nd
  have hu := hr.units
  exact (psd_cons (psd_set (i := 1) (pm_strict (W := WF) pd_int) nd rfl (by first | exact Or.inl rfl | exact Or.inr rfl) (by rfl) (by first | exact Or.inl rfl | exact Or.inr rfl))
    (psd_cons (psd_for (pmi_strict (W := WF) (pdi_seq (pd_var 0))) (pgd_name (i := 2) nd rfl (by first | exact Or.inl rfl | exact Or.inr rfl) (by first | exact Or.inl rfl | exact Or.inr rfl)) (psd_one (psd_set (i := 1) (pm_strict (W := WF) (pd_bin os_mul (pd_var 1) (pd_call F__law_faculty (hr.mono (by omega)) (by rfl) (pds_cons (pd_var 2) pds_nil)))) nd rfl (by first | exact Or.inl rfl | exact Or.inr rfl) (by rfl) (by first | exact Or.inl rfl | exact Or.inr rfl))) PassesOwn.never rfl)
    (psd_one (psd_ret (W := WF) (pd_tup (pds_cons (pd_var 1) (pds_cons (pd_call F__law_faculty (hr.mono (by omega)) (by rfl) (pds_cons (pd_callB (cs_sum rfl) (by rfl) B.sum_ (by decide +kernel) (pds_cons (pd_var 0) pds_nil)) pds_nil)) pds_nil)))))))
abbrev N__law_moving_weight : List Str := ["numbers", "gain", "weight", "totals", "one", "turn"]
theorem sc__law_moving_weight : FnScope N__law_moving_weight ["numbers", "gain"] (defScope (top 50)) := ⟨rfl, rfl, rfl, by decide +kernel, rfl, by decide +kernel, by decide +kernel⟩
theorem ok__law_moving_weight {P : Program} {w : World} {K : PySem.W.Frag} {mg : Str → Option Value} {base : Heap} {f : Addr} {fd : FuncData} (B : BX mg) (F : FunD K "_law_moving_weight" "_law_moving_weight" (defArgs (top 50)) (defBody (top 50)) (defScope (top 50)) [] [] f fd) : FA P w K mg base (ct K) 1 f s__law_moving_weight := by
  refine FA.mk' (N := N__law_moving_weight) (ps := ["numbers", "gain"]) (k := 0) F sc__law_moving_weight (F.bindsN fun _ _ _ _ _ _ us hl => match us, hl with | [_, _], _ => rfl) rfl rfl fun cdv A outer s H E hr => ?_
  have nd := sc__law_moving_weight.nd
  have hu := hr.units
  exact (psd_cons (psd_asg (pm_strict (W := WF) (pd_tup (pds_cons pd_int (pds_cons pd_int pds_nil)))) (pgd_tup (n := 2) rfl (pgds_cons (pgd_name (i := 2) nd rfl (by first | exact Or.inl rfl | exact Or.inr rfl) (by first | exact Or.inl rfl | exact Or.inr rfl)) (pgds_cons (pgd_name (i := 3) nd rfl (by first | exact Or.inl rfl | exact Or.inr rfl) (by first | exact Or.inl rfl | exact Or.inr rfl)) pgds_nil)) rfl rfl rfl) (by rfl) (by rfl))
    (psd_cons (psd_for (pmi_strict (W := WF) (pdi_seq (pd_var 0))) (pgd_name (i := 4) nd rfl (by first | exact Or.inl rfl | exact Or.inr rfl) (by first | exact Or.inl rfl | exact Or.inr rfl)) (psd_one (psd_for (pmi_strict (W := WF) (pdi_range1 (by rfl) B.range_ (pds_cons (pd_var 4) pds_nil))) (pgd_name (i := 5) nd rfl (by first | exact Or.inl rfl | exact Or.inr rfl) (by first | exact Or.inl rfl | exact Or.inr rfl)) (psd_one (psd_set (i := 2) (pm_strict (W := WF) (pd_bin os_mul (pd_var 2) (pd_bin os_add pd_int (pd_bin os_mul (pd_var 1) (pd_var 5))))) nd rfl (by first | exact Or.inl rfl | exact Or.inr rfl) (by rfl) (by first | exact Or.inl rfl | exact Or.inr rfl))) PassesOwn.never rfl)) PassesOwn.never rfl)
    (psd_cons (psd_for (pmi_strict (W := WF) (pdi_range1 (by rfl) B.range_ (pds_cons (pd_callB (cs_sum rfl) (by rfl) B.sum_ (by decide +kernel) (pds_cons (pd_var 0) pds_nil)) pds_nil))) (pgd_name (i := 5) nd rfl (by first | exact Or.inl rfl | exact Or.inr rfl) (by first | exact Or.inl rfl | exact Or.inr rfl)) (psd_one (psd_set (i := 3) (pm_strict (W := WF) (pd_bin os_mul (pd_var 3) (pd_bin os_add (pd_len (by rfl) B.len_ (pd_var 0)) (pd_bin os_mul (pd_var 1) (pd_var 5))))) nd rfl (by first | exact Or.inl rfl | exact Or.inr rfl) (by rfl) (by first | exact Or.inl rfl | exact Or.inr rfl))) PassesOwn.never rfl)
    (psd_one (psd_ret (W := WF) (pd_tup (pds_cons (pd_var 2) (pds_cons (pd_var 3) pds_nil))))))))
abbrev N__law_symbols_fine : List Str := ["symbols", "size", "gain", "numbers", "rule", "moving", "length"]
theorem sc__law_symbols_fine : FnScope N__law_symbols_fine ["symbols", "size", "gain"] (defScope (top 51)) := ⟨rfl, rfl, rfl, by decide +kernel, rfl, by decide +kernel, by decide +kernel⟩
theorem ok__law_symbols_fine {P : Program} {w : World} {K : PySem.W.Frag} {mg : Str → Option Value} {base : Heap} {f : Addr} {fd : FuncData} (B : BX mg) (F__law_counted : FI P w K mg base (ct K) 1 "_law_counted" s__law_counted) (F__law_falling_weight : FI P w K mg base (ct K) 2 "_law_falling_weight" s__law_falling_weight) (F__law_is : FI P w K mg base (ct K) 10 "_law_is" (s__law_is 8)) (F__law_is_integer : FI P w K mg base (ct K) 1 "_law_is_integer" s__law_is_integer) (F__law_moving_weight : FI P w K mg base (ct K) 1 "_law_moving_weight" s__law_moving_weight) (F__law_still_weight : FI P w K mg base (ct K) 2 "_law_still_weight" s__law_still_weight) (F_code_length : FI P w K mg base (ct K) 3 "code_length" s_code_length) (F_counted_tally : FI P w K mg base (ct K) 1 "counted_tally" s_counted_tally) (F_falling_course : FI P w K mg base (ct K) 2 "falling_course" s_falling_course) (F_is_within_weight : FI P w K mg base (ct K) 2 "is_within_weight" s_is_within_weight) (F_moving_course : FI P w K mg base (ct K) 4 "moving_course" s_moving_course) (F_renewal_places : FI P w K mg base (ct K) 4 "renewal_places" s_renewal_places) (F_still_course : FI P w K mg base (ct K) 2 "still_course" s_still_course) (F_weight_pair : FI P w K mg base (ct K) 1 "weight_pair" s_weight_pair) (F : FunD K "_law_symbols_fine" "_law_symbols_fine" (defArgs (top 51)) (defBody (top 51)) (defScope (top 51)) [] [] f fd) : FA P w K mg base (ct K) 11 f s__law_symbols_fine := by
  refine FA.mk' (N := N__law_symbols_fine) (ps := ["symbols", "size", "gain"]) (k := 10) F sc__law_symbols_fine (F.bindsN fun _ _ _ _ _ _ us hl => match us, hl with | [_, _, _], _ => rfl) rfl rfl fun cdv A outer s H E hr => ?_
  have nd := sc__law_symbols_fine.nd
  have hu := hr.units
  exact (psd_cons (psd_set (i := 3) (pm_strict (W := WF) (pd_call F__law_counted (hr.mono (by omega)) (by rfl) (pds_cons (pd_var 0) (pds_cons (pd_var 1) pds_nil)))) nd rfl (by first | exact Or.inl rfl | exact Or.inr rfl) (by rfl) (by first | exact Or.inl rfl | exact Or.inr rfl))
    (psd_cons (psd_set (i := 4) (pm_strict (W := WF) (pd_tup (pds_cons (pd_var 2) (pds_cons pd_int pds_nil)))) nd rfl (by first | exact Or.inl rfl | exact Or.inr rfl) (by rfl) (by first | exact Or.inl rfl | exact Or.inr rfl))
    (psd_cons (psd_if (pmb_strict (W := WF) (pdb_not (pdb_tru (pd_call F__law_is (hr.mono (by omega)) (by rfl) (pds_cons (pd_call F_weight_pair (hr.mono (by omega)) (by rfl) (pds_cons (pd_call F_still_course (hr.mono (by omega)) (by rfl) (pds_cons (pd_var 0) (pds_cons (pd_var 1) pds_nil))) pds_nil)) (pds_cons (pd_call F__law_still_weight (hr.mono (by omega)) (by rfl) (pds_cons (pd_var 3) pds_nil)) pds_nil)))))) (psd_one (psd_ret (W := WF) pd_bl)) psd_nil)
    (psd_cons (psd_if (pmb_strict (W := WF) (pdb_not (pdb_tru (pd_call F__law_is (hr.mono (by omega)) (by rfl) (pds_cons (pd_call F_weight_pair (hr.mono (by omega)) (by rfl) (pds_cons (pd_call F_falling_course (hr.mono (by omega)) (by rfl) (pds_cons (pd_var 0) (pds_cons (pd_var 1) pds_nil))) pds_nil)) (pds_cons (pd_call F__law_falling_weight (hr.mono (by omega)) (by rfl) (pds_cons (pd_var 3) pds_nil)) pds_nil)))))) (psd_one (psd_ret (W := WF) pd_bl)) psd_nil)
    (psd_cons (psd_set (i := 5) (pm_strict (W := WF) (pd_call F_moving_course (hr.mono (by omega)) (by rfl) (pds_cons (pd_var 0) (pds_cons (pd_var 1) (pds_cons (pd_var 4) pds_nil))))) nd rfl (by first | exact Or.inl rfl | exact Or.inr rfl) (by rfl) (by first | exact Or.inl rfl | exact Or.inr rfl))
    (psd_cons (psd_if (pmb_strict (W := WF) (pdb_cmp os_le (pd_bin os_add (pd_var 1) (pd_bin os_mul (pd_var 2) (pd_len (by rfl) B.len_ (pd_var 0)))) pd_int (by rfl))) (psd_cons (psd_if (pmb_strict (W := WF) (pdb_not (pdb_tru (pd_call F__law_is (hr.mono (by omega)) (by rfl) (pds_cons (pd_call F_renewal_places (hr.mono (by omega)) (by rfl) (pds_cons (pd_var 0) (pds_cons (pd_var 1) (pds_cons (pd_var 4) pds_nil)))) (pds_cons (pd_tup pds_nil) pds_nil)))))) (psd_one (psd_ret (W := WF) pd_bl)) psd_nil)
    (psd_one (psd_if (pmb_strict (W := WF) (pdb_not (pdb_tru (pd_call F__law_is (hr.mono (by omega)) (by rfl) (pds_cons (pd_call F_weight_pair (hr.mono (by omega)) (by rfl) (pds_cons (pd_var 5) pds_nil)) (pds_cons (pd_call F__law_moving_weight (hr.mono (by omega)) (by rfl) (pds_cons (pd_var 3) (pds_cons (pd_var 2) pds_nil))) pds_nil)))))) (psd_one (psd_ret (W := WF) pd_bl)) psd_nil))) psd_nil)
    (psd_cons (psd_if (pmb_strict (W := WF) (pdb_bool (pdw_and (pdb_cmp os_gt (pd_len (by rfl) B.len_ (pd_var 0)) pd_int (by rfl)) (pdw_and1 (pdb_not (pdb_tru (pd_call F__law_is (hr.mono (by omega)) (by rfl) (pds_cons (pd_call F_counted_tally (hr.mono (by omega)) (by rfl) (pds_cons (pd_var 0) (pds_cons (pd_var 1) pds_nil))) (pds_cons (pd_callT cs_tuple (by rfl) B.tuple_ (by decide +kernel) (pds_cons (pd_var 3) pds_nil)) pds_nil))))))))) (psd_one (psd_ret (W := WF) pd_bl)) psd_nil)
    (psd_cons (psd_set (i := 6) (pm_strict (W := WF) (pd_call F_code_length (hr.mono (by omega)) (by rfl) (pds_cons (pd_var 5) pds_nil))) nd rfl (by first | exact Or.inl rfl | exact Or.inr rfl) (by rfl) (by first | exact Or.inl rfl | exact Or.inr rfl))
    (psd_one (psd_ret (W := WF) (pd_and (pd_call F__law_is_integer (hr.mono (by omega)) (by rfl) (pds_cons (pd_var 6) pds_nil)) (pd_one (pd_call F__law_is (hr.mono (by omega)) (by rfl) (pds_cons (pd_call F_is_within_weight (hr.mono (by omega)) (by rfl) (pds_cons (pd_var 5) (pds_cons (pd_var 6) pds_nil))) (pds_cons pd_bl pds_nil)))))))))))))))
abbrev N__law_models_fine : List Str := ["left", "width", "grades", "figures", "one", "numbers", "dues", "model", "due", "grade"]
theorem sc__law_models_fine : FnScope N__law_models_fine ["left", "width"] (defScope (top 52)) := ⟨rfl, rfl, rfl, by decide +kernel, rfl, by decide +kernel, by decide +kernel⟩
theorem ok__law_models_fine {P : Program} {w : World} {K : PySem.W.Frag} {mg : Str → Option Value} {base : Heap} {f : Addr} {fd : FuncData} (B : BX mg) (F__law_counted : FI P w K mg base (ct K) 1 "_law_counted" s__law_counted) (F__law_falling_weight : FI P w K mg base (ct K) 2 "_law_falling_weight" s__law_falling_weight) (F__law_folded : FI P w K mg base (ct K) 1 "_law_folded" s__law_folded) (F__law_is : FI P w K mg base (ct K) 10 "_law_is" (s__law_is 8)) (F__law_moving_weight : FI P w K mg base (ct K) 1 "_law_moving_weight" s__law_moving_weight) (F__law_size : FI P w K mg base (ct K) 1 "_law_size" s__law_size) (F__law_still_weight : FI P w K mg base (ct K) 2 "_law_still_weight" s__law_still_weight) (F_figure_steps : FI P w K mg base (ct K) 2 "figure_steps" s_figure_steps) (F_grade_of : FI P w K mg base (ct K) 2 "grade_of" s_grade_of) (F_model_course : FI P w K mg base (ct K) 5 "model_course" s_model_course) (F_weight_pair : FI P w K mg base (ct K) 1 "weight_pair" s_weight_pair) (F : FunD K "_law_models_fine" "_law_models_fine" (defArgs (top 52)) (defBody (top 52)) (defScope (top 52)) [] [] f fd) : FA P w K mg base (ct K) 11 f s__law_models_fine := by
  refine FA.mk' (N := N__law_models_fine) (ps := ["left", "width"]) (k := 10) F sc__law_models_fine (F.bindsN fun _ _ _ _ _ _ us hl => match us, hl with | [_, _], _ => rfl) rfl rfl fun cdv A outer s H E hr => ?_
  have nd := sc__law_models_fine.nd
  have hu := hr.units
  exact (psd_cons (psd_setLc (i := 2) (fun h => tM_strict h) (X := XB P w K mg base N__law_models_fine "_law_models_fine" (defScope (top 52)) f cdv A outer s H E) (own := [("one", 4)]) (W' := WF) (pdi_seq (pd_var 0)) rfl nd (blkOk_by (N := N__law_models_fine) (sc := defScope (top 52)) (by decide +kernel)) (fun _ _ _ _ _ => (pge_name (i := 4) nd rfl (by first | exact Or.inl rfl | exact Or.inr rfl) (by first | exact Or.inl rfl | exact Or.inr rfl))) (fun _ _ _ _ _ => ptd_nil) (fun _ _ _ _ _ => (pd_call F__law_size (hr.mono (by omega)) (by rfl) (pds_cons (pd_call F__law_folded (hr.mono (by omega)) (by rfl) (pds_cons (pd_var 4) pds_nil)) pds_nil))) (vs := [4]) rfl (by decide) rfl rfl (by rfl))
    (psd_cons (psd_if (pmb_strict (W := WF) (pdb_not (pdb_tru (pd_call F__law_is (hr.mono (by omega)) (by rfl) (pds_cons (pd_callT cs_tuple (by rfl) B.tuple_ (by decide +kernel) (pds_cons (pd_lc (X := XB P w K mg base N__law_models_fine "_law_models_fine" (defScope (top 52)) f cdv A outer s H E) (own := [("one", 4)]) (W' := WF) (pdi_seq (pd_var 0)) rfl nd (blkOk_by (N := N__law_models_fine) (sc := defScope (top 52)) (by decide +kernel)) (fun _ _ _ _ _ => (pge_name (i := 4) nd rfl (by first | exact Or.inl rfl | exact Or.inr rfl) (by first | exact Or.inl rfl | exact Or.inr rfl))) (fun _ _ _ _ _ => ptd_nil) (fun _ _ _ _ _ => (pd_call F_grade_of (hr.mono (by omega)) (by rfl) (pds_cons (pd_var 4) pds_nil))) (vs := [4]) rfl (by decide)) pds_nil)) (pds_cons (pd_callT cs_tuple (by rfl) B.tuple_ (by decide +kernel) (pds_cons (pd_var 2) pds_nil)) pds_nil)))))) (psd_one (psd_ret (W := WF) pd_bl)) psd_nil)
    (psd_cons (psd_set (i := 3) (pm_strict (W := WF) (pd_callB (cs_sum rfl) (by rfl) B.sum_ (by decide +kernel) (pds_cons (pd_lc (X := XB P w K mg base N__law_models_fine "_law_models_fine" (defScope (top 52)) f cdv A outer s H E) (own := [("grade", 9)]) (W' := WF) (pdi_seq (pd_var 2)) rfl nd (blkOk_by (N := N__law_models_fine) (sc := defScope (top 52)) (by decide +kernel)) (fun _ _ _ _ _ => (pge_name (i := 9) nd rfl (by first | exact Or.inl rfl | exact Or.inr rfl) (by first | exact Or.inl rfl | exact Or.inr rfl))) (fun _ _ _ _ _ => ptd_nil) (fun _ _ _ _ _ => (pd_callB (cs_max2 rfl) (by rfl) B.max_ (by decide +kernel) (pds_cons pd_int (pds_cons (pd_bin os_sub (pd_var 9) pd_int) pds_nil)))) (vs := [9]) rfl (by decide)) pds_nil))) nd rfl (by first | exact Or.inl rfl | exact Or.inr rfl) (by rfl) (by first | exact Or.inl rfl | exact Or.inr rfl))
    (psd_cons (psd_for (pmi_strict (W := WF) (pdi_seq (pd_var 0))) (pgd_name (i := 4) nd rfl (by first | exact Or.inl rfl | exact Or.inr rfl) (by first | exact Or.inl rfl | exact Or.inr rfl)) (psd_one (psd_if (pmb_strict (W := WF) (pdb_not (pdb_tru (pd_call F__law_is (hr.mono (by omega)) (by rfl) (pds_cons (pd_call F_weight_pair (hr.mono (by omega)) (by rfl) (pds_cons (pd_call F_figure_steps (hr.mono (by omega)) (by rfl) (pds_cons (pd_var 4) pds_nil)) pds_nil)) (pds_cons (pd_tup (pds_cons pd_int (pds_cons (pd_bin os_shl pd_int (pd_callB (cs_max2 rfl) (by rfl) B.max_ (by decide +kernel) (pds_cons pd_int (pds_cons (pd_bin os_sub (pd_call F__law_size (hr.mono (by omega)) (by rfl) (pds_cons (pd_call F__law_folded (hr.mono (by omega)) (by rfl) (pds_cons (pd_var 4) pds_nil)) pds_nil)) pd_int) pds_nil)))) pds_nil))) pds_nil)))))) (psd_one (psd_ret (W := WF) pd_bl)) psd_nil)) PassesOwn.never rfl)
    (psd_cons (psd_set (i := 5) (pm_strict (W := WF) (pd_call F__law_counted (hr.mono (by omega)) (by rfl) (pds_cons (pd_var 2) (pds_cons (pd_bin os_add (pd_var 1) pd_int) pds_nil)))) nd rfl (by first | exact Or.inl rfl | exact Or.inr rfl) (by rfl) (by first | exact Or.inl rfl | exact Or.inr rfl))
    (psd_cons (psd_own (i := 6) (pmf_strict (pdf_lst (pds_cons (pd_call F__law_still_weight (hr.mono (by omega)) (by rfl) (pds_cons (pd_var 5) pds_nil)) (pds_cons (pd_call F__law_falling_weight (hr.mono (by omega)) (by rfl) (pds_cons (pd_var 5) pds_nil)) (pds_cons (pd_call F__law_moving_weight (hr.mono (by omega)) (by rfl) (pds_cons (pd_var 5) (pds_cons pd_int pds_nil))) pds_nil))))) nd rfl (by first | exact Or.inl rfl | exact Or.inr rfl) (by rfl) (by first | exact Or.inl rfl | exact Or.inr rfl))
    (psd_cons (psd_if (pmb_strict (W := WF) (pdb_cmp os_le (pd_bin os_add (pd_bin os_add (pd_var 1) pd_int) (pd_bin os_mul pd_int (pd_len (by rfl) B.len_ (pd_var 0)))) pd_int (by rfl))) (psd_one (psd_add (i := 6) add_one PySem.F.slot_list_append PySem.F.type_list_append mt_append (pm_strict (W := WF) (pd_call F__law_moving_weight (hr.mono (by omega)) (by rfl) (pds_cons (pd_var 5) (pds_cons pd_int pds_nil)))) rfl (by first | exact Or.inl rfl | exact Or.inr (Or.inl rfl) | exact Or.inr (Or.inr rfl)))) psd_nil)
    (psds_frz (i := 6) (psd_cons (psd_for (pmi_strict (W := WF) (pdi_range1 (by rfl) B.range_ (pds_cons (pd_len (by rfl) B.len_ (pd_var 6)) pds_nil))) (pgd_name (i := 7) nd rfl (by first | exact Or.inl rfl | exact Or.inr rfl) (by first | exact Or.inl rfl | exact Or.inr rfl)) (psd_cons (psd_set (i := 8) (pm_strict (W := WF) (pd_tup (pds_cons (pd_ix (pd_ix (pd_var 6) (pd_var 7) (by intro _ _; rfl)) pd_int (by intro _ _; rfl)) (pds_cons (pd_bin os_shl (pd_ix (pd_ix (pd_var 6) (pd_var 7) (by intro _ _; rfl)) pd_int (by intro _ _; rfl)) (pd_var 3)) pds_nil)))) nd rfl (by first | exact Or.inl rfl | exact Or.inr rfl) (by rfl) (by first | exact Or.inl rfl | exact Or.inr rfl))
    (psd_one (psd_if (pmb_strict (W := WF) (pdb_not (pdb_tru (pd_call F__law_is (hr.mono (by omega)) (by rfl) (pds_cons (pd_call F_weight_pair (hr.mono (by omega)) (by rfl) (pds_cons (pd_call F_model_course (hr.mono (by omega)) (by rfl) (pds_cons (pd_var 0) (pds_cons (pd_var 1) (pds_cons (pd_var 7) pds_nil)))) pds_nil)) (pds_cons (pd_var 8) pds_nil)))))) (psd_one (psd_ret (W := WF) pd_bl)) psd_nil))) PassesOwn.never rfl)
    (psd_one (psd_ret (W := WF) pd_bl)))))))))))
abbrev N_law : List Str := ["script", "k", "draws", "size", "sorts", "symbols", "gain", "width", "left", "draw"]
theorem sc_law : FnScope N_law ["script"] (defScope (top 53)) := ⟨rfl, rfl, rfl, by decide +kernel, rfl, by decide +kernel, by decide +kernel⟩
theorem okE_law {P : Program} {w : World} {K : PySem.W.Frag} {mg : Str → Option Value} {base : Heap} {f : Addr} {fd : FuncData} (B : BX mg) (F__law_cell : FI P w K mg base (ct K) 1 "_law_cell" s__law_cell) (F__law_counted : FI P w K mg base (ct K) 1 "_law_counted" s__law_counted) (F__law_draws : FI P w K mg base (ct K) 1 "_law_draws" s__law_draws) (F__law_is : FI P w K mg base (ct K) 10 "_law_is" (s__law_is 8)) (F__law_made_remnants : FI P w K mg base (ct K) 1 "_law_made_remnants" s__law_made_remnants) (F__law_models_fine : FI P w K mg base (ct K) 11 "_law_models_fine" s__law_models_fine) (F__law_still_weight : FI P w K mg base (ct K) 2 "_law_still_weight" s__law_still_weight) (F__law_symbols_fine : FI P w K mg base (ct K) 11 "_law_symbols_fine" s__law_symbols_fine) (F_still_course : FI P w K mg base (ct K) 2 "still_course" s_still_course) (F_weight_pair : FI P w K mg base (ct K) 1 "weight_pair" s_weight_pair) (F : FunD K "law" "law" (defArgs (top 53)) (defBody (top 53)) (defScope (top 53)) [] [] f fd) : FnOk P w K mg base CX0 12 f fd ["script"] (spD K (ct K) s_law) := by
  refine FA.mkE (N := N_law) (ps := ["script"]) (k := 11) F sc_law rfl rfl fun cdv A outer s H E hr => ?_
  have nd := sc_law.nd
  have hu := hr.units
  exact (psd_cons (psd_for (pmi_strict (W := WF) (pdi_range1 (by rfl) B.range_ (pds_cons pd_int pds_nil))) (pgd_name (i := 1) nd rfl (by first | exact Or.inl rfl | exact Or.inr rfl) (by first | exact Or.inl rfl | exact Or.inr rfl)) (psd_cons (psd_set (i := 2) (pm_strict (W := WF) (pd_call F__law_draws (hr.mono (by omega)) (by rfl) (pds_cons (pd_call F__law_cell (hr.mono (by omega)) (by rfl) (pds_cons (pd_var 0) (pds_cons (pd_var 1) pds_nil))) (pds_cons pd_int pds_nil)))) nd rfl (by first | exact Or.inl rfl | exact Or.inr rfl) (by rfl) (by first | exact Or.inl rfl | exact Or.inr rfl))
    (psd_cons (psd_set (i := 3) (pm_strict (W := WF) (pd_bin os_add pd_int (pd_bin os_mod (pd_callT cs_int1 (by rfl) B.int_ (by decide +kernel) (pds_cons (pd_ix (pd_var 2) pd_int (by intro _ _; rfl)) pds_nil)) pd_int))) nd rfl (by first | exact Or.inl rfl | exact Or.inr rfl) (by rfl) (by first | exact Or.inl rfl | exact Or.inr rfl))
    (psd_cons (psd_set (i := 4) (pm_strict (W := WF) (pd_ix (pd_tup (pds_cons (pd_var 3) (pds_cons (pd_callB (cs_min2 rfl) (by rfl) B.min_ (by decide +kernel) (pds_cons (pd_var 3) (pds_cons pd_int pds_nil))) pds_nil))) (pd_bin os_mod (pd_callT cs_int1 (by rfl) B.int_ (by decide +kernel) (pds_cons (pd_ix (pd_var 2) pd_int (by intro _ _; rfl)) pds_nil)) pd_int) (by intro _ _; rfl))) nd rfl (by first | exact Or.inl rfl | exact Or.inr rfl) (by rfl) (by first | exact Or.inl rfl | exact Or.inr rfl))
    (psd_cons (psd_set (i := 5) (pm_strict (W := WF) (pd_callT cs_tuple (by rfl) B.tuple_ (by decide +kernel) (pds_cons (pd_lc (X := XB P w K mg base N_law "law" (defScope (top 53)) f cdv A outer s H E) (own := [("draw", 9)]) (W' := WF) (pdi_seq (pd_cut (pd_var 2) (pdo_some pd_int) (pdo_some (pd_bin os_add pd_int (pd_bin os_mod (pd_callT cs_int1 (by rfl) B.int_ (by decide +kernel) (pds_cons (pd_ix (pd_var 2) pd_int (by intro _ _; rfl)) pds_nil)) pd_int))))) rfl nd (blkOk_by (N := N_law) (sc := defScope (top 53)) (by decide +kernel)) (fun _ _ _ _ _ => (pge_name (i := 9) nd rfl (by first | exact Or.inl rfl | exact Or.inr rfl) (by first | exact Or.inl rfl | exact Or.inr rfl))) (fun _ _ _ _ _ => ptd_nil) (fun _ _ _ _ _ => (pd_bin os_mod (pd_callT cs_int1 (by rfl) B.int_ (by decide +kernel) (pds_cons (pd_var 9) pds_nil)) (pd_var 4))) (vs := [9]) rfl (by decide)) pds_nil))) nd rfl (by first | exact Or.inl rfl | exact Or.inr rfl) (by rfl) (by first | exact Or.inl rfl | exact Or.inr rfl))
    (psd_cons (psd_set (i := 6) (pm_strict (W := WF) (pd_ix (pd_tup (pds_cons pd_int (pds_cons pd_int (pds_cons pd_int (pds_cons pd_int (pds_cons pd_int pds_nil)))))) (pd_bin os_mod (pd_callT cs_int1 (by rfl) B.int_ (by decide +kernel) (pds_cons (pd_ix (pd_var 2) pd_int (by intro _ _; rfl)) pds_nil)) pd_int) (by intro _ _; rfl))) nd rfl (by first | exact Or.inl rfl | exact Or.inr rfl) (by rfl) (by first | exact Or.inl rfl | exact Or.inr rfl))
    (psd_cons (psd_if (pmb_strict (W := WF) (pdb_not (pdb_tru (pd_call F__law_symbols_fine (hr.mono (by omega)) (by rfl) (pds_cons (pd_var 5) (pds_cons (pd_var 3) (pds_cons (pd_var 6) pds_nil))))))) (psd_one (psd_ret (W := WF) pd_bl)) psd_nil)
    (psd_cons (psd_if (pmb_strict (W := WF) (pdb_not (pdb_tru (pd_call F__law_is (hr.mono (by omega)) (by rfl) (pds_cons (pd_call F_weight_pair (hr.mono (by omega)) (by rfl) (pds_cons (pd_call F_still_course (hr.mono (by omega)) (by rfl) (pds_cons (pd_rev (pd_var 5)) (pds_cons (pd_var 3) pds_nil))) pds_nil)) (pds_cons (pd_call F__law_still_weight (hr.mono (by omega)) (by rfl) (pds_cons (pd_call F__law_counted (hr.mono (by omega)) (by rfl) (pds_cons (pd_var 5) (pds_cons (pd_var 3) pds_nil))) pds_nil)) pds_nil)))))) (psd_one (psd_ret (W := WF) pd_bl)) psd_nil)
    (psd_cons (psd_set (i := 7) (pm_strict (W := WF) (pd_bin os_add pd_int (pd_bin os_mod (pd_callT cs_int1 (by rfl) B.int_ (by decide +kernel) (pds_cons (pd_ix (pd_var 2) pd_int (by intro _ _; rfl)) pds_nil)) pd_int))) nd rfl (by first | exact Or.inl rfl | exact Or.inr rfl) (by rfl) (by first | exact Or.inl rfl | exact Or.inr rfl))
    (psd_cons (psd_set (i := 8) (pm_strict (W := WF) (pd_call F__law_made_remnants (hr.mono (by omega)) (by rfl) (pds_cons (pd_cut (pd_var 2) (pdo_some pd_int) pdo_none) (pds_cons (pd_bin os_add pd_int (pd_bin os_mod (pd_callT cs_int1 (by rfl) B.int_ (by decide +kernel) (pds_cons (pd_ix (pd_var 2) pd_int (by intro _ _; rfl)) pds_nil)) pd_int)) (pds_cons (pd_var 7) pds_nil))))) nd rfl (by first | exact Or.inl rfl | exact Or.inr rfl) (by rfl) (by first | exact Or.inl rfl | exact Or.inr rfl))
    (psd_one (psd_if (pmb_strict (W := WF) (pdb_not (pdb_tru (pd_call F__law_models_fine (hr.mono (by omega)) (by rfl) (pds_cons (pd_var 8) (pds_cons (pd_var 7) pds_nil)))))) (psd_one (psd_ret (W := WF) pd_bl)) psd_nil))))))))))) PassesOwn.never rfl)
    (psd_one (psd_ret (W := WF) pd_bl)))
end DL
end
section
set_option maxRecDepth 100000
set_option maxHeartbeats 0

namespace DL
open PySem PySem.Spec PyProof.Rows L2
def d_tally_step : He.DefD := ⟨("tally_step", none), "tally_step", "tally_step", defArgs (top 1), defBody (top 1), defScope (top 1), [], []⟩
def d_counted_tally : He.DefD := ⟨("counted_tally", none), "counted_tally", "counted_tally", defArgs (top 2), defBody (top 2), defScope (top 2), [], []⟩
def d_even_tally : He.DefD := ⟨("even_tally", none), "even_tally", "even_tally", defArgs (top 3), defBody (top 3), defScope (top 3), [], []⟩
def d_risen_tally : He.DefD := ⟨("risen_tally", none), "risen_tally", "risen_tally", defArgs (top 4), defBody (top 4), defScope (top 4), [], []⟩
def d_is_renewed : He.DefD := ⟨("is_renewed", none), "is_renewed", "is_renewed", defArgs (top 5), defBody (top 5), defScope (top 5), [], []⟩
def d_grown_tally : He.DefD := ⟨("grown_tally", none), "grown_tally", "grown_tally", defArgs (top 6), defBody (top 6), defScope (top 6), [], []⟩
def d_still_course : He.DefD := ⟨("still_course", none), "still_course", "still_course", defArgs (top 7), defBody (top 7), defScope (top 7), [], []⟩
def d_falling_course : He.DefD := ⟨("falling_course", none), "falling_course", "falling_course", defArgs (top 8), defBody (top 8), defScope (top 8), [], []⟩
def d_moving_walk : He.DefD := ⟨("moving_walk", none), "moving_walk", "moving_walk", defArgs (top 9), defBody (top 9), defScope (top 9), [], []⟩
def d_moving_course : He.DefD := ⟨("moving_course", none), "moving_course", "moving_course", defArgs (top 10), defBody (top 10), defScope (top 10), [], []⟩
def d_renewal_places : He.DefD := ⟨("renewal_places", none), "renewal_places", "renewal_places", defArgs (top 11), defBody (top 11), defScope (top 11), [], []⟩
def d_weight_pair : He.DefD := ⟨("weight_pair", none), "weight_pair", "weight_pair", defArgs (top 12), defBody (top 12), defScope (top 12), [], []⟩
def d_size_of : He.DefD := ⟨("size_of", none), "size_of", "size_of", defArgs (top 14), defBody (top 14), defScope (top 14), [], []⟩
def d_folded : He.DefD := ⟨("folded", none), "folded", "folded", defArgs (top 15), defBody (top 15), defScope (top 15), [], []⟩
def d_first_state : He.DefD := ⟨("first_state", none), "first_state", "first_state", defArgs (top 21), defBody (top 21), defScope (top 21), [], []⟩
def d_coded_state : He.DefD := ⟨("coded_state", none), "coded_state", "coded_state", defArgs (top 22), defBody (top 22), defScope (top 22), [], []⟩
def d_state_of_steps : He.DefD := ⟨("state_of_steps", none), "state_of_steps", "state_of_steps", defArgs (top 23), defBody (top 23), defScope (top 23), [], []⟩
def d_has_multiple : He.DefD := ⟨("has_multiple", none), "has_multiple", "has_multiple", defArgs (top 24), defBody (top 24), defScope (top 24), [], []⟩
def d_free_figures : He.DefD := ⟨("free_figures", none), "free_figures", "free_figures", defArgs (top 25), defBody (top 25), defScope (top 25), [], []⟩
def d_code_length : He.DefD := ⟨("code_length", none), "code_length", "code_length", defArgs (top 26), defBody (top 26), defScope (top 26), [], []⟩
def d_is_within_weight : He.DefD := ⟨("is_within_weight", none), "is_within_weight", "is_within_weight", defArgs (top 27), defBody (top 27), defScope (top 27), [], []⟩
def d_grade_of : He.DefD := ⟨("grade_of", none), "grade_of", "grade_of", defArgs (top 31), defBody (top 31), defScope (top 31), [], []⟩
def d_group_sizes : He.DefD := ⟨("group_sizes", none), "group_sizes", "group_sizes", defArgs (top 32), defBody (top 32), defScope (top 32), [], []⟩
def d_figure_steps : He.DefD := ⟨("figure_steps", none), "figure_steps", "figure_steps", defArgs (top 33), defBody (top 33), defScope (top 33), [], []⟩
def d_GradeBook___init__ : He.DefD := ⟨("GradeBook", some "__init__"), "__init__", "GradeBook.__init__", defArgs (inClass (top 34) 0), defBody (inClass (top 34) 0), defScope (inClass (top 34) 0), [], []⟩
def d_GradeBook_tally_now : He.DefD := ⟨("GradeBook", some "tally_now"), "tally_now", "GradeBook.tally_now", defArgs (inClass (top 34) 1), defBody (inClass (top 34) 1), defScope (inClass (top 34) 1), [], []⟩
def d_GradeBook_pass_grade : He.DefD := ⟨("GradeBook", some "pass_grade"), "pass_grade", "GradeBook.pass_grade", defArgs (inClass (top 34) 2), defBody (inClass (top 34) 2), defScope (inClass (top 34) 2), [], []⟩
def d_begun_tally : He.DefD := ⟨("begun_tally", none), "begun_tally", "begun_tally", defArgs (top 35), defBody (top 35), defScope (top 35), [], []⟩
def d_model_course : He.DefD := ⟨("model_course", none), "model_course", "model_course", defArgs (top 36), defBody (top 36), defScope (top 36), [], []⟩
def d__law_cell : He.DefD := ⟨("_law_cell", none), "_law_cell", "_law_cell", defArgs (top 38), defBody (top 38), defScope (top 38), [], []⟩
def d__law_draws : He.DefD := ⟨("_law_draws", none), "_law_draws", "_law_draws", defArgs (top 39), defBody (top 39), defScope (top 39), [], []⟩
def d__law_is_integer : He.DefD := ⟨("_law_is_integer", none), "_law_is_integer", "_law_is_integer", defArgs (top 40), defBody (top 40), defScope (top 40), [], []⟩
def d__law_is : He.DefD := ⟨("_law_is", none), "_law_is", "_law_is", defArgs (top 41), defBody (top 41), defScope (top 41), [], []⟩
def d__law_counted : He.DefD := ⟨("_law_counted", none), "_law_counted", "_law_counted", defArgs (top 42), defBody (top 42), defScope (top 42), [], []⟩
def d__law_size : He.DefD := ⟨("_law_size", none), "_law_size", "_law_size", defArgs (top 43), defBody (top 43), defScope (top 43), [], []⟩
def d__law_folded : He.DefD := ⟨("_law_folded", none), "_law_folded", "_law_folded", defArgs (top 44), defBody (top 44), defScope (top 44), [], []⟩
def d__law_made_remnants : He.DefD := ⟨("_law_made_remnants", none), "_law_made_remnants", "_law_made_remnants", defArgs (top 45), defBody (top 45), defScope (top 45), [], []⟩
def d__law_faculty : He.DefD := ⟨("_law_faculty", none), "_law_faculty", "_law_faculty", defArgs (top 46), defBody (top 46), defScope (top 46), [], []⟩
def d__law_times : He.DefD := ⟨("_law_times", none), "_law_times", "_law_times", defArgs (top 47), defBody (top 47), defScope (top 47), [], []⟩
def d__law_still_weight : He.DefD := ⟨("_law_still_weight", none), "_law_still_weight", "_law_still_weight", defArgs (top 48), defBody (top 48), defScope (top 48), [], []⟩
def d__law_falling_weight : He.DefD := ⟨("_law_falling_weight", none), "_law_falling_weight", "_law_falling_weight", defArgs (top 49), defBody (top 49), defScope (top 49), [], []⟩
def d__law_moving_weight : He.DefD := ⟨("_law_moving_weight", none), "_law_moving_weight", "_law_moving_weight", defArgs (top 50), defBody (top 50), defScope (top 50), [], []⟩
def d__law_symbols_fine : He.DefD := ⟨("_law_symbols_fine", none), "_law_symbols_fine", "_law_symbols_fine", defArgs (top 51), defBody (top 51), defScope (top 51), [], []⟩
def d__law_models_fine : He.DefD := ⟨("_law_models_fine", none), "_law_models_fine", "_law_models_fine", defArgs (top 52), defBody (top 52), defScope (top 52), [], []⟩
def d_law : He.DefD := ⟨("law", none), "law", "law", defArgs (top 53), defBody (top 53), defScope (top 53), [], []⟩
def fn : List He.DefD := [d_tally_step, d_counted_tally, d_even_tally, d_risen_tally, d_is_renewed, d_grown_tally, d_still_course, d_falling_course, d_moving_walk, d_moving_course, d_renewal_places, d_weight_pair, d_size_of, d_folded, d_first_state, d_coded_state, d_state_of_steps, d_has_multiple, d_free_figures, d_code_length, d_is_within_weight, d_grade_of, d_group_sizes, d_figure_steps, d_GradeBook___init__, d_GradeBook_tally_now, d_GradeBook_pass_grade, d_begun_tally, d_model_course, d__law_cell, d__law_draws, d__law_is_integer, d__law_is, d__law_counted, d__law_size, d__law_folded, d__law_made_remnants, d__law_faculty, d__law_times, d__law_still_weight, d__law_falling_weight, d__law_moving_weight, d__law_symbols_fine, d__law_models_fine, d_law]
def fa : List He.Fa := [.free "len", .free "range", .free "sum", .free "tuple", .free "int", .free "abs", .free "min", .free "max", .free "isinstance", .free "all", .free "any", .free "str", .free "list", .free "enumerate", .free "zip", .free "sorted", .free "bool", .glo "tally_step", .glo "counted_tally", .glo "even_tally", .glo "risen_tally", .glo "is_renewed", .glo "grown_tally", .glo "still_course", .glo "falling_course", .glo "moving_walk", .glo "moving_course", .glo "renewal_places", .glo "weight_pair", .glo "size_of", .glo "folded", .glo "first_state", .glo "coded_state", .glo "state_of_steps", .glo "has_multiple", .glo "free_figures", .glo "code_length", .glo "is_within_weight", .glo "grade_of", .glo "group_sizes", .glo "figure_steps", .glo "begun_tally", .glo "model_course", .glo "_law_cell", .glo "_law_draws", .glo "_law_is_integer", .glo "_law_is", .glo "_law_counted", .glo "_law_size", .glo "_law_folded", .glo "_law_made_remnants", .glo "_law_faculty", .glo "_law_times", .glo "_law_still_weight", .glo "_law_falling_weight", .glo "_law_moving_weight", .glo "_law_symbols_fine", .glo "_law_models_fine", .glo "law", .glo "GradeBook", .cls "GradeBook", .mkr "GradeBook", .meth "GradeBook" "tally_now", .meth "GradeBook" "pass_grade", .int "BEGINNING" 32, .int "GROUP" 8, .int "LEAST" 16777216, .int "LOSS" 4096, .int "MOST_LENGTH" 20000, .glo "RULES"]
def exs (K : PySem.W.Frag) : List Bool := [(repB K 6 (.ref (He.ga K "RULES")) (.tup [(.tup [(.int 1), (.int 4096)]), (.tup [(.int 8), (.int 512)]), (.tup [(.int 32), (.int 64)])])), ((cd_GradeBook K).fl.all fun f => (PySem.W.findIn K (.ref (cd_GradeBook K).C) f == some none))]
def exK (K : PySem.W.Frag) : Bool := (exs K).all id
theorem exK_at {K : PySem.W.Frag} (h : exK K = true) (i : Nat) {b : Bool} (e : (exs K)[i]? = some b) : b = true := List.all_eq_true.mp h b (List.mem_of_getElem? e)
def loose0 : List Str := ["__name__", "tally_step", "counted_tally", "even_tally", "risen_tally", "is_renewed", "grown_tally", "still_course", "falling_course", "moving_walk", "moving_course", "renewal_places", "weight_pair", "size_of", "folded", "BEGINNING", "LEAST", "LOSS", "MOST_LENGTH", "first_state", "coded_state", "state_of_steps", "has_multiple", "free_figures", "code_length", "is_within_weight", "RULES", "GROUP", "grade_of", "group_sizes"]
def loose1 : List Str := ["figure_steps", "GradeBook", "begun_tally", "model_course", "_law_cell", "_law_draws", "_law_is_integer", "_law_is", "_law_counted", "_law_size", "_law_folded", "_law_made_remnants", "_law_faculty", "_law_times", "_law_still_weight", "_law_falling_weight", "_law_moving_weight", "_law_symbols_fine", "_law_models_fine"]
def loose : List Str := loose0 ++ loose1
abbrev R_ : PySem.W.OpenRow := PySem.W.OpenLaw.row PySem.Challenge.rw_psaltery_k22_whole_weights_by_formulas
abbrev hk : PySem.W.Hook := hookY 6 fa fn exK
def ob (s : PySem.W.SharedT) : AlY := obsY 6 fa fn exK (HandSHeadRun.getT s)
theorem ob_eq (s : PySem.W.SharedT) : ob s = hk.obs s.abs := obsY_eq (HandSHeadRun.getT_eq s)
theorem run (w : World) : HandSHeadRun.RunEq R_ (PySem.W.view R_.prog [53]) hk ob 20000 loose w := by
  intro os
  kernel_rfl
end DL
end
section
set_option maxRecDepth 100000
set_option maxHeartbeats 4000000

namespace DL
open PySem PySem.Spec PyProof.Rows L2
theorem facts {P : Program} {w : World} {K : PySem.W.Frag} {h : Heap} {mg : Str → Option Value} {f : Addr} (X : K.In h) (G : h.Ns mainGlobals mg) (hfa : mg ("law" : Str) = some (.ref f)) (hex : exK K = true) (c : He.SaysD fa fn K) : ∃ fd : FuncData, (∀ (s : Shared) (v : Value), BindsTo s fd ⟨[v], []⟩ [("script", v)]) ∧ (∀ i cd, ct K i = some cd → CDok K cd) ∧ ∀ base : Heap, K.In base → base.Ns mainGlobals mg → FnOk P w K mg base CX0 12 f fd ["script"] (spD K (ct K) s_law) := by
  obtain ⟨fd_tally_step, F_tally_step⟩ := c.def_ 0 (d := d_tally_step) rfl
  obtain ⟨fd_counted_tally, F_counted_tally⟩ := c.def_ 1 (d := d_counted_tally) rfl
  obtain ⟨fd_even_tally, F_even_tally⟩ := c.def_ 2 (d := d_even_tally) rfl
  obtain ⟨fd_risen_tally, F_risen_tally⟩ := c.def_ 3 (d := d_risen_tally) rfl
  obtain ⟨fd_is_renewed, F_is_renewed⟩ := c.def_ 4 (d := d_is_renewed) rfl
  obtain ⟨fd_grown_tally, F_grown_tally⟩ := c.def_ 5 (d := d_grown_tally) rfl
  obtain ⟨fd_still_course, F_still_course⟩ := c.def_ 6 (d := d_still_course) rfl
  obtain ⟨fd_falling_course, F_falling_course⟩ := c.def_ 7 (d := d_falling_course) rfl
  obtain ⟨fd_moving_walk, F_moving_walk⟩ := c.def_ 8 (d := d_moving_walk) rfl
  obtain ⟨fd_moving_course, F_moving_course⟩ := c.def_ 9 (d := d_moving_course) rfl
  obtain ⟨fd_renewal_places, F_renewal_places⟩ := c.def_ 10 (d := d_renewal_places) rfl
  obtain ⟨fd_weight_pair, F_weight_pair⟩ := c.def_ 11 (d := d_weight_pair) rfl
  obtain ⟨fd_size_of, F_size_of⟩ := c.def_ 12 (d := d_size_of) rfl
  obtain ⟨fd_folded, F_folded⟩ := c.def_ 13 (d := d_folded) rfl
  obtain ⟨fd_first_state, F_first_state⟩ := c.def_ 14 (d := d_first_state) rfl
  obtain ⟨fd_coded_state, F_coded_state⟩ := c.def_ 15 (d := d_coded_state) rfl
  obtain ⟨fd_state_of_steps, F_state_of_steps⟩ := c.def_ 16 (d := d_state_of_steps) rfl
  obtain ⟨fd_has_multiple, F_has_multiple⟩ := c.def_ 17 (d := d_has_multiple) rfl
  obtain ⟨fd_free_figures, F_free_figures⟩ := c.def_ 18 (d := d_free_figures) rfl
  obtain ⟨fd_code_length, F_code_length⟩ := c.def_ 19 (d := d_code_length) rfl
  obtain ⟨fd_is_within_weight, F_is_within_weight⟩ := c.def_ 20 (d := d_is_within_weight) rfl
  obtain ⟨fd_grade_of, F_grade_of⟩ := c.def_ 21 (d := d_grade_of) rfl
  obtain ⟨fd_group_sizes, F_group_sizes⟩ := c.def_ 22 (d := d_group_sizes) rfl
  obtain ⟨fd_figure_steps, F_figure_steps⟩ := c.def_ 23 (d := d_figure_steps) rfl
  obtain ⟨fd_GradeBook___init__, F_GradeBook___init__⟩ := c.def_ 24 (d := d_GradeBook___init__) rfl
  obtain ⟨fd_GradeBook_tally_now, F_GradeBook_tally_now⟩ := c.def_ 25 (d := d_GradeBook_tally_now) rfl
  obtain ⟨fd_GradeBook_pass_grade, F_GradeBook_pass_grade⟩ := c.def_ 26 (d := d_GradeBook_pass_grade) rfl
  obtain ⟨fd_begun_tally, F_begun_tally⟩ := c.def_ 27 (d := d_begun_tally) rfl
  obtain ⟨fd_model_course, F_model_course⟩ := c.def_ 28 (d := d_model_course) rfl
  obtain ⟨fd__law_cell, F__law_cell⟩ := c.def_ 29 (d := d__law_cell) rfl
  obtain ⟨fd__law_draws, F__law_draws⟩ := c.def_ 30 (d := d__law_draws) rfl
  obtain ⟨fd__law_is_integer, F__law_is_integer⟩ := c.def_ 31 (d := d__law_is_integer) rfl
  obtain ⟨fd__law_is, F__law_is⟩ := c.def_ 32 (d := d__law_is) rfl
  obtain ⟨fd__law_counted, F__law_counted⟩ := c.def_ 33 (d := d__law_counted) rfl
  obtain ⟨fd__law_size, F__law_size⟩ := c.def_ 34 (d := d__law_size) rfl
  obtain ⟨fd__law_folded, F__law_folded⟩ := c.def_ 35 (d := d__law_folded) rfl
  obtain ⟨fd__law_made_remnants, F__law_made_remnants⟩ := c.def_ 36 (d := d__law_made_remnants) rfl
  obtain ⟨fd__law_faculty, F__law_faculty⟩ := c.def_ 37 (d := d__law_faculty) rfl
  obtain ⟨fd__law_times, F__law_times⟩ := c.def_ 38 (d := d__law_times) rfl
  obtain ⟨fd__law_still_weight, F__law_still_weight⟩ := c.def_ 39 (d := d__law_still_weight) rfl
  obtain ⟨fd__law_falling_weight, F__law_falling_weight⟩ := c.def_ 40 (d := d__law_falling_weight) rfl
  obtain ⟨fd__law_moving_weight, F__law_moving_weight⟩ := c.def_ 41 (d := d__law_moving_weight) rfl
  obtain ⟨fd__law_symbols_fine, F__law_symbols_fine⟩ := c.def_ 42 (d := d__law_symbols_fine) rfl
  obtain ⟨fd__law_models_fine, F__law_models_fine⟩ := c.def_ 43 (d := d__law_models_fine) rfl
  obtain ⟨fd_law, F_law⟩ := c.def_ 44 (d := d_law) rfl
  have B : BX mg := ⟨He.free_ok X G (c.fact 0 (f := .free "len") rfl), He.free_ok X G (c.fact 1 (f := .free "range") rfl), He.free_ok X G (c.fact 2 (f := .free "sum") rfl), He.free_ok X G (c.fact 3 (f := .free "tuple") rfl), He.free_ok X G (c.fact 4 (f := .free "int") rfl), He.free_ok X G (c.fact 5 (f := .free "abs") rfl), He.free_ok X G (c.fact 6 (f := .free "min") rfl), He.free_ok X G (c.fact 7 (f := .free "max") rfl), He.free_ok X G (c.fact 8 (f := .free "isinstance") rfl), He.free_ok X G (c.fact 9 (f := .free "all") rfl), He.free_ok X G (c.fact 10 (f := .free "any") rfl), He.free_ok X G (c.fact 11 (f := .free "str") rfl), He.free_ok X G (c.fact 12 (f := .free "list") rfl), He.free_ok X G (c.fact 13 (f := .free "enumerate") rfl), He.free_ok X G (c.fact 14 (f := .free "zip") rfl), He.free_ok X G (c.fact 15 (f := .free "sorted") rfl), He.free_ok X G (c.fact 16 (f := .free "bool") rfl)⟩
  have g_BEGINNING := He.int_ok X G (c.fact 64 (f := .int "BEGINNING" 32) rfl)
  have g_GROUP := He.int_ok X G (c.fact 65 (f := .int "GROUP" 8) rfl)
  have g_LEAST := He.int_ok X G (c.fact 66 (f := .int "LEAST" 16777216) rfl)
  have g_LOSS := He.int_ok X G (c.fact 67 (f := .int "LOSS" 4096) rfl)
  have g_MOST_LENGTH := He.int_ok X G (c.fact 68 (f := .int "MOST_LENGTH" 20000) rfl)
  have g_RULES : KD K mg "RULES" (.tup [(.tup [(.int 1), (.int 4096)]), (.tup [(.int 8), (.int 512)]), (.tup [(.int 32), (.int 64)])]) := kd_of (n := 6) (He.glo_ok X G (c.fact 69 (f := .glo "RULES") rfl)) (exK_at hex 0 rfl)
  have C_GradeBook : CDok K (cd_GradeBook K) := cd_ok (He.cls_ok (c.fact 60 (f := .cls "GradeBook") rfl)) (exK_at hex 1 rfl) (show (["model", "tallies", "before"] : List Str).Nodup by decide) (show (["model", "tallies", "before"] : List Str).length ≤ 900 by decide)
  cases hfa.symm.trans (He.glo_ok X G (c.fact 58 (f := .glo "law") rfl))
  refine ⟨fd_law, fun s v => FunD.bindsA (ps := ["script"]) F_law (fun _ _ _ _ _ _ us hl => match us, hl with | [_], _ => rfl) s [v] rfl, fun i cd e => ?_, fun base _ _ => ?_⟩
  · unfold ct at e
    split at e
    · cases e; exact C_GradeBook
    · cases e
  ·
    have A_tally_step := ok_tally_step (P := P) (w := w) (base := base) B F_tally_step
    have FI_tally_step : FI P w K mg base (ct K) 1 "tally_step" s_tally_step := ⟨_, (He.glo_ok X G (c.fact 17 (f := .glo "tally_step") rfl)), F_tally_step.kp, A_tally_step⟩
    have A_counted_tally := ok_counted_tally (P := P) (w := w) (base := base) B F_counted_tally
    have FI_counted_tally : FI P w K mg base (ct K) 1 "counted_tally" s_counted_tally := ⟨_, (He.glo_ok X G (c.fact 18 (f := .glo "counted_tally") rfl)), F_counted_tally.kp, A_counted_tally⟩
    have A_even_tally := ok_even_tally (P := P) (w := w) (base := base) B F_even_tally
    have FI_even_tally : FI P w K mg base (ct K) 1 "even_tally" s_even_tally := ⟨_, (He.glo_ok X G (c.fact 19 (f := .glo "even_tally") rfl)), F_even_tally.kp, A_even_tally⟩
    have A_risen_tally := ok_risen_tally (P := P) (w := w) (base := base) B F_risen_tally
    have FI_risen_tally : FI P w K mg base (ct K) 1 "risen_tally" s_risen_tally := ⟨_, (He.glo_ok X G (c.fact 20 (f := .glo "risen_tally") rfl)), F_risen_tally.kp, A_risen_tally⟩
    have A_is_renewed := ok_is_renewed (P := P) (w := w) (base := base) B F_is_renewed
    have FI_is_renewed : FI P w K mg base (ct K) 1 "is_renewed" s_is_renewed := ⟨_, (He.glo_ok X G (c.fact 21 (f := .glo "is_renewed") rfl)), F_is_renewed.kp, A_is_renewed⟩
    have A_grown_tally := ok_grown_tally (P := P) (w := w) (base := base) B FI_is_renewed FI_risen_tally F_grown_tally
    have FI_grown_tally : FI P w K mg base (ct K) 2 "grown_tally" s_grown_tally := ⟨_, (He.glo_ok X G (c.fact 22 (f := .glo "grown_tally") rfl)), F_grown_tally.kp, A_grown_tally⟩
    have A_still_course := ok_still_course (P := P) (w := w) (base := base) B FI_counted_tally FI_tally_step F_still_course
    have FI_still_course : FI P w K mg base (ct K) 2 "still_course" s_still_course := ⟨_, (He.glo_ok X G (c.fact 23 (f := .glo "still_course") rfl)), F_still_course.kp, A_still_course⟩
    have A_falling_course := ok_falling_course (P := P) (w := w) (base := base) B FI_counted_tally FI_risen_tally FI_tally_step F_falling_course
    have FI_falling_course : FI P w K mg base (ct K) 2 "falling_course" s_falling_course := ⟨_, (He.glo_ok X G (c.fact 24 (f := .glo "falling_course") rfl)), F_falling_course.kp, A_falling_course⟩
    have A_moving_walk := ok_moving_walk (P := P) (w := w) (base := base) B FI_even_tally FI_grown_tally FI_is_renewed FI_tally_step F_moving_walk
    have FI_moving_walk : FI P w K mg base (ct K) 3 "moving_walk" s_moving_walk := ⟨_, (He.glo_ok X G (c.fact 25 (f := .glo "moving_walk") rfl)), F_moving_walk.kp, A_moving_walk⟩
    have A_moving_course := ok_moving_course (P := P) (w := w) (base := base) B FI_moving_walk F_moving_course
    have FI_moving_course : FI P w K mg base (ct K) 4 "moving_course" s_moving_course := ⟨_, (He.glo_ok X G (c.fact 26 (f := .glo "moving_course") rfl)), F_moving_course.kp, A_moving_course⟩
    have A_renewal_places := ok_renewal_places (P := P) (w := w) (base := base) B FI_moving_walk F_renewal_places
    have FI_renewal_places : FI P w K mg base (ct K) 4 "renewal_places" s_renewal_places := ⟨_, (He.glo_ok X G (c.fact 27 (f := .glo "renewal_places") rfl)), F_renewal_places.kp, A_renewal_places⟩
    have A_weight_pair := ok_weight_pair (P := P) (w := w) (base := base) B F_weight_pair
    have FI_weight_pair : FI P w K mg base (ct K) 1 "weight_pair" s_weight_pair := ⟨_, (He.glo_ok X G (c.fact 28 (f := .glo "weight_pair") rfl)), F_weight_pair.kp, A_weight_pair⟩
    have A_size_of := ok_size_of (P := P) (w := w) (base := base) B F_size_of
    have FI_size_of : FI P w K mg base (ct K) 1 "size_of" s_size_of := ⟨_, (He.glo_ok X G (c.fact 29 (f := .glo "size_of") rfl)), F_size_of.kp, A_size_of⟩
    have A_folded := ok_folded (P := P) (w := w) (base := base) B F_folded
    have FI_folded : FI P w K mg base (ct K) 1 "folded" s_folded := ⟨_, (He.glo_ok X G (c.fact 30 (f := .glo "folded") rfl)), F_folded.kp, A_folded⟩
    have A_first_state := ok_first_state (P := P) (w := w) (base := base) B g_BEGINNING F_first_state
    have FI_first_state : FI P w K mg base (ct K) 1 "first_state" s_first_state := ⟨_, (He.glo_ok X G (c.fact 31 (f := .glo "first_state") rfl)), F_first_state.kp, A_first_state⟩
    have A_coded_state := ok_coded_state (P := P) (w := w) (base := base) B g_LEAST F_coded_state
    have FI_coded_state : FI P w K mg base (ct K) 1 "coded_state" s_coded_state := ⟨_, (He.glo_ok X G (c.fact 32 (f := .glo "coded_state") rfl)), F_coded_state.kp, A_coded_state⟩
    have A_state_of_steps := ok_state_of_steps (P := P) (w := w) (base := base) B FI_coded_state FI_first_state F_state_of_steps
    have FI_state_of_steps : FI P w K mg base (ct K) 2 "state_of_steps" s_state_of_steps := ⟨_, (He.glo_ok X G (c.fact 33 (f := .glo "state_of_steps") rfl)), F_state_of_steps.kp, A_state_of_steps⟩
    have A_has_multiple := ok_has_multiple (P := P) (w := w) (base := base) B F_has_multiple
    have FI_has_multiple : FI P w K mg base (ct K) 1 "has_multiple" s_has_multiple := ⟨_, (He.glo_ok X G (c.fact 34 (f := .glo "has_multiple") rfl)), F_has_multiple.kp, A_has_multiple⟩
    have A_free_figures := ok_free_figures (P := P) (w := w) (base := base) B FI_has_multiple FI_size_of F_free_figures
    have FI_free_figures : FI P w K mg base (ct K) 2 "free_figures" s_free_figures := ⟨_, (He.glo_ok X G (c.fact 35 (f := .glo "free_figures") rfl)), F_free_figures.kp, A_free_figures⟩
    have A_code_length := ok_code_length (P := P) (w := w) (base := base) B FI_free_figures FI_state_of_steps F_code_length
    have FI_code_length : FI P w K mg base (ct K) 3 "code_length" s_code_length := ⟨_, (He.glo_ok X G (c.fact 36 (f := .glo "code_length") rfl)), F_code_length.kp, A_code_length⟩
    have A_is_within_weight := ok_is_within_weight (P := P) (w := w) (base := base) B g_LOSS g_MOST_LENGTH FI_weight_pair F_is_within_weight
    have FI_is_within_weight : FI P w K mg base (ct K) 2 "is_within_weight" s_is_within_weight := ⟨_, (He.glo_ok X G (c.fact 37 (f := .glo "is_within_weight") rfl)), F_is_within_weight.kp, A_is_within_weight⟩
    have A_grade_of := ok_grade_of (P := P) (w := w) (base := base) B FI_folded FI_size_of F_grade_of
    have FI_grade_of : FI P w K mg base (ct K) 2 "grade_of" s_grade_of := ⟨_, (He.glo_ok X G (c.fact 38 (f := .glo "grade_of") rfl)), F_grade_of.kp, A_grade_of⟩
    have A_group_sizes := ok_group_sizes (P := P) (w := w) (base := base) B g_GROUP F_group_sizes
    have FI_group_sizes : FI P w K mg base (ct K) 1 "group_sizes" s_group_sizes := ⟨_, (He.glo_ok X G (c.fact 39 (f := .glo "group_sizes") rfl)), F_group_sizes.kp, A_group_sizes⟩
    have A_figure_steps := ok_figure_steps (P := P) (w := w) (base := base) B FI_folded FI_group_sizes FI_size_of F_figure_steps
    have FI_figure_steps : FI P w K mg base (ct K) 2 "figure_steps" s_figure_steps := ⟨_, (He.glo_ok X G (c.fact 40 (f := .glo "figure_steps") rfl)), F_figure_steps.kp, A_figure_steps⟩
    have A_GradeBook___init__ := ok_GradeBook___init__ (P := P) (w := w) (base := base) B F_GradeBook___init__
    have N_GradeBook : NI P w K mg base (ct K) 1 "GradeBook" (cd_GradeBook K).C s_GradeBook___init__ := ⟨_, (He.glo_ok X G (c.fact 59 (f := .glo "GradeBook") rfl)), He.mkr_ok (c.fact 61 (f := .mkr "GradeBook") rfl), A_GradeBook___init__⟩
    have A_GradeBook_tally_now := ok_GradeBook_tally_now (P := P) (w := w) (base := base) B F_GradeBook_tally_now
    have M_GradeBook_tally_now : MI P w K mg base (ct K) 1 (cd_GradeBook K).C "tally_now" s_GradeBook_tally_now := ⟨_, He.meth_ok (c.fact 62 (f := .meth "GradeBook" "tally_now") rfl), A_GradeBook_tally_now⟩
    have A_GradeBook_pass_grade := ok_GradeBook_pass_grade (P := P) (w := w) (base := base) B g_RULES FI_grown_tally FI_risen_tally F_GradeBook_pass_grade
    have M_GradeBook_pass_grade : MI P w K mg base (ct K) 3 (cd_GradeBook K).C "pass_grade" s_GradeBook_pass_grade := ⟨_, He.meth_ok (c.fact 63 (f := .meth "GradeBook" "pass_grade") rfl), A_GradeBook_pass_grade⟩
    have A_begun_tally := ok_begun_tally (P := P) (w := w) (base := base) B FI_counted_tally FI_even_tally FI_grade_of F_begun_tally
    have FI_begun_tally : FI P w K mg base (ct K) 3 "begun_tally" s_begun_tally := ⟨_, (He.glo_ok X G (c.fact 41 (f := .glo "begun_tally") rfl)), F_begun_tally.kp, A_begun_tally⟩
    have A_model_course := ok_model_course (P := P) (w := w) (base := base) B C_GradeBook N_GradeBook M_GradeBook_pass_grade M_GradeBook_tally_now FI_begun_tally FI_figure_steps FI_grade_of FI_tally_step F_model_course
    have FI_model_course : FI P w K mg base (ct K) 5 "model_course" s_model_course := ⟨_, (He.glo_ok X G (c.fact 42 (f := .glo "model_course") rfl)), F_model_course.kp, A_model_course⟩
    have A__law_cell := ok__law_cell (P := P) (w := w) (base := base) B F__law_cell
    have FI__law_cell : FI P w K mg base (ct K) 1 "_law_cell" s__law_cell := ⟨_, (He.glo_ok X G (c.fact 43 (f := .glo "_law_cell") rfl)), F__law_cell.kp, A__law_cell⟩
    have A__law_draws := ok__law_draws (P := P) (w := w) (base := base) B F__law_draws
    have FI__law_draws : FI P w K mg base (ct K) 1 "_law_draws" s__law_draws := ⟨_, (He.glo_ok X G (c.fact 44 (f := .glo "_law_draws") rfl)), F__law_draws.kp, A__law_draws⟩
    have A__law_is_integer := ok__law_is_integer (P := P) (w := w) (base := base) B F__law_is_integer
    have FI__law_is_integer : FI P w K mg base (ct K) 1 "_law_is_integer" s__law_is_integer := ⟨_, (He.glo_ok X G (c.fact 45 (f := .glo "_law_is_integer") rfl)), F__law_is_integer.kp, A__law_is_integer⟩
    have A__law_is := ok__law_is (P := P) (w := w) (base := base) B FI__law_is_integer F__law_is (He.glo_ok X G (c.fact 46 (f := .glo "_law_is") rfl)) 8
    have FI__law_is : FI P w K mg base (ct K) 10 "_law_is" (s__law_is 8) := ⟨_, (He.glo_ok X G (c.fact 46 (f := .glo "_law_is") rfl)), F__law_is.kp, A__law_is⟩
    have A__law_counted := ok__law_counted (P := P) (w := w) (base := base) B F__law_counted
    have FI__law_counted : FI P w K mg base (ct K) 1 "_law_counted" s__law_counted := ⟨_, (He.glo_ok X G (c.fact 47 (f := .glo "_law_counted") rfl)), F__law_counted.kp, A__law_counted⟩
    have A__law_size := ok__law_size (P := P) (w := w) (base := base) B F__law_size
    have FI__law_size : FI P w K mg base (ct K) 1 "_law_size" s__law_size := ⟨_, (He.glo_ok X G (c.fact 48 (f := .glo "_law_size") rfl)), F__law_size.kp, A__law_size⟩
    have A__law_folded := ok__law_folded (P := P) (w := w) (base := base) B F__law_folded
    have FI__law_folded : FI P w K mg base (ct K) 1 "_law_folded" s__law_folded := ⟨_, (He.glo_ok X G (c.fact 49 (f := .glo "_law_folded") rfl)), F__law_folded.kp, A__law_folded⟩
    have A__law_made_remnants := ok__law_made_remnants (P := P) (w := w) (base := base) B F__law_made_remnants
    have FI__law_made_remnants : FI P w K mg base (ct K) 1 "_law_made_remnants" s__law_made_remnants := ⟨_, (He.glo_ok X G (c.fact 50 (f := .glo "_law_made_remnants") rfl)), F__law_made_remnants.kp, A__law_made_remnants⟩
    have A__law_faculty := ok__law_faculty (P := P) (w := w) (base := base) B F__law_faculty
    have FI__law_faculty : FI P w K mg base (ct K) 1 "_law_faculty" s__law_faculty := ⟨_, (He.glo_ok X G (c.fact 51 (f := .glo "_law_faculty") rfl)), F__law_faculty.kp, A__law_faculty⟩
    have A__law_times := ok__law_times (P := P) (w := w) (base := base) B F__law_times
    have FI__law_times : FI P w K mg base (ct K) 1 "_law_times" s__law_times := ⟨_, (He.glo_ok X G (c.fact 52 (f := .glo "_law_times") rfl)), F__law_times.kp, A__law_times⟩
    have A__law_still_weight := ok__law_still_weight (P := P) (w := w) (base := base) B FI__law_times F__law_still_weight
    have FI__law_still_weight : FI P w K mg base (ct K) 2 "_law_still_weight" s__law_still_weight := ⟨_, (He.glo_ok X G (c.fact 53 (f := .glo "_law_still_weight") rfl)), F__law_still_weight.kp, A__law_still_weight⟩
    have A__law_falling_weight := ok__law_falling_weight (P := P) (w := w) (base := base) B FI__law_faculty F__law_falling_weight
    have FI__law_falling_weight : FI P w K mg base (ct K) 2 "_law_falling_weight" s__law_falling_weight := ⟨_, (He.glo_ok X G (c.fact 54 (f := .glo "_law_falling_weight") rfl)), F__law_falling_weight.kp, A__law_falling_weight⟩
    have A__law_moving_weight := ok__law_moving_weight (P := P) (w := w) (base := base) B F__law_moving_weight
    have FI__law_moving_weight : FI P w K mg base (ct K) 1 "_law_moving_weight" s__law_moving_weight := ⟨_, (He.glo_ok X G (c.fact 55 (f := .glo "_law_moving_weight") rfl)), F__law_moving_weight.kp, A__law_moving_weight⟩
    have A__law_symbols_fine := ok__law_symbols_fine (P := P) (w := w) (base := base) B FI__law_counted FI__law_falling_weight FI__law_is FI__law_is_integer FI__law_moving_weight FI__law_still_weight FI_code_length FI_counted_tally FI_falling_course FI_is_within_weight FI_moving_course FI_renewal_places FI_still_course FI_weight_pair F__law_symbols_fine
    have FI__law_symbols_fine : FI P w K mg base (ct K) 11 "_law_symbols_fine" s__law_symbols_fine := ⟨_, (He.glo_ok X G (c.fact 56 (f := .glo "_law_symbols_fine") rfl)), F__law_symbols_fine.kp, A__law_symbols_fine⟩
    have A__law_models_fine := ok__law_models_fine (P := P) (w := w) (base := base) B FI__law_counted FI__law_falling_weight FI__law_folded FI__law_is FI__law_moving_weight FI__law_size FI__law_still_weight FI_figure_steps FI_grade_of FI_model_course FI_weight_pair F__law_models_fine
    have FI__law_models_fine : FI P w K mg base (ct K) 11 "_law_models_fine" s__law_models_fine := ⟨_, (He.glo_ok X G (c.fact 57 (f := .glo "_law_models_fine") rfl)), F__law_models_fine.kp, A__law_models_fine⟩
    exact okE_law (P := P) (w := w) (base := base) B FI__law_cell FI__law_counted FI__law_draws FI__law_is FI__law_made_remnants FI__law_models_fine FI__law_still_weight FI__law_symbols_fine FI_still_course FI_weight_pair F_law
end DL
open PySem PySem.W PySem.Calls PyProof.Rows
theorem DL.walked (ok : ∀ ns : List Int, ns.length ≤ 63 → ∃ S', DL.s_law [.scr ns] [] = .ok (.bl true) S') : PySem.Challenge.rw_psaltery_k22_whole_weights_by_formulas.Holds := by
  w_on; o_law
  refine HandSHeadRun.head_any (r := OpenLaw.row PySem.Challenge.rw_psaltery_k22_whole_weights_by_formulas) (q := view (OpenLaw.row PySem.Challenge.rw_psaltery_k22_whole_weights_by_formulas).prog [53]) (H := DL.hk) (ob := DL.ob) (M := 20000) (loose := DL.loose) (d := HandSHeadRun.topDef (OpenLaw.row PySem.Challenge.rw_psaltery_k22_whole_weights_by_formulas).prog 53) (kwd := []) DL.ob_eq
    (by kernel_rfl) (fun s => by kernel_rfl) DL.run (by kernel_rfl) (by kernel_rfl) (by kernel_rfl) (by rfl) (by first | assumption | decide +kernel) (by decide +kernel) ⟨rfl, rfl, rfl, rfl, rfl, by decide +kernel⟩ ?hw ?hc
  case hw => w_witness2
  case hc =>
    refine L2.walk_ofE (l := PySem.Challenge.rw_psaltery_k22_whole_weights_by_formulas) (n := 63) (k := 12) (x := "script") (CX := L2.CX0) rfl (by decide) (by kernel_rfl) ⟨rfl, by decide, by decide⟩ ?F (fun _ _ _ _ z => z)
    intro w mg fa h Y G hmg0
    obtain ⟨K, KX, hex, c⟩ := Y
    have hmg : mg ("law" : PySem.Str) = some (.ref fa) := by
      rw [← show (HandSHeadRun.topDef (OpenLaw.row PySem.Challenge.rw_psaltery_k22_whole_weights_by_formulas).prog 53).name = ("law" : PySem.Str) by kernel_rfl]
      exact hmg0
    obtain ⟨fd, hb, cok, hF⟩ := DL.facts (P := (PySem.Challenge.rw_psaltery_k22_whole_weights_by_formulas).prog) (w := w) KX G hmg hex c
    refine ⟨K, fd, _, KX, hb, fun H a ns hl _ hS => ?_, fun base b1 b2 => DL.FnOk.kf (hF base b1 b2)⟩
    obtain ⟨S', e⟩ := ok ns hl
    exact DL.law_sp cok e rfl hS
end
section
set_option maxRecDepth 100000
set_option maxHeartbeats 1000000
namespace DL
theorem cut_drop1 {α : Type} (xs : List α) (j : Nat) : cutL xs (some ((j : Int) + 1)) none = xs.drop (j + 1) := cut_drop xs (j + 1)
theorem runLc_to {α : Type} {g : Tg} {te : Ex} {G : Env} {S : Store} (emb : α → D) (f : α → D) : ∀ xs : List α, (∀ x ∈ xs, ∃ G1, g.put (emb x) G = some G1 ∧ te G1 S = .ok (f x) S) → runLc g tyes te G (xs.map emb) S = .ok (xs.map f) S
  | [], _ => rfl
  | x :: r, h => by
    obtain ⟨G1, h1, h2⟩ := h x List.mem_cons_self
    have ih := runLc_to emb f r fun y hy => h y (List.mem_cons_of_mem _ hy)
    rw [List.map_cons]
    unfold runLc
    rw [h1]
    simp only [tyes, h2, ih, List.map_cons]
/-! ### tallies -/
def bump (c : List Int) (j : Nat) (g : Int) : List Int := c.set j (c.getD j 0 + g)
theorem bump_len (c : List Int) (j : Nat) (g : Int) : (bump c j g).length = c.length := List.length_set
theorem bump_eq (c : List Int) (j : Nat) (g : Int) (h : j < c.length) : c.take j ++ (c[j] + g) :: c.drop (j + 1) = bump c j g := by
  unfold bump
  rw [List.set_eq_take_append_cons_drop, if_pos h, List.getD_eq_getElem?_getD, List.getElem?_eq_getElem h]
  rfl
def cnt (xs : List Nat) (size : Nat) : List Int := (List.range size).map fun j => ((xs.count j : Nat) : Int)
theorem cnt_len (xs : List Nat) (size : Nat) : (cnt xs size).length = size := by simp [cnt]
theorem cnt_get (xs : List Nat) (size j : Nat) (h : j < size) : (cnt xs size).getD j 0 = xs.count j := by
  rw [List.getD_eq_getElem?_getD]
  simp [cnt, h]
theorem cnt_nil (size : Nat) : cnt [] size = List.replicate size 0 := by
  refine List.ext_getElem (by simp [cnt]) fun i h1 h2 => ?_
  simp [cnt]
theorem cnt_get? (xs : List Nat) (size i : Nat) : (cnt xs size)[i]? = if i < size then some ((xs.count i : Nat) : Int) else none := by
  unfold cnt
  rw [List.getElem?_map]
  by_cases h : i < size
  · rw [List.getElem?_range h, if_pos h]; rfl
  · rw [if_neg h, List.getElem?_eq_none (by simpa using h)]; rfl
theorem bump_cnt (xs ys : List Nat) (size x : Nat) (g : Int) (h : x < size) (h1 : ((xs.count x : Nat) : Int) + g = ys.count x) (h2 : ∀ i, i ≠ x → xs.count i = ys.count i) : bump (cnt xs size) x g = cnt ys size := by
  refine List.ext_getElem? fun i => ?_
  unfold bump
  rw [List.getElem?_set, cnt_get _ _ _ h, cnt_get?, cnt_get?, cnt_len]
  by_cases e : x = i
  · subst e
    rw [if_pos rfl, if_pos h, if_pos h, h1]
  · rw [if_neg e, h2 i fun z => e z.symm]
theorem cnt_snoc (xs : List Nat) (size x : Nat) (h : x < size) : bump (cnt xs size) x 1 = cnt (xs ++ [x]) size :=
  bump_cnt _ _ _ _ _ h (by simp) fun i hi => by
    have : List.count i [x] = 0 := by simp [List.count_cons, Ne.symm hi]
    simp [this]
theorem cnt_cons (xs : List Nat) (size x : Nat) (h : x < size) : bump (cnt (x :: xs) size) x (-1) = cnt xs size :=
  bump_cnt _ _ _ _ _ h (by simp; omega) fun i hi => by simp [List.count_cons, Ne.symm hi]
abbrev Tri := Int × Int × Int
def stepD (t : Tri) : D := .tup [.int t.1, .int t.2.1, .int t.2.2]
def tally (c : List Int) (x : Nat) : Tri := ((c.take x).sum, c.getD x 0, c.sum)
abbrev nI (n : Nat) : D := .int (n : Int)
abbrev tn (xs : List Nat) : D := .tup (xs.map nI)
theorem tally_step_eq (c : List Int) (j : Nat) (S : Store) (h : j < c.length) : s_tally_step [tI' c, nI j] S = .ok (stepD (tally c j)) S := by
  simp [R.bind, s_tally_step, b_tally_step, cut_take, ← List.map_take, ix_ti, h, stepD, tally]
theorem risen_eq (c : List Int) (j : Nat) (g : Int) (S : Store) (h : j < c.length) (hz : c.length ≤ 16777216) :
    s_risen_tally [tI' c, nI j, .int g] S = .ok (tI' (bump c j g)) S := by
  have l2 : j + 1 + (c.length - (j + 1)) ≤ 16777216 := by omega
  rw [← bump_eq c j g h]
  have m : min j c.length = j := by omega
  simp [R.bind, s_risen_tally, b_risen_tally, cut_take, ix_ti, h, opAdd, cut_drop1, m, l2, show j + 1 ≤ 16777216 by omega]
theorem even_eq (n : Nat) (S : Store) (h : 2 ≤ n) (h2 : n ≤ 1000) : s_even_tally [nI n] S = .ok (tI' (List.replicate n 1)) S := by
  have e : ∀ m : Nat, repL m [D.int 1] = (List.replicate m (1 : Int)).map D.int := fun m => by
    unfold repL
    induction m with
    | zero => rfl
    | succ m ih => rw [List.replicate_succ, List.flatten_cons, ih, List.replicate_succ]; rfl
  have g : (2 : Int) ≤ n ∧ (n : Int) ≤ 1000 := by omega
  simp [R.bind, s_even_tally, b_even_tally, opMul, g, e]
abbrev rl (g m : Int) : D := .tup [.int g, .int m]
theorem renewed_eq (c : List Int) (g m : Int) (S : Store) : s_is_renewed [tI' c, rl g m] S = .ok (.bl (decide (m < c.sum + g))) S := by
  simp [R.bind, s_is_renewed, b_is_renewed, opIx, L2.atI, L2.ixN]
def grow (c : List Int) (j : Nat) (g m : Int) : List Int := if m < c.sum + g then (bump c j g).map (fun x => (x + 1) / 2) else bump c j g
theorem grown_eq (c : List Int) (j : Nat) (g m : Int) (S : Store) (h : j < c.length) (hz : c.length ≤ 16777216) :
    s_grown_tally [tI' c, nI j, rl g m] S = .ok (tI' (grow c j g m)) S := by
  have e0 : opIx (rl g m) (.int 0) = some (.int g) := rfl
  unfold grow
  by_cases hm : m < c.sum + g
  · have lc : runLc (.nm 4) tyes (ebin opDiv (ebin opAdd (evar 4) (ec (.int 1))) (ec (.int 2))) [.val (tI' c), .val (nI j), .val (rl g m), .val (tI' (bump c j g)), .no] ((bump c j g).map D.int) S = .ok ((bump c j g).map fun x => D.int ((x + 1) / 2)) S :=
      runLc_to D.int (fun x => D.int ((x + 1) / 2)) _ fun x _ => ⟨_, rfl, by simp [R.bind, show (Nat.log2 2) < 9000 by decide]⟩
    have hl : (bump c j g).length ≤ 16777216 := by rw [bump_len]; exact hz
    simp [R.bind, s_grown_tally, b_grown_tally, e0, risen_eq, renewed_eq, h, hz, hm, wipeG, lc, hl]
  · simp [R.bind, s_grown_tally, b_grown_tally, e0, risen_eq, renewed_eq, h, hz, hm]
theorem repL_zero (n : Nat) : repL n [D.int 0] = (List.replicate n (0 : Int)).map D.int := by
  unfold repL
  induction n with
  | zero => rfl
  | succ m ih => rw [List.replicate_succ, List.flatten_cons, ih, List.replicate_succ]; rfl
theorem counted_loop (a b : Slot) (S : Store) (size : Nat) : ∀ (xs done : List Nat) (s3 : Slot), (∀ x ∈ xs, x < size) →
    ∃ s3', runFor (.nm 3) (sputa 2 (onInts opAdd) (strict (evar 3)) (strict (ec (.int 1)))) (xs.map nI) [a, b, .own ((cnt done size).map D.int), s3] S = .nx [a, b, .own ((cnt (done ++ xs) size).map D.int), s3'] S
  | [], done, s3, _ => ⟨s3, by simp⟩
  | x :: r, done, s3, h => by
    have hx := h x List.mem_cons_self
    obtain ⟨s3', ih⟩ := counted_loop a b S size r (done ++ [x]) (.val (nI x)) fun y hy => h y (List.mem_cons_of_mem _ hy)
    refine ⟨s3', ?_⟩
    rw [List.map_cons, ev_runForC]
    have hl : x < (cnt done size).length := by rw [cnt_len]; exact hx
    have hg : (cnt done size)[x] = (cnt done size).getD x 0 := by rw [List.getD_eq_getElem?_getD, List.getElem?_eq_getElem hl]; rfl
    have hb : (((cnt done size).map D.int).set x (D.int ((cnt done size)[x] + 1))) = (cnt (done ++ [x]) size).map D.int := by
      rw [← cnt_snoc _ _ _ hx]
      unfold bump
      rw [List.map_set, hg]
    have lk : look (hide [a, b, .own ((cnt done size).map D.int), .val (nI x)]) 3 = some (nI x) := by cases a <;> cases b <;> rfl
    simp [ixN_nat, hl, hb, lk]
    rw [List.append_assoc] at ih
    exact ih
theorem zeros_mul (size : Nat) (hs : size ≤ 16777216) : opMul (.lst [.int 0]) (nI size) = some (.lst ((cnt [] size).map D.int)) := by
  have g : ((size : Int).natAbs ≤ 16777216 ∧ [D.int 0].length * (size : Int).toNat ≤ 16777216) := by simp; omega
  show (if _ then _ else _) = _
  rw [if_pos g, cnt_nil, ← repL_zero]
  simp
theorem counted_eq (xs : List Nat) (size : Nat) (S : Store) (hS : Store.flat S = true) (h : ∀ x ∈ xs, x < size) (hs : size ≤ 16777216) : s_counted_tally [tn xs, nI size] S = .ok (tI' (cnt xs size)) S := by
  obtain ⟨s3', e⟩ := counted_loop (.val (tn xs)) (.val (nI size)) S size xs [] .no h
  rw [List.nil_append] at e
  simp [s_counted_tally, b_counted_tally, R.bind, zeros_mul size hs, hS, e]
theorem law_counted_loop (a b : Slot) (S : Store) (hS : Store.flat S = true) (size : Nat) : ∀ (xs done : List Nat) (s3 : Slot), (∀ x ∈ xs, x < size) →
    ∃ s3', runFor (.nm 3) (sput 2 (strict (evar 3)) (relax (ebin opAdd (eix (evar 2) (evar 3)) (ec (.int 1))))) (xs.map nI) [a, b, .own ((cnt done size).map D.int), s3] S = .nx [a, b, .own ((cnt (done ++ xs) size).map D.int), s3'] S
  | [], done, s3, _ => ⟨s3, by simp⟩
  | x :: r, done, s3, h => by
    have hx := h x List.mem_cons_self
    obtain ⟨s3', ih⟩ := law_counted_loop a b S hS size r (done ++ [x]) (.val (nI x)) fun y hy => h y (List.mem_cons_of_mem _ hy)
    refine ⟨s3', ?_⟩
    rw [List.map_cons, ev_runForC]
    have hl : x < (cnt done size).length := by rw [cnt_len]; exact hx
    have hg : (cnt done size)[x] = (cnt done size).getD x 0 := by rw [List.getD_eq_getElem?_getD, List.getElem?_eq_getElem hl]; rfl
    have hb : (((cnt done size).map D.int).set x (D.int ((cnt done size)[x] + 1))) = (cnt (done ++ [x]) size).map D.int := by
      rw [← cnt_snoc _ _ _ hx]
      unfold bump
      rw [List.map_set, hg]
    have lk : look (hide [a, b, .own ((cnt done size).map D.int), .val (nI x)]) 3 = some (nI x) := by cases a <;> cases b <;> rfl
    have lk2 : look [a, b, .own ((cnt done size).map D.int), .val (nI x)] 2 = some (lI' (cnt done size)) := rfl
    have lk3 : look [a, b, .own ((cnt done size).map D.int), .val (nI x)] 3 = some (nI x) := rfl
    simp [R.bind, ixN_nat, hl, hb, lk, lk2, lk3, ix_li, D.flat, hS]
    rw [List.append_assoc] at ih
    exact ih
theorem law_counted_eq (xs : List Nat) (size : Nat) (S : Store) (hS : Store.flat S = true) (h : ∀ x ∈ xs, x < size) (hs : size ≤ 16777216) : s__law_counted [tn xs, nI size] S = .ok (lI' (cnt xs size)) S := by
  obtain ⟨s3', e⟩ := law_counted_loop (.val (tn xs)) (.val (nI size)) S hS size xs [] .no h
  rw [List.nil_append] at e
  simp [s__law_counted, b__law_counted, R.bind, zeros_mul size hs, hS, e]
theorem still_eq (xs : List Nat) (size : Nat) (S : Store) (hS : Store.flat S = true) (h : ∀ x ∈ xs, x < size) (hs : size ≤ 16777216) (hl : xs.length ≤ 16777216) :
    s_still_course [tn xs, nI size] S = .ok (.tup ((xs.map (tally (cnt xs size))).map stepD)) S := by
  have lc : runLc (.nm 3) tyes (ecall s_tally_step (econs (evar 2) (econs (evar 3) enil))) [.val (tn xs), .val (nI size), .val (tI' (cnt xs size)), .no] (xs.map nI) S = .ok (xs.map fun x => stepD (tally (cnt xs size) x)) S :=
    runLc_to nI _ _ fun x hx => ⟨_, rfl, by simp [R.bind, tally_step_eq, cnt_len, h x hx]⟩
  simp [s_still_course, b_still_course, R.bind, counted_eq xs size S hS h hs, wipeG, lc, hl]
def fallS (c : List Int) : List Nat → List Tri
  | [] => []
  | x :: r => tally c x :: fallS (bump c x (-1)) r
theorem fallS_len : ∀ (xs : List Nat) (c : List Int), (fallS c xs).length = xs.length
  | [], _ => rfl
  | x :: r, c => by show (fallS _ r).length + 1 = _; rw [fallS_len r]; rfl
theorem fall_loop (a b : Slot) (S : Store) (n : Nat) (hn : n ≤ 16777216) : ∀ (xs : List Nat) (c : List Int) (acc : List D) (s4 : Slot), c.length = n → acc.length + xs.length ≤ 16777216 → (∀ x ∈ xs, x < n) →
    ∃ c' s4', runFor (.nm 4) (sseq (sadd 3 addOne (strict (ecall s_tally_step (econs (evar 2) (econs (evar 4) enil)))))
      (sset 2 (strict (ecall s_risen_tally (econs (evar 2) (econs (evar 4) (econs (eun opNeg (ec (.int 1))) enil))))))) (xs.map nI) [a, b, .val (tI' c), .own acc, s4] S = .nx [a, b, .val c', .own (acc ++ (fallS c xs).map stepD), s4'] S
  | [], c, acc, s4, _, _, _ => ⟨tI' c, s4, by simp [fallS]⟩
  | x :: r, c, acc, s4, hc, ha, h => by
    have hx : x < c.length := by rw [hc]; exact h x List.mem_cons_self
    rw [List.length_cons] at ha
    obtain ⟨c', s4', ih⟩ := fall_loop a b S n hn r (bump c x (-1)) (acc ++ [stepD (tally c x)]) (.val (nI x)) (by rw [bump_len]; exact hc) (by rw [List.length_append]; simp only [List.length_cons, List.length_nil]; omega) fun y hy => h y (List.mem_cons_of_mem _ hy)
    refine ⟨c', s4', ?_⟩
    have lk : ∀ z : List D, look (hide [a, b, .val (tI' c), .own z, .val (nI x)]) 4 = some (nI x) ∧ look (hide [a, b, .val (tI' c), .own z, .val (nI x)]) 2 = some (tI' c) := fun z => by cases a <;> cases b <;> exact ⟨rfl, rfl⟩
    rw [List.map_cons, ev_runForC]
    simp [R.bind, lk, tally_step_eq, hx, risen_eq, show c.length ≤ 16777216 by omega, show acc.length + 1 ≤ 16777216 by omega]
    rw [List.append_assoc] at ih
    exact ih
theorem falling_eq (xs : List Nat) (size : Nat) (S : Store) (hS : Store.flat S = true) (h : ∀ x ∈ xs, x < size) (hs : size ≤ 16777216) (hl : xs.length ≤ 16777216) :
    s_falling_course [tn xs, nI size] S = .ok (.tup ((fallS (cnt xs size) xs).map stepD)) S := by
  obtain ⟨c', s4', e⟩ := fall_loop (.val (tn xs)) (.val (nI size)) S size hs xs (cnt xs size) [] .no (cnt_len _ _) (by simpa using hl) h
  rw [List.nil_append] at e
  simp [s_falling_course, b_falling_course, R.bind, counted_eq xs size S hS h hs, hS, e, D.flats]
def movS (g m : Int) (c : List Int) : List Nat → List Tri
  | [] => []
  | x :: r => tally c x :: movS g m (grow c x g m) r
def renS (g m : Int) (c : List Int) (n : Nat) : List Nat → List Nat
  | [] => []
  | x :: r => if m < c.sum + g then n :: renS g m (grow c x g m) (n + 1) r else renS g m (grow c x g m) (n + 1) r
theorem grow_len (c : List Int) (j : Nat) (g m : Int) : (grow c j g m).length = c.length := by
  unfold grow
  split
  · rw [List.length_map, bump_len]
  · exact bump_len _ _ _
theorem movS_len (g m : Int) : ∀ (xs : List Nat) (c : List Int), (movS g m c xs).length = xs.length
  | [], _ => rfl
  | x :: r, c => by show (movS _ _ _ r).length + 1 = _; rw [movS_len g m r]; rfl
theorem mov_loop (a b d : Slot) (g m : Int) (hd : d = .val (rl g m)) (S : Store) (n : Nat) (hn : n ≤ 16777216) : ∀ (xs : List Nat) (k : Nat) (c : List Int) (acc : List D) (ren : List Nat) (s6 s7 : Slot), c.length = n → acc.length + xs.length ≤ 16777216 → ren.length + xs.length ≤ 16777216 → (∀ x ∈ xs, x < n) →
    ∃ c' s6' s7', runFor (.tp [.nm 6, .nm 7]) (sseq (sadd 4 addOne (strict (ecall s_tally_step (econs (evar 3) (econs (evar 7) enil)))))
      (sseq (sif (strict (tru (ecall s_is_renewed (econs (evar 3) (econs (evar 2) enil))))) (sadd 5 addOne (strict (evar 6))) snx)
      (sset 3 (strict (ecall s_grown_tally (econs (evar 3) (econs (evar 7) (econs (evar 2) enil)))))))) (enumD k (xs.map nI)) [a, b, d, .val (tI' c), .own acc, .own (ren.map nI), s6, s7] S
      = .nx [a, b, d, .val c', .own (acc ++ (movS g m c xs).map stepD), .own ((ren ++ renS g m c k xs).map nI), s6', s7'] S
  | [], k, c, acc, ren, s6, s7, _, _, _, _ => ⟨tI' c, s6, s7, by simp [movS, renS, enumD]⟩
  | x :: r, k, c, acc, ren, s6, s7, hc, ha, hr, h => by
    have hx : x < c.length := by rw [hc]; exact h x List.mem_cons_self
    rw [List.length_cons] at ha hr
    have ih := fun ren' h' => mov_loop a b d g m hd S n hn r (k + 1) (grow c x g m) (acc ++ [stepD (tally c x)]) ren' (.val (nI k)) (.val (nI x)) (by rw [grow_len]; exact hc) (by rw [List.length_append]; simp only [List.length_cons, List.length_nil]; omega) h' fun y hy => h y (List.mem_cons_of_mem _ hy)
    have lk : ∀ y z : List D, look (hide [a, b, d, .val (tI' c), .own y, .own z, .val (nI k), .val (nI x)]) 7 = some (nI x) ∧ look (hide [a, b, d, .val (tI' c), .own y, .own z, .val (nI k), .val (nI x)]) 3 = some (tI' c) ∧ look (hide [a, b, d, .val (tI' c), .own y, .own z, .val (nI k), .val (nI x)]) 2 = some (rl g m) ∧
        look (hide [a, b, d, .val (tI' c), .own y, .own z, .val (nI k), .val (nI x)]) 6 = some (nI k) := fun y z => by subst hd; cases a <;> cases b <;> exact ⟨rfl, rfl, rfl, rfl⟩
    rw [List.map_cons]
    show ∃ c' s6' s7', runFor _ _ (.tup [nI k, nI x] :: enumD (k + 1) (r.map nI)) _ S = _
    by_cases hm : m < c.sum + g
    · obtain ⟨c', s6', s7', ih⟩ := ih (ren ++ [k]) (by rw [List.length_append]; simp only [List.length_cons, List.length_nil]; omega)
      refine ⟨c', s6', s7', ?_⟩
      rw [ev_runForC]
      simp [R.bind, lk, tally_step_eq, hx, grown_eq, renewed_eq, hm, show c.length ≤ 16777216 by omega, show acc.length + 1 ≤ 16777216 by omega, show ren.length + 1 ≤ 16777216 by omega, renS, movS]
      simpa using ih
    · obtain ⟨c', s6', s7', ih⟩ := ih ren (by omega)
      refine ⟨c', s6', s7', ?_⟩
      rw [ev_runForC]
      simp [R.bind, lk, tally_step_eq, hx, grown_eq, renewed_eq, hm, show c.length ≤ 16777216 by omega, show acc.length + 1 ≤ 16777216 by omega, renS, movS]
      simpa using ih
theorem mov_walk_eq (xs : List Nat) (size : Nat) (g m : Int) (S : Store) (hS : Store.flat S = true) (h : ∀ x ∈ xs, x < size) (hs0 : 2 ≤ size) (hs : size ≤ 1000) (hl : xs.length ≤ 16777216) :
    s_moving_walk [tn xs, nI size, rl g m] S = .ok (.tup [.tup ((movS g m (List.replicate size 1) xs).map stepD), tn (renS g m (List.replicate size 1) 0 xs)]) S := by
  obtain ⟨c', s6', s7', e⟩ := mov_loop (.val (tn xs)) (.val (nI size)) (.val (rl g m)) g m rfl S size (by omega) xs 0 (List.replicate size 1) [] [] .no .no (by simp) (by simpa using hl) (by simpa using hl) h
  rw [List.nil_append, List.nil_append, List.map_nil] at e
  simp [s_moving_walk, b_moving_walk, R.bind, even_eq size S hs0 hs, hS, D.flats, ienum, e]
end DL

end
section
set_option maxRecDepth 100000
set_option maxHeartbeats 1000000
namespace DL
theorem mulOk_r (i j : Int) (h : j.natAbs < 2 ^ 64) : mulOk i j = true := by
  unfold mulOk
  rw [decide_eq_true h]; simp
theorem mulOk_l (i j : Int) (h : i.natAbs < 2 ^ 64) : mulOk i j = true := by
  unfold mulOk
  rw [decide_eq_true h]; simp
theorem mulOk_w (i j : Int) (h : i.natAbs.log2 + j.natAbs.log2 < 1000000) : mulOk i j = true := by
  unfold mulOk
  rw [decide_eq_true h]; simp
theorem log2_of (n k : Nat) (h : n < 2 ^ k) (hk : 0 < k) : n.log2 < k := by
  by_cases z : n = 0
  · subst z; exact hk
  · exact (Nat.log2_lt z).mpr h
def prodI : List Int → Int
  | [] => 1
  | x :: r => x * prodI r
def cs (ts : List Tri) : List Int := ts.map fun t => t.2.1
def tt (ts : List Tri) : List Int := ts.map fun t => t.2.2
theorem weight_loop (a : Slot) (S : Store) : ∀ (ts : List Tri) (x y : Int) (s3 s4 s5 : Slot), (∀ t ∈ ts, t.2.1.natAbs < 2 ^ 64 ∧ t.2.2.natAbs < 2 ^ 64) →
    ∃ s3' s4' s5', runFor (.tp [.nm 3, .nm 4, .nm 5]) (sseq (saug 1 (onInts opMul) (strict (evar 4))) (saug 2 (onInts opMul) (strict (evar 5)))) (ts.map stepD) [a, .val (.int x), .val (.int y), s3, s4, s5] S
      = .nx [a, .val (.int (x * prodI (cs ts))), .val (.int (y * prodI (tt ts))), s3', s4', s5'] S
  | [], x, y, s3, s4, s5, _ => ⟨s3, s4, s5, by simp [cs, tt, prodI]⟩
  | t :: r, x, y, s3, s4, s5, h => by
    have ht := h t List.mem_cons_self
    obtain ⟨s3', s4', s5', ih⟩ := weight_loop a S r (x * t.2.1) (y * t.2.2) (.val (.int t.1)) (.val (.int t.2.1)) (.val (.int t.2.2)) fun u hu => h u (List.mem_cons_of_mem _ hu)
    refine ⟨s3', s4', s5', ?_⟩
    have lk : ∀ z, look (hide [a, .val (.int z), .val (.int y), .val (.int t.1), .val (.int t.2.1), .val (.int t.2.2)]) 4 = some (.int t.2.1) ∧ look (hide [a, .val (.int z), .val (.int y), .val (.int t.1), .val (.int t.2.1), .val (.int t.2.2)]) 5 = some (.int t.2.2) := fun z => by cases a <;> exact ⟨rfl, rfl⟩
    rw [List.map_cons, ev_runForC]
    simp [stepD, lk, mulOk_r _ _ ht.1, mulOk_r _ _ ht.2]
    rw [Int.mul_assoc, Int.mul_assoc] at ih
    exact ih
theorem weight_eq (ts : List Tri) (S : Store) (h : ∀ t ∈ ts, t.2.1.natAbs < 2 ^ 64 ∧ t.2.2.natAbs < 2 ^ 64) : s_weight_pair [.tup (ts.map stepD)] S = .ok (.tup [.int (prodI (cs ts)), .int (prodI (tt ts))]) S := by
  obtain ⟨s3', s4', s5', e⟩ := weight_loop (.val (.tup (ts.map stepD))) S ts 1 1 .no .no .no h
  rw [Int.one_mul, Int.one_mul] at e
  simp [s_weight_pair, b_weight_pair, R.bind, e]
theorem mov_course_eq (xs : List Nat) (size : Nat) (g m : Int) (S : Store) (hS : Store.flat S = true) (h : ∀ x ∈ xs, x < size) (hs0 : 2 ≤ size) (hs : size ≤ 1000) (hl : xs.length ≤ 16777216) :
    s_moving_course [tn xs, nI size, rl g m] S = .ok (.tup ((movS g m (List.replicate size 1) xs).map stepD)) S := by
  have e0 : ∀ a b : D, opIx (.tup [a, b]) (.int 0) = some a := fun _ _ => rfl
  simp [s_moving_course, b_moving_course, R.bind, mov_walk_eq xs size g m S hS h hs0 hs hl, e0]
theorem renewal_eq (xs : List Nat) (size : Nat) (g m : Int) (S : Store) (hS : Store.flat S = true) (h : ∀ x ∈ xs, x < size) (hs0 : 2 ≤ size) (hs : size ≤ 1000) (hl : xs.length ≤ 16777216) :
    s_renewal_places [tn xs, nI size, rl g m] S = .ok (tn (renS g m (List.replicate size 1) 0 xs)) S := by
  have e0 : ∀ a b : D, opIx (.tup [a, b]) (.int 1) = some b := fun _ _ => rfl
  simp [s_renewal_places, b_renewal_places, R.bind, mov_walk_eq xs size g m S hS h hs0 hs hl, e0]
theorem size_eq (n : Nat) (S : Store) : s_size_of [nI n] S = .ok (nI (if n = 0 then 0 else n.log2 + 1)) S := by
  by_cases h : n = 0
  · subst h; rfl
  · simp [s_size_of, b_size_of, R.bind, PySem.Builtin.Int.intBits, h]
/-! ### the coder -/
abbrev stD (l w s : Nat) : D := .tup [nI l, nI w, nI s]
structure Good (t : Tri) (a b T : Nat) : Prop where
  e : t = ((a : Int), (b : Int), (T : Int))
  b1 : 1 ≤ b
  ab : a + b ≤ T
  T1 : T ≤ 4096
theorem shift_loop (a b : Slot) (q : List Slot) (S : Store) : ∀ (k n l w s : Nat), 1 ≤ w → 16777216 ≤ w * 256 ^ k → k < n → l < 2 ^ s → w ≤ 2 ^ s → s + 8 * k < 100000 →
    ∃ k', k' ≤ k ∧ 16777216 ≤ w * 256 ^ k' ∧ runWhile (strict (tst (ebin opLt (evar 3) (ec (.int 16777216))))) (spar3 2 3 4 (strict (econs (ebin opShl (evar 2) (ec (.int 8))) (econs (ebin opShl (evar 3) (ec (.int 8))) (econs (ebin opAdd (evar 4) (ec (.int 8))) enil))))) n
      (a :: b :: .val (nI l) :: .val (nI w) :: .val (nI s) :: q) S = .nx (a :: b :: .val (nI (l * 256 ^ k')) :: .val (nI (w * 256 ^ k')) :: .val (nI (s + 8 * k')) :: q) S := by
  intro k
  induction k with
  | zero =>
    intro n l w s h1 h2 h3 _ _ _
    obtain ⟨n, rfl⟩ : ∃ m, n = m + 1 := ⟨n - 1, by omega⟩
    refine ⟨0, Nat.le_refl _, h2, ?_⟩
    have lk : look (hide (a :: b :: .val (nI l) :: .val (nI w) :: .val (nI s) :: q)) 3 = some (nI w) := by cases a <;> cases b <;> rfl
    have c : ¬ ((w : Int) < 16777216) := by simp at h2; omega
    rw [ev_runWhileS]
    simp [R.bind, lk, c]
  | succ k ih =>
    intro n l w s h1 h2 h3 h4 h5 h6
    obtain ⟨n, rfl⟩ : ∃ m, n = m + 1 := ⟨n - 1, by omega⟩
    have lk : look (hide (a :: b :: .val (nI l) :: .val (nI w) :: .val (nI s) :: q)) 3 = some (nI w) ∧ look (hide (a :: b :: .val (nI l) :: .val (nI w) :: .val (nI s) :: q)) 2 = some (nI l) ∧ look (hide (a :: b :: .val (nI l) :: .val (nI w) :: .val (nI s) :: q)) 4 = some (nI s) := by cases a <;> cases b <;> exact ⟨rfl, rfl, rfl⟩
    by_cases c : (w : Int) < 16777216
    · have e : 2 ^ s * 256 = 2 ^ (s + 8) := by rw [Nat.pow_add]
      obtain ⟨k', g1, g2, g3⟩ := ih n (l * 256) (w * 256) (s + 8) (by omega) (by rw [Nat.mul_assoc, Nat.mul_comm 256, ← Nat.pow_succ]; exact h2) (by omega) (by rw [← e]; omega) (by rw [← e]; omega) (by omega)
      refine ⟨k' + 1, by omega, by rw [Nat.pow_succ, Nat.mul_comm (256 ^ k'), ← Nat.mul_assoc]; exact g2, ?_⟩
      have z1 : l.log2 < 10000000 := Nat.lt_trans (log2_of l (s + 1) (by rw [Nat.pow_succ]; omega) (by omega)) (by omega)
      have z2 : w.log2 < 10000000 := Nat.lt_trans (log2_of w (s + 1) (by rw [Nat.pow_succ]; have := Nat.two_pow_pos s; omega) (by omega)) (by omega)
      rw [ev_runWhileS]
      have t1 : (l : Int) * 256 = ((l * 256 : Nat) : Int) := by omega
      have t2 : (w : Int) * 256 = ((w * 256 : Nat) : Int) := by omega
      have t3 : (s : Int) + 8 = ((s + 8 : Nat) : Int) := by omega
      rw [Nat.pow_succ, Nat.mul_comm (256 ^ k'), ← Nat.mul_assoc, ← Nat.mul_assoc, show s + 8 * (k' + 1) = s + 8 + 8 * k' by omega, ← g3]
      simp only [R.bind, ev_strict, ev_tst, ev_ebin, ev_evar, ev_ec, lk, ev_lt, c, decide_true, ev_spar3, ev_econs, ev_enil, ev_shl, ev_add]
      rw [if_pos (show (0 : Int) ≤ 8 ∧ (8 : Int) ≤ 1000000 ∧ (l : Int).natAbs.log2 < 10000000 from ⟨by decide, by decide, z1⟩), if_pos (show (0 : Int) ≤ 8 ∧ (8 : Int) ≤ 1000000 ∧ (w : Int).natAbs.log2 < 10000000 from ⟨by decide, by decide, z2⟩)]
      show runWhile _ _ n (a :: b :: .val (.int ((l : Int) * 256)) :: .val (.int ((w : Int) * 256)) :: .val (.int ((s : Int) + 8)) :: q) S = _
      rw [t1, t2, t3]
    · refine ⟨0, by omega, by simp; omega, ?_⟩
      rw [ev_runWhileS]
      simp [R.bind, lk, c]
theorem coded_eq (l w s a b T : Nat) (S : Store) (h1 : 16777216 ≤ w) (h2 : l + w ≤ 2 ^ s) (h3 : s < 90000) (hb : 1 ≤ b) (hab : a + b ≤ T) (hT : T ≤ 4096) :
    ∃ l' w' s', s_coded_state [stD l w s, .tup [nI a, nI b, nI T]] S = .ok (stD l' w' s') S ∧ 16777216 ≤ w' ∧ l' + w' ≤ 2 ^ s' ∧ s' ≤ s + 16 ∧ w * b * 4095 * 2 ^ s' ≤ w' * T * 4096 * 2 ^ s := by
  have hT0 : 0 < T := by omega
  have u1 : w / T * T ≤ w := Nat.div_mul_le_self w T
  have u2 : w < (w / T + 1) * T := by rw [Nat.add_mul, Nat.one_mul]; exact Nat.lt_div_mul_add hT0
  have u3 : 4096 ≤ w / T := (Nat.le_div_iff_mul_le hT0).mpr (by omega)
  generalize hu : w / T = u at u1 u2 u3
  have w1 : 4096 ≤ u * b := Nat.le_trans u3 (Nat.le_mul_of_pos_right u hb)
  have w2 : u * a + u * b ≤ w := by
    rw [← Nat.mul_add]
    exact Nat.le_trans (Nat.mul_le_mul_left u hab) u1
  obtain ⟨k, k1, k2, k3⟩ := shift_loop (.val (stD l w s)) (.val (.tup [nI a, nI b, nI T])) [.val (nI a), .val (nI b), .val (nI T), .val (nI u)] S 2 FUEL (l + u * a) (u * b) s (by omega) (by omega) (Nat.lt_of_lt_of_le (by decide) fuel_big) (by omega) (by omega) (by omega)
  refine ⟨(l + u * a) * 256 ^ k, u * b * 256 ^ k, s + 8 * k, ?_, k2, ?_, by omega, ?_⟩
  · have d1 : (w : Int) / (T : Int) = (u : Int) := by rw [← hu]; exact (Int.natCast_ediv w T).symm
    have d2 : T.log2 < 9000 := Nat.lt_trans (log2_of T 13 (by omega) (by decide)) (by decide)
    have m1 : mulOk (u : Int) (a : Int) = true := mulOk_r _ _ (by simp; omega)
    have m2 : mulOk (u : Int) (b : Int) = true := mulOk_r _ _ (by simp; omega)
    have e1 : (l : Int) + (u : Int) * (a : Int) = ((l + u * a : Nat) : Int) := by simp
    have e2 : (u : Int) * (b : Int) = ((u * b : Nat) : Int) := by simp
    have d3 : (0 : Int) < T := by omega
    have k3' : runWhile (strict (tst (ebin opLt (evar 3) (ec (.int 16777216))))) (spar3 2 3 4 (strict (econs (ebin opShl (evar 2) (ec (.int 8))) (econs (ebin opShl (evar 3) (ec (.int 8))) (econs (ebin opAdd (evar 4) (ec (.int 8))) enil))))) FUEL
        [.val (stD l w s), .val (.tup [nI a, nI b, nI T]), .val (.int ((l : Int) + (u : Int) * (a : Int))), .val (.int ((u : Int) * (b : Int))), .val (nI s), .val (nI a), .val (nI b), .val (nI T), .val (.int (u : Int))] S = .nx [.val (stD l w s), .val (.tup [nI a, nI b, nI T]), .val (nI ((l + u * a) * 256 ^ k)), .val (nI (u * b * 256 ^ k)), .val (nI (s + 8 * k)), .val (nI a), .val (nI b), .val (nI T), .val (nI u)] S := by
      rw [e1, e2]
      exact k3
    simp [s_coded_state, b_coded_state, R.bind, d1, d2, hT0, m1, m2, k3']
  · rw [Nat.pow_add, Nat.pow_mul, show (2 ^ 8 : Nat) = 256 by decide, ← Nat.add_mul]
    exact Nat.mul_le_mul_right _ (by omega)
  · have base : w * 4095 ≤ u * T * 4096 := by
      have : w + 1 ≤ u * T + T := by rw [Nat.add_mul, Nat.one_mul] at u2; omega
      omega
    rw [Nat.pow_add, Nat.pow_mul, show (2 ^ 8 : Nat) = 256 by decide]
    have := Nat.mul_le_mul_right (b * 256 ^ k * 2 ^ s) base
    have r1 : w * b * 4095 * (2 ^ s * 256 ^ k) = w * 4095 * (b * 256 ^ k * 2 ^ s) := by ac_rfl
    have r2 : u * b * 256 ^ k * T * 4096 * 2 ^ s = u * T * 4096 * (b * 256 ^ k * 2 ^ s) := by ac_rfl
    rw [r1, r2]
    exact this
theorem first_eq (S : Store) : s_first_state [] S = .ok (stD 0 (2 ^ 32) 32) S := by
  simp [s_first_state, b_first_state, R.bind, show Nat.log2 1 < 10000000 by decide]
/-- products over the steps -/
def prodN : List Nat → Nat
  | [] => 1
  | x :: r => x * prodN r
abbrev NT := Nat × Nat × Nat
def castT (t : NT) : Tri := ((t.1 : Int), (t.2.1 : Int), (t.2.2 : Int))
def GoodN (t : NT) : Prop := 1 ≤ t.2.1 ∧ t.1 + t.2.1 ≤ t.2.2 ∧ t.2.2 ≤ 4096
def bN (ts : List NT) : List Nat := ts.map fun t => t.2.1
def tN (ts : List NT) : List Nat := ts.map fun t => t.2.2
theorem prod_cast : ∀ xs : List Nat, prodI (xs.map Int.ofNat) = ((prodN xs : Nat) : Int)
  | [] => rfl
  | x :: r => by
    show (x : Int) * prodI (r.map Int.ofNat) = ((x * prodN r : Nat) : Int)
    rw [prod_cast r]; simp
theorem cs_cast (ts : List NT) : prodI (cs (ts.map castT)) = ((prodN (bN ts) : Nat) : Int) := by
  rw [← prod_cast]
  simp [cs, bN, castT, Function.comp_def]
theorem tt_cast (ts : List NT) : prodI (tt (ts.map castT)) = ((prodN (tN ts) : Nat) : Int) := by
  rw [← prod_cast]
  simp [tt, tN, castT, Function.comp_def]
theorem state_loop (a : Slot) (S : Store) : ∀ (ts : List NT) (l w s pB pT n : Nat) (s2 : Slot), (∀ t ∈ ts, GoodN t) → 16777216 ≤ w → l + w ≤ 2 ^ s → s + 16 * ts.length < 80000 → pB * 4095 ^ n * 2 ^ s ≤ w * pT * 4096 ^ n →
    ∃ l' w' s' s2', runFor (.nm 2) (sset 1 (strict (ecall s_coded_state (econs (evar 1) (econs (evar 2) enil))))) ((ts.map castT).map stepD) [a, .val (stD l w s), s2] S = .nx [a, .val (stD l' w' s'), s2'] S ∧
      16777216 ≤ w' ∧ l' + w' ≤ 2 ^ s' ∧ s' ≤ s + 16 * ts.length ∧ pB * prodN (bN ts) * 4095 ^ (n + ts.length) * 2 ^ s' ≤ w' * (pT * prodN (tN ts)) * 4096 ^ (n + ts.length)
  | [], l, w, s, pB, pT, n, s2, _, h1, h2, h3, h4 => ⟨l, w, s, s2, by simp, h1, h2, by simp, by simpa [bN, tN, prodN] using h4⟩
  | (x, b, T) :: r, l, w, s, pB, pT, n, s2, h, h1, h2, h3, h4 => by
    obtain ⟨g1, g2, g3⟩ := h _ List.mem_cons_self
    rw [List.length_cons] at h3
    obtain ⟨l1, w1, s1, c1, c2, c3, c4, c5⟩ := coded_eq l w s x b T S h1 h2 (by omega) g1 g2 g3
    have step : pB * b * 4095 ^ (n + 1) * 2 ^ s1 ≤ w1 * (pT * T) * 4096 ^ (n + 1) := by
      have p1 := Nat.mul_le_mul_left (pT * 4096 ^ n) c5
      have p2 := Nat.mul_le_mul_right (b * 4095 * 2 ^ s1) h4
      have e1 : pB * 4095 ^ n * 2 ^ s * (b * 4095 * 2 ^ s1) = (pB * b * 4095 ^ (n + 1) * 2 ^ s1) * 2 ^ s := by rw [Nat.pow_succ]; ac_rfl
      have e2 : w * pT * 4096 ^ n * (b * 4095 * 2 ^ s1) = pT * 4096 ^ n * (w * b * 4095 * 2 ^ s1) := by ac_rfl
      have e3 : pT * 4096 ^ n * (w1 * T * 4096 * 2 ^ s) = (w1 * (pT * T) * 4096 ^ (n + 1)) * 2 ^ s := by rw [Nat.pow_succ]; ac_rfl
      rw [e1, e2] at p2
      rw [e3] at p1
      exact Nat.le_of_mul_le_mul_right (Nat.le_trans p2 p1) (Nat.two_pow_pos s)
    obtain ⟨l', w', s', s2', f1, f2, f3, f4, f5⟩ := state_loop a S r l1 w1 s1 (pB * b) (pT * T) (n + 1) (.val (stepD (castT (x, b, T)))) (fun t ht => h t (List.mem_cons_of_mem _ ht)) c2 c3 (by omega) step
    refine ⟨l', w', s', s2', ?_, f2, f3, by rw [List.length_cons]; omega, ?_⟩
    · rw [List.map_cons, List.map_cons, ev_runForC]
      have lk : look (hide [a, .val (stD l w s), .val (stepD (castT (x, b, T)))]) 1 = some (stD l w s) ∧ look (hide [a, .val (stD l w s), .val (stepD (castT (x, b, T)))]) 2 = some (.tup [nI x, nI b, nI T]) := by cases a <;> exact ⟨rfl, rfl⟩
      simp [R.bind, lk, c1, -List.map_map]
      exact f1
    · rw [List.length_cons]
      show pB * (b * prodN (bN r)) * _ * _ ≤ w' * (pT * (T * prodN (tN r))) * _
      rw [← Nat.mul_assoc pB, ← Nat.mul_assoc pT, show n + (r.length + 1) = n + 1 + r.length by omega]
      exact f5
theorem state_eq (ts : List NT) (S : Store) (h : ∀ t ∈ ts, GoodN t) (hl : 16 * ts.length < 70000) : ∃ l w s, s_state_of_steps [.tup ((ts.map castT).map stepD)] S = .ok (stD l w s) S ∧ 16777216 ≤ w ∧ l + w ≤ 2 ^ s ∧ s ≤ 32 + 16 * ts.length ∧
    prodN (bN ts) * 4095 ^ ts.length * 2 ^ s ≤ w * prodN (tN ts) * 4096 ^ ts.length := by
  obtain ⟨l, w, s, s2', f1, f2, f3, f4, f5⟩ := state_loop (.val (.tup ((ts.map castT).map stepD))) S ts 0 (2 ^ 32) 32 1 1 0 .no h (by decide) (by decide) (by omega) (by decide)
  refine ⟨l, w, s, ?_, f2, f3, f4, by simpa using f5⟩
  simp [s_state_of_steps, b_state_of_steps, R.bind, first_eq, -List.map_map]
  rw [f1]
  simp [R.bind]
end DL

end
section
set_option maxRecDepth 100000
set_option maxHeartbeats 1000000
namespace DL
theorem multiple_eq (l w s k : Nat) (S : Store) (h : l < 2 ^ s) (hs : s < 90000) (hk : k ≤ 90000) : ∃ r : Bool, s_has_multiple [stD l w s, nI k] S = .ok (.bl r) S := by
  have z : (((l : Int) - 1) / 2 ^ k + 1).natAbs.log2 < 10000000 := by
    have hp : (0 : Int) < 2 ^ k := by exact_mod_cast Nat.two_pow_pos k
    have a1 : ((l : Int) - 1) / 2 ^ k ≤ l := by
      by_cases hl : (l : Int) - 1 < 0
      · have := Int.ediv_neg_of_neg_of_pos hl hp
        omega
      · exact Int.le_trans (Int.ediv_le_self _ (by omega)) (by omega)
    have a2 : -1 ≤ ((l : Int) - 1) / 2 ^ k := by
      refine (Int.le_ediv_iff_mul_le hp).mpr ?_
      have : (1 : Int) ≤ 2 ^ k := hp
      omega
    have b : (((l : Int) - 1) / 2 ^ k + 1).natAbs < 2 ^ (s + 1) := by
      rw [Nat.pow_succ]; omega
    exact Nat.lt_trans (log2_of _ (s + 1) b (by omega)) (by omega)
  have k1 : (k : Int) ≤ 1000000 := by omega
  simp [s_has_multiple, b_has_multiple, R.bind, z, k1]
theorem figures_loop (F : Fn) (l w s : Nat) (S : Store) (hF : ∀ k, k ≤ s → ∃ r : Bool, F [stD l w s, nI k] S = .ok (.bl r) S) : ∀ (m n k : Nat), k + m = s → m < n → ∃ k', k ≤ k' ∧ k' ≤ s ∧
    runWhile (strict (band (tst (ebin opLt (evar 1) (eix (evar 0) (ec (.int 2))))) (tru (ecall F (econs (evar 0) (econs (ebin opAdd (evar 1) (ec (.int 1))) enil)))))) (saug 1 (onInts opAdd) (strict (ec (.int 1)))) n [.val (stD l w s), .val (nI k)] S = .nx [.val (stD l w s), .val (nI k')] S := by
  have e2 : opIx (stD l w s) (.int 2) = some (nI s) := rfl
  intro m
  induction m with
  | zero =>
    intro n k h1 h2
    obtain ⟨n, rfl⟩ : ∃ m, n = m + 1 := ⟨n - 1, by omega⟩
    refine ⟨k, Nat.le_refl _, by omega, ?_⟩
    rw [ev_runWhileS]
    simp [R.bind, e2, show ¬ k < s by omega]
  | succ m ih =>
    intro n k h1 h2
    obtain ⟨n, rfl⟩ : ∃ m, n = m + 1 := ⟨n - 1, by omega⟩
    obtain ⟨r, hr⟩ := hF (k + 1) (by omega)
    have hk1 : nI (k + 1) = .int ((k : Int) + 1) := rfl
    have hr' : F [stD l w s, .int ((k : Int) + 1)] S = .ok (.bl r) S := by rw [← hk1]; exact hr
    cases r with
    | false =>
      refine ⟨k, Nat.le_refl _, by omega, ?_⟩
      rw [ev_runWhileS]
      simp [R.bind, e2, show k < s by omega, hr']
    | true =>
      obtain ⟨k', g1, g2, g3⟩ := ih n (k + 1) (by omega) (by omega)
      refine ⟨k', by omega, g2, ?_⟩
      rw [ev_runWhileS, ← g3, hk1]
      simp [R.bind, e2, show k < s by omega, hr']
theorem length_eq (ts : List NT) (S : Store) (h : ∀ t ∈ ts, GoodN t) (hl : 16 * ts.length < 70000) : ∃ (w s L : Nat), s_code_length [.tup ((ts.map castT).map stepD)] S = .ok (nI L) S ∧ 16777216 ≤ w ∧ s ≤ 32 + 16 * ts.length ∧ L + w.log2 ≤ s ∧
    prodN (bN ts) * 4095 ^ ts.length * 2 ^ s ≤ w * prodN (tN ts) * 4096 ^ ts.length := by
  obtain ⟨l, w, s, e1, e2, e3, e4, e5⟩ := state_eq ts S h hl
  have w0 : w ≠ 0 := by omega
  have lw : w.log2 ≤ s := by
    have : 2 ^ w.log2 ≤ w := Nat.log2_self_le w0
    exact (Nat.pow_le_pow_iff_right (by decide)).mp (Nat.le_trans this (by omega : w ≤ 2 ^ s))
  obtain ⟨k, k1, k2, k3⟩ := figures_loop s_has_multiple l w s S (fun k hk => multiple_eq l w s k S (by omega) (by omega) (by omega)) (s - w.log2) FUEL w.log2 (by omega) (Nat.lt_of_lt_of_le (by omega) fuel_big)
  refine ⟨w, s, s - k, ?_, e2, e4, by omega, e5⟩
  have f1 : opIx (stD l w s) (.int 1) = some (nI w) := rfl
  have f2 : opIx (stD l w s) (.int 2) = some (nI s) := rfl
  have fr : s_free_figures [stD l w s] S = .ok (nI k) S := by
    have e : ((w.log2 + 1 : Nat) : Int) - 1 = (w.log2 : Nat) := by omega
    have k3' : runWhile (strict (band (tst (ebin opLt (evar 1) (eix (evar 0) (ec (.int 2))))) (tru (ecall s_has_multiple (econs (evar 0) (econs (ebin opAdd (evar 1) (ec (.int 1))) enil)))))) (saug 1 (onInts opAdd) (strict (ec (.int 1)))) FUEL [.val (stD l w s), .val (.int (((w.log2 + 1 : Nat) : Int) - 1))] S = .nx [.val (stD l w s), .val (nI k)] S := by
      rw [e]; exact k3
    simp only [s_free_figures, b_free_figures, ev_mkFn, ev_sseq, ev_sset, ev_strict, ev_ebin, ev_ecall, ev_econs, ev_enil, ev_eix, R.bind]
    simp [f1, size_eq, w0, R.bind, k3]
  have c : ((s : Int) - (k : Int)) = ((s - k : Nat) : Int) := by omega
  simp [s_code_length, b_code_length, R.bind, -List.map_map, e1, f2, fr, c]
end DL

end
section
set_option maxRecDepth 100000
set_option maxHeartbeats 1000000
namespace DL
theorem prodN_le (B : Nat) (hB : 1 ≤ B) : ∀ xs : List Nat, (∀ x ∈ xs, x ≤ B) → prodN xs ≤ B ^ xs.length
  | [], _ => Nat.le_refl _
  | x :: r, h => by
    show x * prodN r ≤ B ^ (r.length + 1)
    rw [Nat.pow_succ, Nat.mul_comm]
    exact Nat.mul_le_mul (prodN_le B hB r fun y hy => h y (List.mem_cons_of_mem _ hy)) (h x List.mem_cons_self)
theorem prodN_pos : ∀ xs : List Nat, (∀ x ∈ xs, 1 ≤ x) → 1 ≤ prodN xs
  | [], _ => Nat.le_refl _
  | x :: r, h => by
    show 1 ≤ x * prodN r
    exact Nat.mul_pos (h x List.mem_cons_self) (prodN_pos r fun y hy => h y (List.mem_cons_of_mem _ hy))
/-- the tallies of a moving walk -/
def okC (size : Nat) (c : List Int) : Prop := c.length = size ∧ (∀ x ∈ c, 1 ≤ x) ∧ c.sum ≤ 4096
theorem sum_set (c : List Int) (j : Nat) (y : Int) (h : j < c.length) : (c.set j y).sum = c.sum + (y - c.getD j 0) := by
  induction c generalizing j with
  | nil => simp at h
  | cons x r ih =>
    cases j with
    | zero => simp; omega
    | succ j =>
      have := ih j (by simpa using h)
      simp at this ⊢
      omega
theorem sum_bump (c : List Int) (j : Nat) (g : Int) (h : j < c.length) : (bump c j g).sum = c.sum + g := by
  unfold bump
  rw [sum_set _ _ _ h]; omega
theorem mem_bump {c : List Int} {j : Nat} {g x : Int} (h : x ∈ bump c j g) : x ∈ c ∨ x = c.getD j 0 + g := by
  unfold bump at h
  exact List.mem_or_eq_of_mem_set h
theorem getD_mem' {c : List Int} {j : Nat} (h : j < c.length) : c.getD j 0 ∈ c := by
  rw [List.getD_eq_getElem?_getD, List.getElem?_eq_getElem h]
  exact List.getElem_mem h
theorem half_sum : ∀ c : List Int, 2 * (c.map fun x => (x + 1) / 2).sum ≤ c.sum + c.length
  | [] => by simp
  | x :: r => by
    have := half_sum r
    simp only [List.map_cons, List.sum_cons, List.length_cons]
    omega
theorem grow_ok {size : Nat} {c : List Int} {j : Nat} {g : Int} (h : okC size c) (hs : size ≤ 32) (hg : 1 ≤ g) (hg2 : g ≤ 32) (hj : j < size) : okC size (grow c j g 4096) := by
  obtain ⟨h1, h2, h3⟩ := h
  have hj' : j < c.length := by rw [h1]; exact hj
  have mem : ∀ x ∈ bump c j g, 1 ≤ x := fun x hx => by
    rcases mem_bump hx with q | q
    · exact h2 x q
    · have := h2 _ (getD_mem' hj')
      omega
  have sb := sum_bump c j g hj'
  refine ⟨by rw [grow_len]; exact h1, ?_⟩
  unfold grow
  split
  · refine ⟨fun x hx => ?_, ?_⟩
    · obtain ⟨y, hy, rfl⟩ := List.mem_map.mp hx
      have := mem y hy
      omega
    · have := half_sum (bump c j g)
      rw [bump_len] at this
      omega
  · refine ⟨mem, ?_⟩
    omega
theorem sum_nn : ∀ c : List Int, (∀ x ∈ c, 1 ≤ x) → 0 ≤ c.sum
  | [], _ => by simp
  | x :: r, h => by
    have := sum_nn r fun y hy => h y (List.mem_cons_of_mem _ hy)
    have := h x List.mem_cons_self
    simp only [List.sum_cons]
    omega
theorem take_get (c : List Int) (j : Nat) (h : j < c.length) : c.sum = (c.take j).sum + c.getD j 0 + (c.drop (j + 1)).sum := by
  have e : c = c.take j ++ c.getD j 0 :: c.drop (j + 1) := by
    rw [List.getD_eq_getElem?_getD, List.getElem?_eq_getElem h]
    show c = c.take j ++ c[j] :: c.drop (j + 1)
    rw [← List.drop_eq_getElem_cons h, List.take_append_drop]
  conv => lhs; rw [e]
  rw [List.sum_append, List.sum_cons]
  omega
theorem tally_good {size : Nat} {c : List Int} {j : Nat} (h : okC size c) (hj : j < size) : ∃ t : NT, GoodN t ∧ castT t = tally c j := by
  obtain ⟨h1, h2, h3⟩ := h
  have hj' : j < c.length := by rw [h1]; exact hj
  have a1 := sum_nn (c.take j) fun x hx => h2 x (List.mem_of_mem_take hx)
  have a2 := sum_nn (c.drop (j + 1)) fun x hx => h2 x (List.mem_of_mem_drop hx)
  have a3 := h2 _ (getD_mem' hj')
  have a4 := take_get c j hj'
  refine ⟨((c.take j).sum.toNat, (c.getD j 0).toNat, c.sum.toNat), ⟨by simp only []; omega, by simp only []; omega, by simp only []; omega⟩, ?_⟩
  unfold castT tally
  simp only []
  rw [Int.toNat_of_nonneg a1, Int.toNat_of_nonneg (by omega), Int.toNat_of_nonneg (by omega)]
theorem mov_good {size : Nat} {g : Int} (hs : size ≤ 32) (hg : 1 ≤ g) (hg2 : g ≤ 32) : ∀ (xs : List Nat) (c : List Int), okC size c → (∀ x ∈ xs, x < size) → ∃ ts : List NT, (∀ t ∈ ts, GoodN t) ∧ ts.map castT = movS g 4096 c xs
  | [], _, _, _ => ⟨[], by simp, rfl⟩
  | x :: r, c, h, hx => by
    obtain ⟨t, t1, t2⟩ := tally_good h (hx x List.mem_cons_self)
    obtain ⟨ts, s1, s2⟩ := mov_good hs hg hg2 r (grow c x g 4096) (grow_ok h hs hg hg2 (hx x List.mem_cons_self)) fun y hy => hx y (List.mem_cons_of_mem _ hy)
    refine ⟨t :: ts, fun u hu => ?_, ?_⟩
    · rcases List.mem_cons.mp hu with e | e
      · rw [e]; exact t1
      · exact s1 u e
    · show castT t :: ts.map castT = tally c x :: movS g 4096 (grow c x g 4096) r
      rw [t2, s2]
theorem even_ok {size : Nat} (hs : size ≤ 4096) : okC size (List.replicate size 1) := by
  refine ⟨by simp, fun x hx => ?_, ?_⟩
  · rw [List.eq_of_mem_replicate hx]; decide
  · have : ∀ n : Nat, (List.replicate n (1 : Int)).sum = n := fun n => by
      induction n with
      | zero => rfl
      | succ n ih => rw [List.replicate_succ, List.sum_cons, ih]; omega
    rw [this]; omega
end DL

end
section
set_option maxRecDepth 100000
set_option maxHeartbeats 1000000
namespace DL
theorem loss_loop (a b : Slot) (S : Store) : ∀ (ds : List D) (x y : Nat) (s4 : Slot), ∃ s4', runFor (.nm 4) (spar 2 3 (strict (econs (ebin opMul (evar 2) (ebin opSub (ec (.int 4096)) (ec (.int 1)))) (econs (ebin opMul (evar 3) (ec (.int 4096))) enil)))) ds [a, b, .val (nI x), .val (nI y), s4] S
    = .nx [a, b, .val (nI (x * 4095 ^ ds.length)), .val (nI (y * 4096 ^ ds.length)), s4'] S
  | [], x, y, s4 => ⟨s4, by simp⟩
  | d :: r, x, y, s4 => by
    obtain ⟨s4', ih⟩ := loss_loop a b S r (x * 4095) (y * 4096) (.val d)
    refine ⟨s4', ?_⟩
    have lk : look (hide [a, b, .val (nI x), .val (nI y), .val d]) 2 = some (nI x) ∧ look (hide [a, b, .val (nI x), .val (nI y), .val d]) 3 = some (nI y) := by cases a <;> cases b <;> exact ⟨rfl, rfl⟩
    have m1 : ∀ z : Int, mulOk z 4095 = true := fun z => mulOk_r _ _ (by decide)
    have m2 : ∀ z : Int, mulOk z 4096 = true := fun z => mulOk_r _ _ (by decide)
    have e1 : (x : Int) * 4095 = ((x * 4095 : Nat) : Int) := by omega
    have e2 : (y : Int) * 4096 = ((y * 4096 : Nat) : Int) := by omega
    rw [ev_runForC]
    rw [List.length_cons, Nat.pow_succ, Nat.pow_succ, Nat.mul_comm _ 4095, Nat.mul_comm _ 4096, ← Nat.mul_assoc, ← Nat.mul_assoc, ← ih]
    simp [R.bind, lk, m1, m2]
    rw [e1, e2]
theorem within_law (PB PT n w s L : Nat) (hb : 1 ≤ PB) (hw : 1 ≤ w) (h : PB * 4095 ^ n * 2 ^ s ≤ w * PT * 4096 ^ n) (hL : L + w.log2 ≤ s) (h0 : 0 < L) : PB * 4095 ^ n * 2 ^ (L - 1) < PT * 4096 ^ n := by
  have C0 : 0 < PB * 4095 ^ n := Nat.mul_pos hb (Nat.pow_pos (by decide))
  have p : 2 ^ (L - 1) * w < 2 ^ s := by
    have a1 : w < 2 ^ (w.log2 + 1) := Nat.lt_log2_self
    have a2 : 2 ^ (L - 1) * 2 ^ (w.log2 + 1) ≤ 2 ^ s := by
      rw [← Nat.pow_add]
      exact Nat.pow_le_pow_right (by decide) (by omega)
    exact Nat.lt_of_lt_of_le (Nat.mul_lt_mul_of_pos_left a1 (Nat.two_pow_pos _)) a2
  have q : (PB * 4095 ^ n * 2 ^ (L - 1)) * w < (PT * 4096 ^ n) * w := by
    have b1 : (PB * 4095 ^ n) * (2 ^ (L - 1) * w) < (PB * 4095 ^ n) * 2 ^ s := Nat.mul_lt_mul_of_pos_left p C0
    have e1 : (PB * 4095 ^ n * 2 ^ (L - 1)) * w = (PB * 4095 ^ n) * (2 ^ (L - 1) * w) := by ac_rfl
    have e2 : (PT * 4096 ^ n) * w = w * PT * 4096 ^ n := by ac_rfl
    rw [e1, e2]
    exact Nat.lt_of_lt_of_le b1 h
  exact Nat.lt_of_mul_lt_mul_right q
theorem within_eq (ts : List NT) (S : Store) (w s L : Nat) (h : ∀ t ∈ ts, GoodN t) (hl : ts.length ≤ 240) (hw : 1 ≤ w) (hs : s ≤ 32 + 16 * ts.length) (hL : L + w.log2 ≤ s)
    (hi : prodN (bN ts) * 4095 ^ ts.length * 2 ^ s ≤ w * prodN (tN ts) * 4096 ^ ts.length) : s_is_within_weight [.tup ((ts.map castT).map stepD), nI L] S = .ok (.bl true) S := by
  have wp : s_weight_pair [.tup ((ts.map castT).map stepD)] S = .ok (.tup [nI (prodN (bN ts)), nI (prodN (tN ts))]) S := by
    rw [weight_eq _ S fun t ht => ?_, cs_cast, tt_cast]
    obtain ⟨u, hu, rfl⟩ := List.mem_map.mp ht
    obtain ⟨g1, g2, g3⟩ := h u hu
    have e1 : (castT u).2.1.natAbs = u.2.1 := rfl
    have e2 : (castT u).2.2.natAbs = u.2.2 := rfl
    rw [e1, e2]
    omega
  have L2 : L ≤ 20000 := by omega
  by_cases h0 : L = 0
  · subst h0
    simp [s_is_within_weight, b_is_within_weight, R.bind]
  · obtain ⟨s4', lp⟩ := loss_loop (.val (.tup ((ts.map castT).map stepD))) (.val (nI L)) S ((ts.map castT).map stepD) (prodN (bN ts)) (prodN (tN ts)) .no
    rw [List.length_map, List.length_map] at lp
    have fin := within_law (prodN (bN ts)) (prodN (tN ts)) ts.length w s L (prodN_pos _ fun x hx => by
      obtain ⟨u, hu, rfl⟩ := List.mem_map.mp hx
      exact (h u hu).1) hw hi hL (by omega)
    have big : (prodN (bN ts) * 4095 ^ ts.length).log2 < 10000000 := by
      have b1 : prodN (bN ts) ≤ 4096 ^ ts.length := by
        have := prodN_le 4096 (by decide) (bN ts) fun x hx => by
          obtain ⟨u, hu, rfl⟩ := List.mem_map.mp hx
          obtain ⟨g1, g2, g3⟩ := h u hu
          omega
        simpa [bN] using this
      have b2 : (4095 : Nat) ^ ts.length ≤ 4096 ^ ts.length := Nat.pow_le_pow_left (by decide) _
      have b3 : prodN (bN ts) * 4095 ^ ts.length ≤ 4096 ^ ts.length * 4096 ^ ts.length := Nat.mul_le_mul b1 b2
      have b4 : (4096 : Nat) ^ ts.length * 4096 ^ ts.length = 2 ^ (24 * ts.length) := by
        rw [← Nat.mul_pow, Nat.pow_mul]
      have b5 : prodN (bN ts) * 4095 ^ ts.length < 2 ^ (24 * ts.length + 1) := by
        rw [Nat.pow_succ]
        have := Nat.two_pow_pos (24 * ts.length)
        omega
      exact Nat.lt_trans (log2_of _ _ b5 (by omega)) (by omega)
    generalize prodN (bN ts) * 4095 ^ ts.length = C at lp fin big
    generalize prodN (tN ts) * 4096 ^ ts.length = T at lp fin
    have sh : opShl (nI C) (.int ((L : Int) - 1)) = some (nI (C * 2 ^ (L - 1))) := by
      have e : (L : Int) - 1 = ((L - 1 : Nat) : Int) := by omega
      rw [e, ev_shl, if_pos ⟨by omega, by omega, big⟩]
      simp
    simp [s_is_within_weight, b_is_within_weight, R.bind, -List.map_map, h0, show ¬ (20000 : Int) < (L : Int) by omega, wp, lp, sh]
    exact_mod_cast fin
end DL

end
section
set_option maxRecDepth 100000
set_option maxHeartbeats 1000000
namespace DL
/-! ### _law_is -/
theorem is_int (n : Nat) (i : Int) (S : Store) : s__law_is (n + 1) [.int i, .int i] S = .ok (.bl true) S := by
  simp [s__law_is, b__law_is, s__law_is_integer, b__law_is_integer, R.bind, opIs, D.isNon, D.isT]
theorem is_bool (n : Nat) (i : Bool) (S : Store) : s__law_is (n + 1) [.bl i, .bl i] S = .ok (.bl true) S := by
  cases i <;> simp [s__law_is, b__law_is, R.bind, opIs, D.isNon, D.isT, opEq, D.scl, D.eq]
theorem fAll_true (n : Nat) : fAll [.lst (List.replicate n (.bl true))] = some (.bl true) := by
  have : D.bls (List.replicate n (.bl true)) = some (List.replicate n true) := by
    induction n with
    | zero => rfl
    | succ n ih => rw [List.replicate_succ]; show (D.bls _).map _ = _; rw [ih]; rfl
  show (D.bls _).map _ = _
  rw [this]
  simp
theorem is_tup (n : Nat) (xs : List D) (S : Store) (hl : xs.length ≤ 16777216) (h : ∀ d ∈ xs, s__law_is n [d, d] S = .ok (.bl true) S) : s__law_is (n + 1) [.tup xs, .tup xs] S = .ok (.bl true) S := by
  have lc : runLc (.nm 2) tyes (ecall (s__law_is n) (econs (eix (evar 0) (evar 2)) (econs (eix (evar 1) (evar 2)) enil))) [.val (.tup xs), .val (.tup xs), .no] ((List.range xs.length).map nI) S = .ok (List.replicate xs.length (.bl true)) S := by
    rw [runLc_to nI (fun _ => D.bl true) _ fun i hi => ⟨_, rfl, ?_⟩]
    · rw [List.map_const', List.length_range]
    · have lt : i < xs.length := List.mem_range.mp hi
      have e : opIx (.tup xs) (nI i) = some xs[i] := by rw [ix_tup]; simp [lt]
      generalize s__law_is n = F at h ⊢
      simp [R.bind, e, h xs[i] (List.getElem_mem lt)]
  have rg : irng1 (econs (elen (evar 1)) enil) [.val (.tup xs), .val (.tup xs), .no] S = .ok ((List.range xs.length).map nI) S := irng1_nat (by simp [R.bind]) hl
  generalize hF : s__law_is n = F at lc
  have u : s__law_is (n + 1) = mkFn 2 3 (b__law_is F) := by rw [← hF]; rfl
  rw [u]
  simp [b__law_is, R.bind, opIs, D.isNon, D.isT, wipeG, rg, lc, fAll_true, hl]
theorem is_pair (a b : Int) (S : Store) : s__law_is 8 [.tup [.int a, .int b], .tup [.int a, .int b]] S = .ok (.bl true) S :=
  is_tup 7 _ S (show 2 ≤ 16777216 by decide) fun d hd => by
    rcases List.mem_cons.mp hd with e | e
    · rw [e]; exact is_int 6 a S
    · rcases List.mem_cons.mp e with e | e
      · rw [e]; exact is_int 6 b S
      · cases e
theorem is_ints (xs : List Int) (S : Store) (hl : xs.length ≤ 16777216) : s__law_is 8 [tI' xs, tI' xs] S = .ok (.bl true) S :=
  is_tup 7 _ S (by simpa using hl) fun d hd => by
    obtain ⟨x, _, rfl⟩ := List.mem_map.mp hd
    exact is_int 6 x S
/-! ### powers, faculties -/
theorem times_loop (a b : Slot) (S : Store) (x : Int) (ha : a = .val (.int x)) (hx : x.natAbs < 2 ^ 64) : ∀ (ds : List D) (y : Int) (s3 : Slot), ∃ s3', runFor (.nm 3) (sset 2 (strict (ebin opMul (evar 2) (evar 0)))) ds [a, b, .val (.int y), s3] S = .nx [a, b, .val (.int (y * x ^ ds.length)), s3'] S
  | [], y, s3 => ⟨s3, by simp⟩
  | d :: r, y, s3 => by
    obtain ⟨s3', ih⟩ := times_loop a b S x ha hx r (y * x) (.val d)
    refine ⟨s3', ?_⟩
    have lk : look (hide [a, b, .val (.int y), .val d]) 2 = some (.int y) ∧ look (hide [a, b, .val (.int y), .val d]) 0 = some (.int x) := by subst ha; cases b <;> exact ⟨rfl, rfl⟩
    rw [ev_runForC, List.length_cons, Int.pow_succ, Int.mul_comm _ x, ← Int.mul_assoc, ← ih]
    simp [R.bind, lk, mulOk_r _ _ hx]
theorem times_eq (x : Int) (n : Nat) (S : Store) (hx : x.natAbs < 2 ^ 64) (hn : n ≤ 16777216) : s__law_times [.int x, nI n] S = .ok (.int (x ^ n)) S := by
  obtain ⟨s3', e⟩ := times_loop (.val (.int x)) (.val (nI n)) S x rfl hx ((List.range n).map nI) 1 .no
  have rg : irng1 (econs (evar 1) enil) [.val (.int x), .val (nI n), .val (.int 1), .no] S = .ok ((List.range n).map nI) S := irng1_nat (by simp [R.bind]) hn
  rw [List.length_map, List.length_range, Int.one_mul] at e
  simp [s__law_times, b__law_times, R.bind, rg, e]
def facI : Nat → Int
  | 0 => 1
  | n + 1 => ((n : Int) + 1) * facI n
theorem fac_loop (a : Slot) (S : Store) : ∀ (n k : Nat) (y : Int) (s2 : Slot), k + n ≤ 16777216 → y = facI k → ∃ s2', runFor (.nm 2) (sset 1 (strict (ebin opMul (evar 1) (evar 2)))) ((List.range' k n).map fun i => nI (i + 1)) [a, .val (.int y), s2] S = .nx [a, .val (.int (facI (k + n))), s2'] S
  | 0, k, y, s2, _, h => ⟨s2, by simp [h]⟩
  | n + 1, k, y, s2, hk, h => by
    obtain ⟨s2', ih⟩ := fac_loop a S n (k + 1) (facI (k + 1)) (.val (nI (k + 1))) (by omega) rfl
    refine ⟨s2', ?_⟩
    have lk : look (hide [a, .val (.int y), .val (nI (k + 1))]) 1 = some (.int y) ∧ look (hide [a, .val (.int y), .val (nI (k + 1))]) 2 = some (nI (k + 1)) := by cases a <;> exact ⟨rfl, rfl⟩
    have m : mulOk y ((k + 1 : Nat) : Int) = true := mulOk_r _ _ (by omega)
    have e : y * ((k + 1 : Nat) : Int) = facI (k + 1) := by rw [h]; show _ = ((k : Int) + 1) * facI k; rw [Int.mul_comm]; rfl
    have b : sset 1 (strict (ebin opMul (evar 1) (evar 2))) [a, .val (.int y), .val (nI (k + 1))] S = .nx [a, .val (.int (facI (k + 1))), .val (nI (k + 1))] S := by
      rw [ev_sset, ev_strict, ev_ebin, ev_evar, lk.1]
      simp only [R.bind, ev_evar, lk.2, ev_mul, m, if_true, e]
      rfl
    rw [List.range'_succ, List.map_cons, ev_runForC, show k + (n + 1) = k + 1 + n by omega]
    show (match sset 1 (strict (ebin opMul (evar 1) (evar 2))) [a, .val (.int y), .val (nI (k + 1))] S with | .nx G2 S2 => _ | .ct G2 S2 => _ | .bk G2 S2 => _ | z => _) = _
    rw [b]
    exact ih
theorem fac_eq (n : Nat) (S : Store) (hn : n ≤ 16777215) : s__law_faculty [nI n] S = .ok (.int (facI n)) S := by
  have rg : rngD 2 ((n : Int) + 1 - 2).toNat = (List.range' 1 (n - 1)).map fun i => nI (i + 1) := by
    have e : ((n : Int) + 1 - 2).toNat = n - 1 := by omega
    rw [e]
    refine List.ext_getElem (by simp [rngD]) fun i h1 h2 => ?_
    simp [rngD]
    omega
  have lp : ∃ s2', runFor (.nm 2) (sset 1 (strict (ebin opMul (evar 1) (evar 2)))) ((List.range' 1 (n - 1)).map fun i => nI (i + 1)) [.val (nI n), .val (.int 1), .no] S = .nx [.val (nI n), .val (.int (facI n)), s2'] S := by
    by_cases z : n = 0
    · subst z; exact ⟨.no, rfl⟩
    · obtain ⟨s2', e⟩ := fac_loop (.val (nI n)) S (n - 1) 1 1 .no (by omega) rfl
      rw [show 1 + (n - 1) = n by omega] at e
      exact ⟨s2', e⟩
  obtain ⟨s2', lp⟩ := lp
  have r2 : irng2 (econs (ec (.int 2)) (econs (ebin opAdd (evar 0) (ec (.int 1))) enil)) [.val (nI n), .val (.int 1), .no] S = .ok ((List.range' 1 (n - 1)).map fun i => nI (i + 1)) S := by
    rw [irng2_nat (S1 := S) (i := 2) (j := (n : Int) + 1) (by simp [R.bind]) (by omega) (by omega), rg]
  simp [s__law_faculty, b__law_faculty, R.bind, r2, lp]
end DL

end
section
set_option maxRecDepth 100000
set_option maxHeartbeats 1000000
namespace DL
theorem prodI_change {x : Nat} {k : Int} {f g : Nat → Int} : ∀ L : List Nat, L.Nodup → x ∈ L → f x = k * g x → (∀ i, i ≠ x → f i = g i) → prodI (L.map f) = k * prodI (L.map g)
  | [], _, h, _, _ => by simp at h
  | y :: r, n, h, e, o => by
    rw [List.nodup_cons] at n
    show f y * prodI (r.map f) = k * (g y * prodI (r.map g))
    by_cases z : y = x
    · have same : r.map f = r.map g := List.map_congr_left fun i hi => o i fun q => n.1 (z ▸ q ▸ hi)
      rw [same, z, e, Int.mul_assoc]
    · have hx : x ∈ r := by
        rcases List.mem_cons.mp h with q | q
        · exact absurd q.symm z
        · exact q
      rw [prodI_change r n.2 hx e o, o y z, ← Int.mul_assoc, Int.mul_comm (g y) k, Int.mul_assoc]
/-- a product over the counts -/
def PF (F : Nat → Nat → Int) (xs : List Nat) (size : Nat) : Int := prodI ((List.range size).map fun j => F j (xs.count j))
theorem PF_step {F : Nat → Nat → Int} {xs ys : List Nat} {size x : Nat} {k : Int} (hx : x < size) (h1 : F x (ys.count x) = k * F x (xs.count x)) (h2 : ∀ i, i ≠ x → ys.count i = xs.count i) : PF F ys size = k * PF F xs size :=
  prodI_change (x := x) (f := fun j => F j (ys.count j)) (g := fun j => F j (xs.count j)) _ List.nodup_range (List.mem_range.mpr hx) h1 fun i hi => by rw [h2 i hi]
theorem PF_nil {F : Nat → Nat → Int} {size : Nat} (h : ∀ j, F j 0 = 1) : PF F [] size = 1 := by
  unfold PF
  have : ∀ L : List Nat, prodI (L.map fun j => F j (([] : List Nat).count j)) = 1 := fun L => by
    induction L with
    | nil => rfl
    | cons a r ih => show F a 0 * prodI _ = 1; rw [ih, h]; rfl
  exact this _
theorem count_other {x i : Nat} (r : List Nat) (h : i ≠ x) : (x :: r).count i = r.count i := by
  simp [List.count_cons, Ne.symm h]
theorem count_snoc_other {x i : Nat} (r : List Nat) (h : i ≠ x) : (r ++ [x]).count i = r.count i := by
  have : List.count i [x] = 0 := by simp [List.count_cons, Ne.symm h]
  simp [this]
theorem sum_cnt (size : Nat) : ∀ xs : List Nat, (∀ x ∈ xs, x < size) → (cnt xs size).sum = xs.length
  | [], _ => by
    rw [cnt_nil]
    have : ∀ n : Nat, (List.replicate n (0 : Int)).sum = 0 := fun n => by
      induction n with
      | zero => rfl
      | succ n ih => rw [List.replicate_succ, List.sum_cons, ih]; rfl
    rw [this]; rfl
  | x :: r, h => by
    have ih := sum_cnt size r fun y hy => h y (List.mem_cons_of_mem _ hy)
    have hx := h x List.mem_cons_self
    have e := cnt_cons r size x hx
    have b := sum_bump (cnt (x :: r) size) x (-1) (by rw [cnt_len]; exact hx)
    rw [e, ih] at b
    rw [List.length_cons]
    omega
/-! ### still -/
def fS (xs0 : List Nat) : Nat → Nat → Int := fun j n => ((xs0.count j : Nat) : Int) ^ n
theorem still_c (size : Nat) (xs0 : List Nat) : ∀ xs : List Nat, (∀ x ∈ xs, x < size) → prodI (cs (xs.map (tally (cnt xs0 size)))) = PF (fS xs0) xs size
  | [], _ => by rw [PF_nil fun j => by simp [fS]]; rfl
  | x :: r, h => by
    have hx := h x List.mem_cons_self
    show (cnt xs0 size).getD x 0 * prodI (cs (r.map (tally (cnt xs0 size)))) = _
    rw [still_c size xs0 r fun y hy => h y (List.mem_cons_of_mem _ hy), cnt_get _ _ _ hx]
    refine (PF_step hx ?_ fun i hi => count_other r hi).symm
    simp [fS, Int.pow_succ, Int.mul_comm]
theorem still_t (c : List Int) : ∀ xs : List Nat, prodI (tt (xs.map (tally c))) = c.sum ^ xs.length
  | [] => by simp [tt, prodI]
  | x :: r => by
    show c.sum * prodI (tt (r.map (tally c))) = _
    rw [still_t c r, List.length_cons, Int.pow_succ, Int.mul_comm]
/-! ### falling -/
theorem fall_c (size : Nat) : ∀ xs : List Nat, (∀ x ∈ xs, x < size) → prodI (cs (fallS (cnt xs size) xs)) = PF (fun _ n => facI n) xs size
  | [], _ => by rw [PF_nil fun j => rfl]; rfl
  | x :: r, h => by
    have hx := h x List.mem_cons_self
    show (cnt (x :: r) size).getD x 0 * prodI (cs (fallS (bump (cnt (x :: r) size) x (-1)) r)) = _
    rw [cnt_cons _ _ _ hx, fall_c size r fun y hy => h y (List.mem_cons_of_mem _ hy), cnt_get _ _ _ hx]
    refine (PF_step hx ?_ fun i hi => count_other r hi).symm
    simp [facI]
theorem fall_t (size : Nat) : ∀ xs : List Nat, (∀ x ∈ xs, x < size) → prodI (tt (fallS (cnt xs size) xs)) = facI xs.length
  | [], _ => rfl
  | x :: r, h => by
    have hx := h x List.mem_cons_self
    show (cnt (x :: r) size).sum * prodI (tt (fallS (bump (cnt (x :: r) size) x (-1)) r)) = ((r.length : Int) + 1) * facI r.length
    rw [cnt_cons _ _ _ hx, fall_t size r fun y hy => h y (List.mem_cons_of_mem _ hy), sum_cnt size (x :: r) h]
    simp
/-! ### moving -/
def riseI (a g : Int) : Nat → Int
  | 0 => 1
  | n + 1 => riseI a g n * (a + g * n)
def cntG (g : Int) (xs : List Nat) (size : Nat) : List Int := (cnt xs size).map fun v => 1 + g * v
theorem cntG_get (g : Int) (xs : List Nat) (size j : Nat) (h : j < size) : (cntG g xs size).getD j 0 = 1 + g * xs.count j := by
  unfold cntG
  rw [List.getD_eq_getElem?_getD, List.getElem?_map, cnt_get?, if_pos h]
  rfl
theorem cntG_len (g : Int) (xs : List Nat) (size : Nat) : (cntG g xs size).length = size := by unfold cntG; rw [List.length_map, cnt_len]
theorem cntG_bump (g : Int) (xs : List Nat) (size x : Nat) (h : x < size) : bump (cntG g xs size) x g = cntG g (xs ++ [x]) size := by
  refine List.ext_getElem? fun i => ?_
  unfold bump
  rw [List.getElem?_set, cntG_get _ _ _ _ h, cntG_len]
  unfold cntG
  rw [List.getElem?_map, List.getElem?_map, cnt_get?, cnt_get?]
  by_cases e : x = i
  · subst e
    rw [if_pos rfl, if_pos h, if_pos h]
    simp [Int.mul_add]
    omega
  · rw [if_neg e, count_snoc_other xs fun z => e z.symm]
theorem sum_cntG (g : Int) (xs : List Nat) (size : Nat) (h : ∀ x ∈ xs, x < size) : (cntG g xs size).sum = size + g * xs.length := by
  rw [← sum_cnt size xs h]
  have : ∀ c : List Int, (c.map fun v => 1 + g * v).sum = c.length + g * c.sum := fun c => by
    induction c with
    | nil => simp
    | cons a r ih => simp only [List.map_cons, List.sum_cons, List.length_cons, ih, Int.mul_add]; omega
  unfold cntG
  rw [this, cnt_len]
theorem mov_c (size : Nat) (g m : Int) (hg : 0 ≤ g) : ∀ (xs p : List Nat), (∀ x ∈ p ++ xs, x < size) → (size : Int) + g * ((p ++ xs).length : Int) ≤ m →
    PF (fun _ n => riseI 1 g n) p size * prodI (cs (movS g m (cntG g p size) xs)) = PF (fun _ n => riseI 1 g n) (p ++ xs) size ∧ riseI size g p.length * prodI (tt (movS g m (cntG g p size) xs)) = riseI size g (p ++ xs).length ∧ ∀ k, renS g m (cntG g p size) k xs = []
  | [], p, _, _ => by simp [movS, renS, cs, tt, prodI]
  | x :: r, p, h, hm => by
    have hx : x < size := h x (by simp)
    have hp : ∀ y ∈ p, y < size := fun y hy => h y (List.mem_append_left _ hy)
    have no : ¬ m < (cntG g p size).sum + g := by
      rw [sum_cntG g p size hp]
      have : ((p ++ x :: r).length : Int) = p.length + 1 + r.length := by simp; omega
      rw [this] at hm
      have e : g * ((p.length : Int) + 1 + r.length) = g * p.length + g + g * r.length := by rw [Int.mul_add, Int.mul_add, Int.mul_one]
      have z : 0 ≤ g * (r.length : Int) := Int.mul_nonneg hg (Int.natCast_nonneg _)
      omega
    have gr : grow (cntG g p size) x g m = cntG g (p ++ [x]) size := by
      unfold grow
      rw [if_neg no, cntG_bump _ _ _ _ hx]
    have ap : p ++ x :: r = (p ++ [x]) ++ r := by simp
    obtain ⟨i1, i2, i3⟩ := mov_c size g m hg r (p ++ [x]) (by rw [← ap]; exact h) (by rw [← ap]; exact hm)
    refine ⟨?_, ?_, fun k => ?_⟩
    · show _ * ((cntG g p size).getD x 0 * prodI (cs (movS g m (grow (cntG g p size) x g m) r))) = _
      rw [gr, cntG_get _ _ _ _ hx, ap, ← i1, ← Int.mul_assoc]
      congr 1
      rw [PF_step (xs := p) (ys := p ++ [x]) (k := 1 + g * p.count x) hx (by simp [riseI, Int.mul_comm]) fun i hi => count_snoc_other p hi, Int.mul_comm]
    · show _ * ((cntG g p size).sum * prodI (tt (movS g m (grow (cntG g p size) x g m) r))) = _
      rw [gr, sum_cntG g p size hp, ap, ← i2, ← Int.mul_assoc, List.length_append]
      rfl
    · show (if m < (cntG g p size).sum + g then _ else _) = _
      rw [if_neg no, gr]
      exact i3 _
end DL

end
section
set_option maxRecDepth 100000
set_option maxHeartbeats 1000000
namespace DL
theorem natAbs_pow_le (x : Int) (n b : Nat) (h : x.natAbs ≤ 2 ^ b) : (x ^ n).natAbs ≤ 2 ^ (b * n) := by
  rw [Int.natAbs_pow, Nat.pow_mul]
  exact Nat.pow_le_pow_left h n
theorem log2_le (n k : Nat) (h : n ≤ 2 ^ k) : n.log2 ≤ k := by
  have := log2_of n (k + 1) (by rw [Nat.pow_succ]; have := Nat.two_pow_pos k; omega) (by omega)
  omega
theorem sw_loop (a b : Slot) (S : Store) : ∀ (c : List Nat) (y : Int) (e : Nat) (s3 : Slot), (∀ v ∈ c, v ≤ 256) → y.natAbs ≤ 2 ^ e → e + 8 * c.sum < 400000 →
    ∃ s3', runFor (.nm 3) (sset 1 (strict (ebin opMul (evar 1) (ecall s__law_times (econs (evar 3) (econs (evar 3) enil)))))) (c.map nI) [a, .val (.int y), b, s3] S = .nx [a, .val (.int (y * prodI (c.map fun v : Nat => (v : Int) ^ v))), b, s3'] S ∧ (y * prodI (c.map fun v : Nat => (v : Int) ^ v)).natAbs ≤ 2 ^ (e + 8 * c.sum)
  | [], y, e, s3, _, h, _ => ⟨s3, by simp [prodI], by simpa [prodI] using h⟩
  | v :: r, y, e, s3, hc, h, he => by
    have hv := hc v List.mem_cons_self
    rw [List.sum_cons] at he
    have p := natAbs_pow_le (v : Int) v 8 (by simp; omega)
    have h' : (y * (v : Int) ^ v).natAbs ≤ 2 ^ (e + 8 * v) := by
      rw [Int.natAbs_mul, Nat.pow_add]
      exact Nat.mul_le_mul h p
    obtain ⟨s3', i1, i2⟩ := sw_loop a b S r (y * (v : Int) ^ v) (e + 8 * v) (.val (nI v)) (fun w hw => hc w (List.mem_cons_of_mem _ hw)) h' (by omega)
    have m : mulOk y ((v : Int) ^ v) = true := mulOk_w _ _ (by
      have l1 := log2_le _ _ h
      have l2 := log2_le _ _ p
      omega)
    have lk : look (hide [a, .val (.int y), b, .val (nI v)]) 1 = some (.int y) ∧ look (hide [a, .val (.int y), b, .val (nI v)]) 3 = some (nI v) := by cases a <;> cases b <;> exact ⟨rfl, rfl⟩
    have t := times_eq (v : Int) v S (by simp; omega) (by omega)
    refine ⟨s3', ?_, ?_⟩
    · rw [List.map_cons, ev_runForC, List.map_cons]
      show _ = Out.nx [a, .val (.int (y * ((v : Int) ^ v * prodI (r.map fun v : Nat => (v : Int) ^ v)))), b, s3'] S
      rw [← Int.mul_assoc, ← i1]
      generalize s__law_times = F at t ⊢
      simp [R.bind, lk, t, m]
    · show (y * ((v : Int) ^ v * prodI (r.map fun v : Nat => (v : Int) ^ v))).natAbs ≤ _
      rw [← Int.mul_assoc, List.sum_cons, show e + 8 * (v + r.sum) = e + 8 * v + 8 * r.sum by omega]
      exact i2
theorem sum_castN : ∀ c : List Nat, (c.map fun v : Nat => (v : Int)).sum = (c.sum : Nat)
  | [] => rfl
  | x :: r => by simp only [List.map_cons, List.sum_cons, sum_castN r]; simp
theorem still_weight_eq (c : List Nat) (S : Store) (hc : ∀ v ∈ c, v ≤ 256) (hn : c.sum ≤ 256) : s__law_still_weight [.lst (c.map nI)] S = .ok (.tup [.int (prodI (c.map fun v : Nat => (v : Int) ^ v)), .int ((c.sum : Int) ^ c.sum)]) S := by
  obtain ⟨s3', i1, _⟩ := sw_loop (.val (.lst (c.map nI))) (.val (nI c.sum)) S c 1 0 .no hc (by decide) (by omega)
  rw [Int.one_mul] at i1
  have sm : fSum [.lst (c.map nI)] = some (nI c.sum) := by
    have e : c.map nI = (c.map fun v : Nat => (v : Int)).map D.int := by rw [List.map_map]; rfl
    rw [e, ev_sumL, sum_castN]
  have t := times_eq (c.sum : Int) c.sum S (by simp; omega) (by omega)
  generalize hF : s__law_times = F at t i1
  have u : s__law_still_weight = mkFn 1 4 (sseq (spar 1 2 (strict (econs (ec (.int 1)) (econs (ecal fSum (econs (evar 0) enil)) enil))))
    (sseq (sfor (strict (iseq (evar 0))) (.nm 3) (sset 1 (strict (ebin opMul (evar 1) (ecall F (econs (evar 3) (econs (evar 3) enil)))))))
    (sret (etup (econs (evar 1) (econs (ecall F (econs (evar 2) (econs (evar 2) enil))) enil)))))) := by rw [← hF]; rfl
  rw [u]
  simp [R.bind, sm, i1, t]
end DL

end
section
set_option maxRecDepth 100000
set_option maxHeartbeats 1000000
namespace DL
theorem fac_le : ∀ v : Nat, v ≤ 256 → (facI v).natAbs ≤ 2 ^ (8 * v)
  | 0, _ => by decide
  | v + 1, h => by
    have ih := fac_le v (by omega)
    show (((v : Int) + 1) * facI v).natAbs ≤ _
    rw [Int.natAbs_mul, show 8 * (v + 1) = 8 + 8 * v by omega, Nat.pow_add]
    exact Nat.mul_le_mul (show ((v : Int) + 1).natAbs ≤ 2 ^ 8 by omega) ih
theorem fw_loop (a : Slot) (F : Fn) (S : Store) (hF : ∀ v : Nat, v ≤ 256 → F [nI v] S = .ok (.int (facI v)) S) : ∀ (c : List Nat) (y : Int) (e : Nat) (s3 : Slot), (∀ v ∈ c, v ≤ 256) → y.natAbs ≤ 2 ^ e → e + 8 * c.sum < 400000 →
    ∃ s3', runFor (.nm 2) (sset 1 (strict (ebin opMul (evar 1) (ecall F (econs (evar 2) enil))))) (c.map nI) [a, .val (.int y), s3] S = .nx [a, .val (.int (y * prodI (c.map facI))), s3'] S
  | [], y, e, s3, _, h, _ => ⟨s3, by simp [prodI]⟩
  | v :: r, y, e, s3, hc, h, he => by
    have hv := hc v List.mem_cons_self
    rw [List.sum_cons] at he
    have p := fac_le v hv
    have h' : (y * facI v).natAbs ≤ 2 ^ (e + 8 * v) := by
      rw [Int.natAbs_mul, Nat.pow_add]
      exact Nat.mul_le_mul h p
    obtain ⟨s3', i1⟩ := fw_loop a F S hF r (y * facI v) (e + 8 * v) (.val (nI v)) (fun w hw => hc w (List.mem_cons_of_mem _ hw)) h' (by omega)
    have m : mulOk y (facI v) = true := mulOk_w _ _ (by
      have l1 := log2_le _ _ h
      have l2 := log2_le _ _ p
      omega)
    have lk : look (hide [a, .val (.int y), .val (nI v)]) 1 = some (.int y) ∧ look (hide [a, .val (.int y), .val (nI v)]) 2 = some (nI v) := by cases a <;> exact ⟨rfl, rfl⟩
    refine ⟨s3', ?_⟩
    rw [List.map_cons, ev_runForC, List.map_cons]
    show _ = Out.nx [a, .val (.int (y * (facI v * prodI (r.map facI)))), s3'] S
    rw [← Int.mul_assoc, ← i1]
    simp [R.bind, lk, hF v hv, m]
theorem sum_nI (c : List Nat) : fSum [.lst (c.map nI)] = some (nI c.sum) := by
  have e : c.map nI = (c.map fun v : Nat => (v : Int)).map D.int := by rw [List.map_map]; rfl
  rw [e, ev_sumL, sum_castN]
theorem falling_weight_eq (c : List Nat) (S : Store) (hc : ∀ v ∈ c, v ≤ 256) (hn : c.sum ≤ 256) : s__law_falling_weight [.lst (c.map nI)] S = .ok (.tup [.int (prodI (c.map facI)), .int (facI c.sum)]) S := by
  have hF : ∀ v : Nat, v ≤ 256 → s__law_faculty [nI v] S = .ok (.int (facI v)) S := fun v hv => fac_eq v S (by omega)
  have u : s__law_falling_weight = mkFn 1 3 (sseq (sset 1 (strict (ec (.int 1))))
    (sseq (sfor (strict (iseq (evar 0))) (.nm 2) (sset 1 (strict (ebin opMul (evar 1) (ecall s__law_faculty (econs (evar 2) enil))))))
    (sret (etup (econs (evar 1) (econs (ecall s__law_faculty (econs (ecal fSum (econs (evar 0) enil)) enil)) enil)))))) := rfl
  rw [u]
  generalize s__law_faculty = F at hF ⊢
  obtain ⟨s3', i1⟩ := fw_loop (.val (.lst (c.map nI))) F S hF c 1 0 .no hc (by decide) (by omega)
  rw [Int.one_mul] at i1
  simp [R.bind, sum_nI, i1, hF c.sum hn]
theorem rise_loop (a d b : Slot) (g : Nat) (hg : g ≤ 64) (hb : b = .val (nI g)) (q : Slot) (S : Store) (v : Nat) (hv : v ≤ 256) (y0 : Int) : ∀ (n k : Nat) (s5 : Slot), k + n = v →
    ∃ s5', runFor (.nm 5) (sset 2 (strict (ebin opMul (evar 2) (ebin opAdd (ec (.int 1)) (ebin opMul (evar 1) (evar 5)))))) ((List.range' k n).map nI) [a, b, .val (.int (y0 * riseI 1 g k)), d, q, s5] S = .nx [a, b, .val (.int (y0 * riseI 1 g v)), d, q, s5'] S
  | 0, k, s5, h => ⟨s5, by simp at h; subst h; simp⟩
  | n + 1, k, s5, h => by
    obtain ⟨s5', ih⟩ := rise_loop a d b g hg hb q S v hv y0 n (k + 1) (.val (nI k)) (by omega)
    refine ⟨s5', ?_⟩
    have lk : look (hide [a, b, .val (.int (y0 * riseI 1 g k)), d, q, .val (nI k)]) 2 = some (.int (y0 * riseI 1 g k)) ∧ look (hide [a, b, .val (.int (y0 * riseI 1 g k)), d, q, .val (nI k)]) 1 = some (nI g) ∧ look (hide [a, b, .val (.int (y0 * riseI 1 g k)), d, q, .val (nI k)]) 5 = some (nI k) := by subst hb; cases a <;> cases d <;> cases q <;> exact ⟨rfl, rfl, rfl⟩
    have m1 : mulOk (g : Int) (k : Int) = true := mulOk_r _ _ (by simp; omega)
    have sm : g * k ≤ 64 * 256 := Nat.mul_le_mul hg (by omega)
    have m2 : mulOk (y0 * riseI 1 g k) (1 + (g : Int) * k) = true := mulOk_r _ _ (by
      have : (1 + (g : Int) * k) = ((1 + g * k : Nat) : Int) := by simp
      rw [this]; simp only [Int.natAbs_natCast]; omega)
    have e : y0 * riseI 1 g k * (1 + (g : Int) * k) = y0 * riseI 1 g (k + 1) := by rw [Int.mul_assoc]; rfl
    rw [List.range'_succ, List.map_cons, ev_runForC, ← ih, ← e]
    simp [R.bind, lk, m1, m2]
theorem mw_loop (a d b : Slot) (g : Nat) (hg : g ≤ 64) (hb : b = .val (nI g)) (S : Store) : ∀ (c : List Nat) (y : Int) (s4 s5 : Slot), (∀ v ∈ c, v ≤ 256) →
    ∃ s4' s5', runFor (.nm 4) (sfor (strict (irng1 (econs (evar 4) enil))) (.nm 5) (sset 2 (strict (ebin opMul (evar 2) (ebin opAdd (ec (.int 1)) (ebin opMul (evar 1) (evar 5))))))) (c.map nI) [a, b, .val (.int y), d, s4, s5] S
      = .nx [a, b, .val (.int (y * prodI (c.map (riseI 1 g)))), d, s4', s5'] S
  | [], y, s4, s5, _ => ⟨s4, s5, by simp [prodI]⟩
  | v :: r, y, s4, s5, h => by
    have hv := h v List.mem_cons_self
    obtain ⟨s5a, i1⟩ := rise_loop a d b g hg hb (.val (nI v)) S v hv y v 0 s5 (by omega)
    obtain ⟨s4', s5', ih⟩ := mw_loop a d b g hg hb S r (y * riseI 1 g v) (.val (nI v)) s5a fun w hw => h w (List.mem_cons_of_mem _ hw)
    refine ⟨s4', s5', ?_⟩
    have lk : look (hide [a, b, .val (.int y), d, .val (nI v), s5]) 4 = some (nI v) := by cases a <;> cases b <;> cases d <;> cases s5 <;> rfl
    have rg : irng1 (econs (evar 4) enil) (hide [a, b, .val (.int y), d, .val (nI v), s5]) S = .ok ((List.range v).map nI) S := irng1_nat (by simp [R.bind, lk]) (by omega)
    rw [← List.range_eq_range'] at i1
    have y1 : y * riseI 1 g 0 = y := by show y * 1 = y; omega
    rw [y1] at i1
    rw [List.map_cons, ev_runForC, List.map_cons]
    show _ = Out.nx [a, b, .val (.int (y * (riseI 1 g v * prodI (r.map (riseI 1 g))))), d, s4', s5'] S
    rw [← Int.mul_assoc, ← ih]
    simp [rg, i1]
theorem tot_loop (a d b : Slot) (sz g : Nat) (hg : g ≤ 64) (hsz : sz ≤ 1000) (ha : ∃ xs : List D, a = .val (.lst xs) ∧ xs.length = sz) (hb : b = .val (nI g)) (q : Slot) (S : Store) (v : Nat) (hv : v ≤ 256) : ∀ (n k : Nat) (s5 : Slot), k + n = v →
    ∃ s5', runFor (.nm 5) (sset 3 (strict (ebin opMul (evar 3) (ebin opAdd (elen (evar 0)) (ebin opMul (evar 1) (evar 5)))))) ((List.range' k n).map nI) [a, b, d, .val (.int (riseI sz g k)), q, s5] S = .nx [a, b, d, .val (.int (riseI sz g v)), q, s5'] S
  | 0, k, s5, h => ⟨s5, by simp at h; subst h; simp⟩
  | n + 1, k, s5, h => by
    obtain ⟨s5', ih⟩ := tot_loop a d b sz g hg hsz ha hb q S v hv n (k + 1) (.val (nI k)) (by omega)
    refine ⟨s5', ?_⟩
    obtain ⟨xs, ea, el⟩ := ha
    have lk : look (hide [a, b, d, .val (.int (riseI sz g k)), q, .val (nI k)]) 3 = some (.int (riseI sz g k)) ∧ look (hide [a, b, d, .val (.int (riseI sz g k)), q, .val (nI k)]) 1 = some (nI g) ∧ look (hide [a, b, d, .val (.int (riseI sz g k)), q, .val (nI k)]) 5 = some (nI k) ∧ look (hide [a, b, d, .val (.int (riseI sz g k)), q, .val (nI k)]) 0 = some (.lst xs) := by subst hb; subst ea; cases d <;> cases q <;> exact ⟨rfl, rfl, rfl, rfl⟩
    have m1 : mulOk (g : Int) (k : Int) = true := mulOk_r _ _ (by simp; omega)
    have sm : g * k ≤ 64 * 256 := Nat.mul_le_mul hg (by omega)
    have m2 : mulOk (riseI sz g k) ((sz : Int) + (g : Int) * k) = true := mulOk_r _ _ (by
      have : ((sz : Int) + (g : Int) * k) = ((sz + g * k : Nat) : Int) := by simp
      rw [this]; simp only [Int.natAbs_natCast]; omega)
    have e : riseI sz g k * ((sz : Int) + (g : Int) * k) = riseI sz g (k + 1) := rfl
    rw [List.range'_succ, List.map_cons, ev_runForC, ← ih, ← e]
    simp [R.bind, lk, m1, m2, el]
theorem moving_weight_eq (c : List Nat) (g : Nat) (S : Store) (hg : g ≤ 64) (hl : c.length ≤ 1000) (hc : ∀ v ∈ c, v ≤ 256) (hn : c.sum ≤ 256) : s__law_moving_weight [.lst (c.map nI), nI g] S = .ok (.tup [.int (prodI (c.map (riseI 1 g))), .int (riseI c.length g c.sum)]) S := by
  obtain ⟨s4', s5', i1⟩ := mw_loop (.val (.lst (c.map nI))) (.val (.int 1)) (.val (nI g)) g hg rfl S c 1 .no .no hc
  obtain ⟨s5a, i2⟩ := tot_loop (.val (.lst (c.map nI))) (.val (.int (prodI (c.map (riseI 1 g))))) (.val (nI g)) c.length g hg hl ⟨_, rfl, by simp⟩ rfl s4' S c.sum hn c.sum 0 s5' (by omega)
  rw [Int.one_mul] at i1
  rw [← List.range_eq_range'] at i2
  have z : riseI (c.length : Int) g 0 = 1 := rfl
  rw [z] at i2
  have rg : irng1 (econs (ecal fSum (econs (evar 0) enil)) enil) (hide [.val (.lst (c.map nI)), .val (nI g), .val (.int (prodI (c.map (riseI 1 g)))), .val (.int 1), s4', s5']) S = .ok ((List.range c.sum).map nI) S := irng1_nat (by simp [R.bind, sum_nI]) (by omega)
  simp only [ev_hideV] at rg
  simp [s__law_moving_weight, b__law_moving_weight, R.bind, i1, rg, i2]
end DL

end
section
set_option maxRecDepth 100000
set_option maxHeartbeats 1000000
namespace DL
/-! ### the symbols are fine -/
abbrev cN (xs : List Nat) (size : Nat) : List Nat := (List.range size).map fun j => xs.count j
theorem cnt_cN (xs : List Nat) (size : Nat) : (cnt xs size).map D.int = (cN xs size).map nI := by
  simp [cnt, cN, Function.comp_def]
theorem cN_le (xs : List Nat) (size : Nat) : ∀ v ∈ cN xs size, v ≤ xs.length := fun v hv => by
  obtain ⟨j, _, rfl⟩ := List.mem_map.mp hv
  exact List.count_le_length
theorem cN_sum (xs : List Nat) (size : Nat) (h : ∀ x ∈ xs, x < size) : (cN xs size).sum = xs.length := by
  have a := sum_cnt size xs h
  have b := sum_castN (cN xs size)
  have e : (cN xs size).map (fun v : Nat => (v : Int)) = cnt xs size := by simp [cnt, cN, Function.comp_def]
  rw [e, a] at b
  omega
theorem tri_small {size n : Nat} {ts : List Tri} (h : ∀ t ∈ ts, 0 ≤ t.2.1 ∧ t.2.1 ≤ 100000 ∧ 0 ≤ t.2.2 ∧ t.2.2 ≤ 100000) : ∀ t ∈ ts, t.2.1.natAbs < 2 ^ 64 ∧ t.2.2.natAbs < 2 ^ 64 := fun t ht => by
  obtain ⟨a, b, c, d⟩ := h t ht
  omega
theorem cnt_mem {xs : List Nat} {size : Nat} {v : Int} (h : v ∈ cnt xs size) : 0 ≤ v ∧ v ≤ xs.length := by
  unfold cnt at h
  obtain ⟨j, _, rfl⟩ := List.mem_map.mp h
  have : xs.count j ≤ xs.length := List.count_le_length
  omega
theorem still_small (xs ys : List Nat) (size : Nat) (h : ∀ x ∈ ys, x < size) (hl : xs.length ≤ 1000) (hx : ∀ x ∈ xs, x < size) : ∀ t ∈ ys.map (tally (cnt xs size)), t.2.1.natAbs < 2 ^ 64 ∧ t.2.2.natAbs < 2 ^ 64 := fun t ht => by
  obtain ⟨x, hx', rfl⟩ := List.mem_map.mp ht
  have a : (tally (cnt xs size) x).2.1 = xs.count x := cnt_get xs size x (h x hx')
  have b : (tally (cnt xs size) x).2.2 = xs.length := sum_cnt size xs hx
  have c : xs.count x ≤ xs.length := List.count_le_length
  rw [a, b]
  omega
theorem fall_small (size : Nat) : ∀ xs : List Nat, xs.length ≤ 1000 → (∀ x ∈ xs, x < size) → ∀ t ∈ fallS (cnt xs size) xs, t.2.1.natAbs < 2 ^ 64 ∧ t.2.2.natAbs < 2 ^ 64
  | [], _, _, t, ht => by simp [fallS] at ht
  | x :: r, hl, h, t, ht => by
    have hx := h x List.mem_cons_self
    have ht : t ∈ tally (cnt (x :: r) size) x :: fallS (bump (cnt (x :: r) size) x (-1)) r := ht
    rw [cnt_cons r size x hx] at ht
    rcases List.mem_cons.mp ht with e | e
    · rw [e]
      exact still_small (x :: r) [x] size (fun y hy => by rw [List.mem_singleton.mp hy]; exact hx) hl h _ (by simp)
    · exact fall_small size r (by rw [List.length_cons] at hl; omega) (fun y hy => h y (List.mem_cons_of_mem _ hy)) t e
theorem still_pair (xs ys : List Nat) (size : Nat) (S : Store) (hS : Store.flat S = true) (hl : xs.length ≤ 240) (h : ∀ x ∈ xs, x < size) (hs : size ≤ 1000) (hp : ∀ i, ys.count i = xs.count i) (hy : ∀ x ∈ ys, x < size) (hyl : ys.length = xs.length) :
    ∃ a b : Int, s_still_course [tn ys, nI size] S = .ok (.tup ((ys.map (tally (cnt ys size))).map stepD)) S ∧ s_weight_pair [.tup ((ys.map (tally (cnt ys size))).map stepD)] S = .ok (.tup [.int a, .int b]) S ∧ s__law_still_weight [lI' (cnt xs size)] S = .ok (.tup [.int a, .int b]) S := by
  have ec : cnt ys size = cnt xs size := by
    unfold cnt
    exact List.map_congr_left fun j _ => by rw [hp j]
  refine ⟨_, _, still_eq ys size S hS hy (by omega) (by omega), weight_eq _ S (by rw [ec]; exact still_small xs ys size hy (by omega) h), ?_⟩
  rw [still_t, ec, still_c size xs ys hy, sum_cnt size xs h, hyl]
  show s__law_still_weight [.lst ((cnt xs size).map D.int)] S = _
  rw [cnt_cN, still_weight_eq _ S (fun v hv => by have := cN_le xs size v hv; omega) (by rw [cN_sum xs size h]; omega), cN_sum xs size h]
  congr 4
  unfold PF fS cN
  rw [List.map_map]
  congr 1
  refine List.map_congr_left fun j _ => ?_
  simp [hp j]
theorem fall_pair (xs : List Nat) (size : Nat) (S : Store) (hS : Store.flat S = true) (hl : xs.length ≤ 240) (h : ∀ x ∈ xs, x < size) (hs : size ≤ 1000) :
    ∃ a b : Int, s_falling_course [tn xs, nI size] S = .ok (.tup ((fallS (cnt xs size) xs).map stepD)) S ∧ s_weight_pair [.tup ((fallS (cnt xs size) xs).map stepD)] S = .ok (.tup [.int a, .int b]) S ∧ s__law_falling_weight [lI' (cnt xs size)] S = .ok (.tup [.int a, .int b]) S := by
  refine ⟨_, _, falling_eq xs size S hS h (by omega) (by omega), weight_eq _ S (fall_small size xs (by omega) h), ?_⟩
  rw [fall_t size xs h, fall_c size xs h]
  show s__law_falling_weight [.lst ((cnt xs size).map D.int)] S = _
  rw [cnt_cN, falling_weight_eq _ S (fun v hv => by have := cN_le xs size v hv; omega) (by rw [cN_sum xs size h]; omega), cN_sum xs size h]
  congr 4
  unfold PF cN
  rw [List.map_map]
  rfl
theorem rep_cntG (g : Int) (size : Nat) : List.replicate size 1 = cntG g [] size := by
  unfold cntG
  rw [cnt_nil]
  simp
end DL

end
section
set_option maxRecDepth 100000
set_option maxHeartbeats 1000000
namespace DL
theorem good_small {ts : List NT} (h : ∀ t ∈ ts, GoodN t) : ∀ t ∈ ts.map castT, t.2.1.natAbs < 2 ^ 64 ∧ t.2.2.natAbs < 2 ^ 64 := fun t ht => by
  obtain ⟨u, hu, rfl⟩ := List.mem_map.mp ht
  obtain ⟨g1, g2, g3⟩ := h u hu
  have e1 : (castT u).2.1.natAbs = u.2.1 := rfl
  have e2 : (castT u).2.2.natAbs = u.2.2 := rfl
  rw [e1, e2]
  omega
theorem move_pair (xs : List Nat) (size g : Nat) (m : Int) (S : Store) (hl : xs.length ≤ 240) (h : ∀ x ∈ xs, x < size) (hs : size ≤ 1000) (hg : g ≤ 64) (hm : (size : Int) + g * (xs.length : Int) ≤ m)
    (sm : ∀ t ∈ movS g m (List.replicate size 1) xs, t.2.1.natAbs < 2 ^ 64 ∧ t.2.2.natAbs < 2 ^ 64) :
    ∃ a b : Int, s_weight_pair [.tup ((movS g m (List.replicate size 1) xs).map stepD)] S = .ok (.tup [.int a, .int b]) S ∧ s__law_moving_weight [lI' (cnt xs size), nI g] S = .ok (.tup [.int a, .int b]) S ∧ renS g m (List.replicate size 1) 0 xs = [] ∧
      prodI (cs (movS g m (List.replicate size 1) xs)) = a ∧ prodI (tt (movS g m (List.replicate size 1) xs)) = b := by
  have key := mov_c size g m (by omega) xs [] (by simpa using h) (by simpa using hm)
  rw [← rep_cntG] at key
  obtain ⟨k1, k2, k3⟩ := key
  rw [PF_nil fun j => rfl, Int.one_mul, List.nil_append] at k1
  have z : riseI (size : Int) g ([] : List Nat).length = 1 := rfl
  rw [z, Int.one_mul, List.nil_append] at k2
  refine ⟨_, _, weight_eq _ S sm, ?_, k3 0, rfl, rfl⟩
  rw [k1, k2]
  show s__law_moving_weight [.lst ((cnt xs size).map D.int), nI g] S = _
  have lc : (cN xs size).length = size := by simp [cN]
  rw [cnt_cN, moving_weight_eq _ g S hg (by rw [lc]; omega) (fun v hv => by have := cN_le xs size v hv; omega) (by rw [cN_sum xs size h]; omega), cN_sum xs size h, lc]
  congr 4
  unfold PF cN
  rw [List.map_map]
  rfl
theorem is_integer_int (i : Int) (S : Store) : s__law_is_integer [.int i] S = .ok (.bl true) S := by
  simp [s__law_is_integer, b__law_is_integer, R.bind, D.isT]
theorem is_empty (S : Store) : s__law_is 8 [.tup [], .tup []] S = .ok (.bl true) S := is_tup 7 _ S (Nat.zero_le _) fun d hd => by cases hd
theorem symbols_fine_eq (xs : List Nat) (size g : Nat) (S : Store) (hS : Store.flat S = true) (hl : xs.length ≤ 240) (h : ∀ x ∈ xs, x < size) (hs0 : 2 ≤ size) (hs : size ≤ 32) (hg0 : 1 ≤ g) (hg : g ≤ 32) :
    s__law_symbols_fine [tn xs, nI size, nI g] S = .ok (.bl true) S := by
  have A := law_counted_eq xs size S hS h (by omega)
  obtain ⟨a1, b1, B1, B2, B3⟩ := still_pair xs xs size S hS hl h (by omega) (fun _ => rfl) h rfl
  obtain ⟨a2, b2, C1, C2, C3⟩ := fall_pair xs size S hS hl h (by omega)
  have M := mov_course_eq xs size g 4096 S hS h hs0 (by omega) (by omega)
  have Rn := renewal_eq xs size g 4096 S hS h hs0 (by omega) (by omega)
  have Ct := counted_eq xs size S hS h (by omega)
  obtain ⟨ts, t1, t2⟩ := mov_good (g := (g : Int)) hs (by omega) (by omega) xs (List.replicate size 1) (even_ok (by omega)) h
  have sm := good_small t1
  rw [t2] at sm
  have tl : ts.length = xs.length := by
    have := congrArg List.length t2
    rw [List.length_map, movS_len] at this
    exact this
  obtain ⟨w, s, L, L1, L2, L3, L4, L5⟩ := length_eq ts S t1 (by omega)
  have Wi := within_eq ts S w s L t1 (by omega) (by omega) L3 L4 L5
  rw [t2] at L1 Wi
  have Ii := is_integer_int (L : Int) S
  have Ib := is_bool 7 true S
  have P1 := is_pair a1 b1 S
  have P2 := is_pair a2 b2 S
  have P := fun a b => is_pair a b S
  have Cc := is_ints (cnt xs size) S (by rw [cnt_len]; omega)
  have E := is_empty S
  have mg : mulOk (g : Int) (xs.length : Int) = true := mulOk_r _ _ (by simp; omega)
  have MP := fun hm => move_pair xs size g 4096 S hl h (by omega) (by omega) hm sm
  unfold s__law_symbols_fine b__law_symbols_fine
  generalize s__law_is 8 = IS at *
  generalize s_weight_pair = WP at *
  generalize s_still_course = SC at *
  generalize s_falling_course = FC at *
  generalize s_moving_course = MC at *
  generalize s_renewal_places = RP at *
  generalize s__law_moving_weight = LM at *
  generalize s_counted_tally = CT at *
  generalize s_code_length = CL at *
  generalize s__law_is_integer = II at *
  generalize s_is_within_weight = IW at *
  generalize s__law_counted = LC at *
  generalize s__law_still_weight = LS at *
  generalize s__law_falling_weight = LF at *
  have e4 : rl (g : Int) 4096 = .tup [nI g, .int 4096] := rfl
  rw [e4] at M Rn
  by_cases hm : (size : Int) + g * (xs.length : Int) ≤ 4096
  · obtain ⟨a3, b3, D1, D2, D3, _⟩ := MP hm
    have P3 : IS [.tup [.int a3, .int b3], .tup [.int a3, .int b3]] S = .ok (.bl true) S := P a3 b3
    rw [D3] at Rn
    have Rn : RP [tn xs, nI size, .tup [nI g, .int 4096]] S = .ok (.tup []) S := Rn
    by_cases h0 : 0 < xs.length
    · simp [R.bind, -List.map_map, A, B1, B2, B3, C1, C2, C3, P1, P2, M, Rn, mg, hm, D1, D2, P3, E, h0, Ct, Cc, L1, Ii, Wi, Ib]
    · simp [R.bind, -List.map_map, A, B1, B2, B3, C1, C2, C3, P1, P2, M, Rn, mg, hm, D1, D2, P3, E, h0, Ct, Cc, L1, Ii, Wi, Ib]
  · by_cases h0 : 0 < xs.length
    · simp [R.bind, -List.map_map, A, B1, B2, B3, C1, C2, C3, P1, P2, M, Rn, mg, hm, E, h0, Ct, Cc, L1, Ii, Wi, Ib]
    · simp [R.bind, -List.map_map, A, B1, B2, B3, C1, C2, C3, P1, P2, M, Rn, mg, hm, E, h0, Ct, Cc, L1, Ii, Wi, Ib]
end DL

end
section
set_option maxRecDepth 100000
set_option maxHeartbeats 1000000
namespace DL
/-! ### grades, figures -/
def foldN (s : Int) : Nat := (if 0 ≤ s then 2 * s else -2 * s - 1).toNat
def bitsN (v : Nat) : Nat := if v = 0 then 0 else v.log2 + 1
def gradeN (s : Int) : Nat := bitsN (foldN s)
theorem foldN_eq (s : Int) : (foldN s : Int) = if 0 ≤ s then 2 * s else -2 * s - 1 := by
  unfold foldN
  by_cases h : 0 ≤ s
  · rw [if_pos h]; omega
  · rw [if_neg h]; omega
theorem m2l (s : Int) : mulOk 2 s = true := mulOk_l _ _ (by decide)
theorem mn2l (s : Int) : mulOk (-2) s = true := mulOk_l _ _ (by decide)
theorem folded_eq (s : Int) (S : Store) : s_folded [.int s] S = .ok (nI (foldN s)) S := by
  have e := foldN_eq s
  by_cases h : 0 ≤ s
  · rw [if_pos h] at e
    simp [s_folded, b_folded, R.bind, h, m2l, e]
  · rw [if_neg h] at e
    simp [s_folded, b_folded, R.bind, h, mn2l, e]
theorem law_folded_eq (s : Int) (S : Store) : s__law_folded [.int s] S = .ok (nI (foldN s)) S := by
  have e := foldN_eq s
  by_cases h : 0 ≤ s
  · rw [if_pos h] at e
    simp [s__law_folded, b__law_folded, R.bind, h, m2l, e]
  · rw [if_neg h] at e
    have e' : (0 : Int) - 2 * s - 1 = foldN s := by omega
    simp [s__law_folded, b__law_folded, R.bind, h, m2l]
    omega
theorem bits_shift (v k : Nat) : (v / 2 ^ k = 0) ↔ bitsN v ≤ k := by
  unfold bitsN
  rw [Nat.div_eq_zero_iff]
  have p := Nat.two_pow_pos k
  by_cases h : v = 0
  · subst h; simp [p]
  · rw [if_neg h]
    constructor
    · intro q
      have : v < 2 ^ k := by omega
      have := (Nat.log2_lt h).mpr this
      omega
    · intro q
      exact .inr ((Nat.log2_lt h).mp (by omega))
theorem size_loop (v : Nat) (S : Store) : ∀ (m n k : Nat), k + m = bitsN v → m < n → runWhile (strict (tst (ebin opGt (ebin opShr (evar 0) (evar 1)) (ec (.int 0))))) (sset 1 (strict (ebin opAdd (evar 1) (ec (.int 1))))) n [.val (nI v), .val (nI k)] S = .nx [.val (nI v), .val (nI (bitsN v))] S := by
  intro m
  induction m with
  | zero =>
    intro n k h hn
    obtain ⟨n, rfl⟩ : ∃ m, n = m + 1 := ⟨n - 1, by omega⟩
    have z : v / 2 ^ k = 0 := (bits_shift v k).mpr (by omega)
    have z' : ((v : Int) / 2 ^ k) = 0 := by exact_mod_cast z
    rw [ev_runWhileS]
    simp [R.bind, z']
    omega
  | succ m ih =>
    intro n k h hn
    obtain ⟨n, rfl⟩ : ∃ m, n = m + 1 := ⟨n - 1, by omega⟩
    have z : v / 2 ^ k ≠ 0 := fun q => by have := (bits_shift v k).mp q; omega
    have z' : (0 : Int) < (v : Int) / 2 ^ k := by
      have : 0 < v / 2 ^ k := Nat.pos_of_ne_zero z
      exact_mod_cast this
    have e1 : (k : Int) + 1 = ((k + 1 : Nat) : Int) := rfl
    rw [ev_runWhileS, ← ih n (k + 1) (by omega) (by omega)]
    simp [R.bind, z']
    rw [e1]
theorem law_size_eq (v : Nat) (S : Store) (h : v < 2 ^ 100) : s__law_size [nI v] S = .ok (nI (bitsN v)) S := by
  have b : bitsN v ≤ 100 := (bits_shift v 100).mp (Nat.div_eq_of_lt h)
  have lp := size_loop v S (bitsN v) FUEL 0 (by omega) (Nat.lt_of_lt_of_le (by omega) fuel_big)
  rw [show nI 0 = .int 0 from rfl] at lp
  simp [s__law_size, b__law_size, R.bind, lp]
theorem size_eq' (n : Nat) (S : Store) : s_size_of [nI n] S = .ok (nI (bitsN n)) S := size_eq n S
theorem grade_eq (s : Int) (S : Store) : s_grade_of [.int s] S = .ok (nI (gradeN s)) S := by
  simp [s_grade_of, b_grade_of, R.bind, folded_eq, size_eq', gradeN]
/-- the groups of n figures -/
def groups : Nat → Nat → List Nat
  | 0, _ => []
  | f + 1, n => if n = 0 then [] else min 8 n :: groups f (n - 8)
theorem groups_sum : ∀ f n : Nat, n ≤ 8 * f → (groups f n).sum = n
  | 0, n, h => by simp at h; subst h; rfl
  | f + 1, n, h => by
    unfold groups
    by_cases z : n = 0
    · rw [if_pos z, z]; rfl
    · rw [if_neg z, List.sum_cons, groups_sum f (n - 8) (by omega)]
      omega
theorem groups_le : ∀ f n : Nat, ∀ v ∈ groups f n, v ≤ 8
  | 0, _, v, h => by simp [groups] at h
  | f + 1, n, v, h => by
    unfold groups at h
    by_cases z : n = 0
    · rw [if_pos z] at h; simp at h
    · rw [if_neg z] at h
      rcases List.mem_cons.mp h with e | e
      · omega
      · exact groups_le f _ v e
theorem group_loop (a : Slot) (S : Store) : ∀ (f n fu : Nat) (l : Int) (acc : List D), n ≤ 8 * f → (0 < n → l = n) → (n = 0 → l ≤ 0) → f < fu → acc.length + f ≤ 1000 → ∃ l', runWhile (strict (tst (ebin opGt (evar 1) (ec (.int 0))))) (sseq (sadd 2 addOne (strict (ecal fMin2 (econs (ec (.int 8)) (econs (evar 1) enil)))))
    (saug 1 (onInts opSub) (strict (ec (.int 8))))) fu [a, .val (.int l), .own acc] S = .nx [a, l', .own (acc ++ (groups f n).map nI)] S := by
  intro f
  induction f with
  | zero =>
    intro n fu l acc h h1 h2 hf _
    obtain ⟨fu, rfl⟩ : ∃ m, fu = m + 1 := ⟨fu - 1, by omega⟩
    have hl := h2 (by omega)
    have lk : look (hide [a, .val (.int l), .own acc]) 1 = some (.int l) := by cases a <;> rfl
    refine ⟨.val (.int l), ?_⟩
    rw [ev_runWhileS]
    simp [R.bind, lk, show ¬ 0 < l by omega, groups]
  | succ f ih =>
    intro n fu l acc h h1 h2 hf ha
    obtain ⟨fu, rfl⟩ : ∃ m, fu = m + 1 := ⟨fu - 1, by omega⟩
    have lk : ∀ acc, look (hide [a, .val (.int l), .own acc]) 1 = some (.int l) := fun acc => by cases a <;> rfl
    by_cases z : n = 0
    · have hl := h2 z
      refine ⟨.val (.int l), ?_⟩
      rw [ev_runWhileS]
      simp [R.bind, lk, show ¬ 0 < l by omega, groups, z]
    · have hl := h1 (by omega)
      subst hl
      obtain ⟨l', i1⟩ := ih (n - 8) fu ((n : Int) - 8) (acc ++ [nI (min 8 n)]) (by omega) (by omega) (by omega) (by omega) (by rw [List.length_append]; simp only [List.length_cons, List.length_nil]; omega)
      refine ⟨l', ?_⟩
      have e : (if (n : Int) < 8 then (n : Int) else 8) = ((min 8 n : Nat) : Int) := by omega
      rw [ev_runWhileS]
      simp [R.bind, lk, show 0 < n by omega, groups, z, e, show acc.length + 1 ≤ 16777216 by omega]
      rw [List.append_assoc] at i1
      simpa using i1
theorem group_eq (g : Nat) (S : Store) (hS : Store.flat S = true) (hg : g ≤ 200) : s_group_sizes [nI g] S = .ok (.lst ((groups 25 (g - 1)).map nI)) S := by
  obtain ⟨l', e⟩ := group_loop (.val (nI g)) S 25 (g - 1) FUEL ((g : Int) - 1) [] (by omega) (by omega) (by omega) (Nat.lt_of_lt_of_le (by omega) fuel_big) (by decide)
  rw [List.nil_append] at e
  simp [s_group_sizes, b_group_sizes, R.bind, hS, D.flats, e]
end DL

end
section
set_option maxRecDepth 100000
set_option maxHeartbeats 1000000
namespace DL
def figT (v : Nat) : List Nat → List Tri
  | [] => []
  | n :: r => (((v : Int) / 2 ^ r.sum) % 2 ^ n, 1, 2 ^ n) :: figT v r
theorem fig_c (v : Nat) : ∀ gs : List Nat, prodI (cs (figT v gs)) = 1
  | [] => rfl
  | n :: r => by
    show 1 * prodI (cs (figT v r)) = 1
    rw [fig_c v r]; rfl
theorem fig_t (v : Nat) : ∀ gs : List Nat, prodI (tt (figT v gs)) = 2 ^ gs.sum
  | [] => rfl
  | n :: r => by
    show 2 ^ n * prodI (tt (figT v r)) = _
    rw [fig_t v r, List.sum_cons, Int.pow_add]
theorem fig_small (v : Nat) : ∀ gs : List Nat, (∀ n ∈ gs, n ≤ 8) → ∀ t ∈ figT v gs, t.2.1.natAbs < 2 ^ 64 ∧ t.2.2.natAbs < 2 ^ 64
  | [], _, t, h => by simp [figT] at h
  | n :: r, hn, t, h => by
    have h : t ∈ (((v : Int) / 2 ^ r.sum) % 2 ^ n, (1 : Int), (2 : Int) ^ n) :: figT v r := h
    rcases List.mem_cons.mp h with e | e
    · subst e
      refine ⟨by show (1 : Int).natAbs < _; decide, ?_⟩
      show ((2 : Int) ^ n).natAbs < 2 ^ 64
      rw [Int.natAbs_pow]
      exact Nat.pow_lt_pow_right (by decide) (by have := hn n List.mem_cons_self; omega)
    · exact fig_small v r (fun m hm => hn m (List.mem_cons_of_mem _ hm)) t e
theorem fig_len (v : Nat) : ∀ gs : List Nat, (figT v gs).length = gs.length
  | [] => rfl
  | n :: r => congrArg Nat.succ (fig_len v r)
theorem fig_loop (a : Slot) (v : Nat) (S : Store) : ∀ (gs : List Nat) (l : Int) (acc : List D) (s4 : Slot), (gs ≠ [] → l = (gs.sum : Nat)) → (∀ n ∈ gs, n ≤ 8) → gs.sum ≤ 1000 → acc.length + gs.length ≤ 100000 →
    ∃ s2 s4', runFor (.nm 4) (sseq (saug 2 (onInts opSub) (strict (evar 4))) (sadd 3 addOne (strict (etup (econs (ebin opMod (ebin opShr (evar 1) (evar 2)) (ebin opShl (ec (.int 1)) (evar 4))) (econs (ec (.int 1)) (econs (ebin opShl (ec (.int 1)) (evar 4)) enil)))))))
      (gs.map nI) [a, .val (nI v), .val (.int l), .own acc, s4] S = .nx [a, .val (nI v), s2, .own (acc ++ (figT v gs).map stepD), s4'] S
  | [], l, acc, s4, _, _, _, _ => ⟨.val (.int l), s4, by simp [figT]⟩
  | n :: r, l, acc, s4, hl, hn, hs, ha => by
    have h8 := hn n List.mem_cons_self
    have e := hl (by simp)
    rw [List.sum_cons] at e hs
    rw [List.length_cons] at ha
    obtain ⟨s2, s4', ih⟩ := fig_loop a v S r (r.sum : Nat) (acc ++ [stepD (((v : Int) / 2 ^ r.sum) % 2 ^ n, 1, 2 ^ n)]) (.val (nI n)) (fun _ => rfl) (fun m hm => hn m (List.mem_cons_of_mem _ hm)) (by omega) (by rw [List.length_append]; simp only [List.length_cons, List.length_nil]; omega)
    refine ⟨s2, s4', ?_⟩
    have sb : l - (n : Int) = ((r.sum : Nat) : Int) := by omega
    have lk : ∀ x acc, look (hide [a, .val (nI v), .val x, .own acc, .val (nI n)]) 4 = some (nI n) ∧ look (hide [a, .val (nI v), .val x, .own acc, .val (nI n)]) 1 = some (nI v) ∧ look (hide [a, .val (nI v), .val x, .own acc, .val (nI n)]) 2 = some x := fun x acc => by cases a <;> exact ⟨rfl, rfl, rfl⟩
    have p2 : (0 : Int) < 2 ^ n := by exact_mod_cast Nat.two_pow_pos n
    have b1 : (n : Int) ≤ 1000000 := by omega
    rw [List.map_cons, ev_runForC]
    simp [R.bind, lk, sb, p2, b1, figT, stepD, show acc.length + 1 ≤ 16777216 by omega, show Nat.log2 1 < 10000000 by decide]
    rw [List.append_assoc] at ih
    simpa [stepD] using ih
def figS (r : Int) : List Tri := figT (foldN r) (groups 25 (gradeN r - 1))
theorem figure_eq (r : Int) (S : Store) (hS : Store.flat S = true) (hg : gradeN r ≤ 200) : s_figure_steps [.int r] S = .ok (.tup ((figS r).map stepD)) S := by
  have gs := groups_sum 25 (gradeN r - 1) (by omega)
  have gl := groups_le 25 (gradeN r - 1)
  have ll : (groups 25 (gradeN r - 1)).length ≤ 25 := by
    have : ∀ f n : Nat, (groups f n).length ≤ f := by
      intro f
      induction f with
      | zero => intro n; exact Nat.le_refl _
      | succ f ih =>
        intro n
        unfold groups
        split
        · exact Nat.zero_le _
        · rw [List.length_cons]; have := ih (n - 8); omega
    exact this 25 _
  have G := group_eq (bitsN (foldN r)) S hS hg
  obtain ⟨s2, s4', lp⟩ := fig_loop (.val (.int r)) (foldN r) S (groups 25 (gradeN r - 1)) ((bitsN (foldN r) : Int) - 1) [] .no (fun ne => by
    rw [gs]
    have : gradeN r ≠ 0 := fun z => ne (by rw [z]; rfl)
    unfold gradeN at this ⊢
    omega) gl (by omega) (by simp; omega)
  rw [List.nil_append] at lp
  have G' : s_group_sizes [nI (bitsN (foldN r))] S = .ok (.lst ((groups 25 (gradeN r - 1)).map nI)) S := G
  have F := folded_eq r S
  have Z := size_eq' (foldN r) S
  unfold figS
  simp [s_figure_steps, b_figure_steps, R.bind, hS, D.flats, F, Z, G', lp]
/-! ### the book -/
def BK (S : Store) (m : Nat) (ts : List D) : Store := S ++ [⟨0, [.val (nI m), .own ts, .val (.int 0)]⟩]
theorem BK_get (S : Store) (c : Cell) : (S ++ [c])[S.length]? = some c := by simp
theorem flat_app (S : Store) (c : Cell) : Store.flat (S ++ [c]) = (Store.flat S && c.fs.all Slot.flat) := by simp [Store.flat]
theorem BK_flat (S : Store) (m : Nat) (ts : List D) (hS : Store.flat S = true) (h : D.flats ts = true) : Store.flat (BK S m ts) = true := by
  unfold BK
  rw [flat_app, hS]
  simp [Slot.flat, D.flat, h]
theorem cput_last (S : Store) (c : Cell) (j : Nat) (s : Slot) : cput (S ++ [c]) S.length j s = S ++ [{ c with fs := c.fs.set j s }] := by
  unfold cput
  rw [BK_get]
  simp [List.set_append]
theorem fput_last (S : Store) (c : Cell) (j : Nat) (ds : List D) : fput (S ++ [c]) S.length j ds = S ++ [{ c with fs := c.fs.set j (.own ds) }] := by
  unfold fput
  rw [BK_get]
  simp [List.set_append]
@[simp] theorem ev_sfset {to t : Ex} {c j : Nat} {G : Env} {S : Store} : sfset to c j t G S = match t G S with | .ok d S1 => (match to G S1 with | .ok (.obj k) S2 => (if freeSlot S2 c k j = true then .nx G (cput S2 k j (.val d)) else .bad) | _ => .bad) | _ => .bad := (rfl)
@[simp] theorem ev_sfown {to t : Ex} {c j : Nat} {G : Env} {S : Store} : sfown to c j t G S = match t G S with | .ok (.lst ds) S1 => (match to G S1 with | .ok (.obj k) S2 => (if freeSlot S2 c k j = true ∧ Store.flat S2 = true ∧ D.flats ds = true then .nx G (cput S2 k j (.own ds)) else .bad) | _ => .bad) | _ => .bad := (rfl)
@[simp] theorem ev_sfput {to ti t : Ex} {G : Env} {S : Store} : sfput to ti t G S = match t G S with | .ok d S1 => (match to G S1 with | .ok (.fl k j) S2 => (match ti G S2 with | .ok (.int m) S3 => (match deref S3 (.fl k j) with | .lst ds => (match L2.ixN ds.length m with | some n => .nx G (fput S3 k j (ds.set n d)) | none => .bad) | _ => .bad) | _ => .bad) | _ => .bad) | _ => .bad := (rfl)
theorem flats_rep (n : Nat) (d : D) (h : d.flat = true) : D.flats (List.replicate n d) = true := by
  induction n with
  | zero => rfl
  | succ n ih => rw [List.replicate_succ]; show (d.flat && D.flats _) = true; rw [h, ih]; rfl
theorem flat_ti (c : List Int) : (tI' c).flat = true := flats_ints c
theorem repL_one (n : Nat) (d : D) : repL n [d] = List.replicate n d := by
  unfold repL
  induction n with
  | zero => rfl
  | succ n ih => rw [List.replicate_succ, List.flatten_cons, ih, List.replicate_succ]; rfl
theorem init_eq (S : Store) (hS : Store.flat S = true) (m : Nat) (c : List Int) (hc : c.length ≤ 1000) : s_GradeBook___init__ [.obj S.length, nI m, tI' c] (S ++ [⟨0, List.replicate 3 .no⟩]) = .ok .non (BK S m (List.replicate c.length (tI' c))) := by
  have mul : opMul (.lst [tI' c]) (.int (c.length : Int)) = some (.lst (List.replicate c.length (tI' c))) := by
    show (if _ then _ else _) = _
    rw [if_pos (by simp; omega), repL_one]
    simp
  have fr : ∀ (fs : List Slot) (j : Nat) (s : Slot), fs[j]? = some s → s = .no → freeSlot (S ++ [⟨0, fs⟩]) 0 S.length j = true := fun fs j s h e => by
    unfold freeSlot
    rw [BK_get]
    simp [h, e]
  have f0 := fr [.no, .no, .no] 0 .no rfl rfl
  have f1 := fr [.val (nI m), .no, .no] 1 .no rfl rfl
  have f2 := fr [.val (nI m), .own (List.replicate c.length (tI' c)), .no] 2 .no rfl rfl
  have st : Store.flat (S ++ [⟨0, [.val (nI m), .no, .no]⟩]) = true := by rw [flat_app, hS]; rfl
  have fl := flats_rep c.length (tI' c) (flat_ti c)
  have r3 : List.replicate 3 Slot.no = [.no, .no, .no] := rfl
  rw [r3]
  unfold BK
  simp [s_GradeBook___init__, b_GradeBook___init__, R.bind, f0, cput_last, mul, f1, st, fl, f2, D.flats, flat_ti, D.flat, -List.map_replicate]
theorem now_eq (S : Store) (m : Nat) (t : D) (r : List D) : s_GradeBook_tally_now [.obj S.length] (BK S m (t :: r)) = .ok t (BK S m (t :: r)) := by
  have g : (BK S m (t :: r))[S.length]? = some ⟨0, [.val (nI m), .own (t :: r), .val (.int 0)]⟩ := BK_get _ _
  have e : opIx (.lst (t :: r)) (.int 0) = some t := ix_lst (t :: r) 0
  simp [s_GradeBook_tally_now, b_GradeBook_tally_now, R.bind, fldOf, g, deref, e]
theorem pass_eq0 (S : Store) (c : List Int) (r : List D) (g : Nat) : s_GradeBook_pass_grade [.obj S.length, nI g] (BK S 0 (tI' c :: r)) = .ok .non (BK S 0 (tI' c :: r)) := by
  have gt : (BK S 0 (tI' c :: r))[S.length]? = some ⟨0, [.val (nI 0), .own (tI' c :: r), .val (.int 0)]⟩ := BK_get _ _
  have e : opIx (.lst (tI' c :: r)) (.int 0) = some (tI' c) := ix_lst (tI' c :: r) 0
  simp [s_GradeBook_pass_grade, b_GradeBook_pass_grade, R.bind, fldOf, gt, deref, e]
theorem put0 (S : Store) (m : Nat) (t t' : D) (r : List D) : fput (BK S m (t :: r)) S.length 1 (t' :: r) = BK S m (t' :: r) := by
  unfold BK
  rw [fput_last]
  rfl
theorem pass_eq1 (S : Store) (c : List Int) (r : List D) (g : Nat) (hg : g < c.length) (hz : c.length ≤ 1000) : s_GradeBook_pass_grade [.obj S.length, nI g] (BK S 1 (tI' c :: r)) = .ok .non (BK S 1 (tI' (bump c g (-1)) :: r)) := by
  have gt : ∀ t, (BK S 1 (t :: r))[S.length]? = some ⟨0, [.val (nI 1), .own (t :: r), .val (.int 0)]⟩ := fun t => BK_get _ _
  have e : opIx (.lst (tI' c :: r)) (.int 0) = some (tI' c) := ix_lst (tI' c :: r) 0
  have ri := risen_eq c g (-1) (BK S 1 (tI' c :: r)) hg (by omega)
  have ix : L2.ixN (r.length + 1) 0 = some 0 := ixN_nat (r.length + 1) 0 (by omega)
  have p := put0 S 1 (tI' c) (tI' (bump c g (-1))) r
  simp [s_GradeBook_pass_grade, b_GradeBook_pass_grade, R.bind, fldOf, gt, deref, e, ri, ix, p]
theorem pass_eq2 (S : Store) (c : List Int) (r : List D) (g m : Nat) (k : Int) (M : Int) (hm : (m = 2 ∧ k = 1 ∧ M = 4096) ∨ (m = 3 ∧ k = 8 ∧ M = 512)) (hg : g < c.length) (hz : c.length ≤ 1000) : s_GradeBook_pass_grade [.obj S.length, nI g] (BK S m (tI' c :: r)) = .ok .non (BK S m (tI' (grow c g k M) :: r)) := by
  have gt : ∀ t, (BK S m (t :: r))[S.length]? = some ⟨0, [.val (nI m), .own (t :: r), .val (.int 0)]⟩ := fun t => BK_get _ _
  have e : opIx (.lst (tI' c :: r)) (.int 0) = some (tI' c) := ix_lst (tI' c :: r) 0
  have ri := grown_eq c g k M (BK S m (tI' c :: r)) hg (by omega)
  have ix : L2.ixN (r.length + 1) 0 = some 0 := ixN_nat (r.length + 1) 0 (by omega)
  have p := put0 S m (tI' c) (tI' (grow c g k M)) r
  have ru : opIx (.tup [.tup [.int 1, .int 4096], .tup [.int 8, .int 512], .tup [.int 32, .int 64]]) (.int (((m : Int) - 2) % 3)) = some (rl k M) := by
    rcases hm with ⟨rfl, rfl, rfl⟩ | ⟨rfl, rfl, rfl⟩
    · exact ix_tup _ 0
    · exact ix_tup _ 1
  have m1 : ((m : Int) == 1) = false := by rcases hm with ⟨rfl, _⟩ | ⟨rfl, _⟩ <;> rfl
  have m2 : (1 : Int) < m := by omega
  have m4 : ¬ (4 : Int) < m := by omega
  simp [s_GradeBook_pass_grade, b_GradeBook_pass_grade, R.bind, fldOf, gt, deref, e, ru, ri, ix, p, m1, m2, m4]
end DL

end
section
set_option maxRecDepth 100000
set_option maxHeartbeats 1000000
namespace DL
theorem counted_eqL (xs : List Nat) (size : Nat) (S : Store) (hS : Store.flat S = true) (h : ∀ x ∈ xs, x < size) (hs : size ≤ 16777216) : s_counted_tally [.lst (xs.map nI), nI size] S = .ok (tI' (cnt xs size)) S := by
  obtain ⟨s3', e⟩ := counted_loop (.val (.lst (xs.map nI))) (.val (nI size)) S size xs [] .no h
  rw [List.nil_append] at e
  simp [s_counted_tally, b_counted_tally, R.bind, zeros_mul size hs, hS, e]
def modS (nx : List Int → Nat → List Int) (c : List Int) : List Int → List Tri
  | [] => []
  | r :: rs => tally c (gradeN r) :: (figS r ++ modS nx (nx c (gradeN r)) rs)
theorem figS_len (r : Int) : (figS r).length ≤ 25 := by
  unfold figS
  rw [fig_len]
  have : ∀ f n : Nat, (groups f n).length ≤ f := by
    intro f
    induction f with
    | zero => intro n; exact Nat.le_refl _
    | succ f ih =>
      intro n
      unfold groups
      split
      · exact Nat.zero_le _
      · rw [List.length_cons]; have := ih (n - 8); omega
  exact this 25 _
theorem model_loop (a b d : Slot) (S : Store) (hS : Store.flat S = true) (m n : Nat) (hn : n ≤ 1000) (tl : List D) (htl : D.flats tl = true) (nx : List Int → Nat → List Int) (PG : Fn) (hlen : ∀ c g, (nx c g).length = c.length)
    (pass : ∀ c g, c.length = n → g < n → PG [.obj S.length, nI g] (BK S m (tI' c :: tl)) = .ok .non (BK S m (tI' (nx c g) :: tl))) : ∀ (rs : List Int) (c : List Int) (acc : List D) (s5 s6 : Slot), c.length = n → (∀ r ∈ rs, gradeN r < n ∧ gradeN r ≤ 200) → acc.length + 26 * rs.length ≤ 100000 →
    ∃ c' s5' s6', runFor (.nm 5) (sseq (sset 6 (strict (ecall s_grade_of (econs (evar 5) enil))))
    (sseq (sadd 4 addOne (strict (ecall s_tally_step (econs (emeth (evar 3) 0 s_GradeBook_tally_now enil) (econs (evar 6) enil)))))
    (sseq (sadd 4 D.items2 (strict (ecall s_figure_steps (econs (evar 5) enil))))
    (sdrop (strict (emeth (evar 3) 0 PG (econs (evar 6) enil))))))) (rs.map D.int) [a, b, d, .val (.obj S.length), .own acc, s5, s6] (BK S m (tI' c :: tl))
      = .nx [a, b, d, .val (.obj S.length), .own (acc ++ (modS nx c rs).map stepD), s5', s6'] (BK S m (tI' c' :: tl))
  | [], c, acc, s5, s6, _, _, _ => ⟨c, s5, s6, by simp [modS]⟩
  | r :: rs, c, acc, s5, s6, hc, hr, ha => by
    obtain ⟨g1, g2⟩ := hr r List.mem_cons_self
    rw [List.length_cons] at ha
    have fl := figS_len r
    obtain ⟨c', s5', s6', ih⟩ := model_loop a b d S hS m n hn tl htl nx PG hlen pass rs (nx c (gradeN r)) (acc ++ [stepD (tally c (gradeN r))] ++ (figS r).map stepD) (.val (.int r)) (.val (nI (gradeN r))) (by rw [hlen]; exact hc) (fun q hq => hr q (List.mem_cons_of_mem _ hq)) (by rw [List.length_append, List.length_append, List.length_map]; simp only [List.length_cons, List.length_nil]; omega)
    refine ⟨c', s5', s6', ?_⟩
    have bf : Store.flat (BK S m (tI' c :: tl)) = true := BK_flat S m _ hS (by show (D.flat (tI' c) && D.flats tl) = true; rw [flat_ti, htl]; rfl)
    have G := grade_eq r (BK S m (tI' c :: tl))
    have T := tally_step_eq c (gradeN r) (BK S m (tI' c :: tl)) (by omega)
    have N := now_eq S m (tI' c) tl
    have Fg := figure_eq r (BK S m (tI' c :: tl)) bf g2
    have Pa := pass c (gradeN r) hc g1
    have co : clsOf (BK S m (tI' c :: tl)) (.obj S.length) = some 0 := by
      unfold clsOf BK
      dsimp only
      rw [BK_get]
    have lk : ∀ (ac : List D) (y : Slot), look (hide [a, b, d, .val (.obj S.length), .own ac, .val (.int r), y]) 5 = some (.int r) ∧ look (hide [a, b, d, .val (.obj S.length), .own ac, .val (.int r), y]) 3 = some (.obj S.length) := fun ac y => by cases a <;> cases b <;> cases d <;> cases y <;> exact ⟨rfl, rfl⟩
    have lk6 : ∀ (ac : List D) (z : D), look (hide [a, b, d, .val (.obj S.length), .own ac, .val (.int r), .val z]) 6 = some z := fun ac z => by cases a <;> cases b <;> cases d <;> rfl
    generalize s_grade_of = GO at G ih ⊢
    generalize s_tally_step = TS at T ih ⊢
    generalize s_GradeBook_tally_now = TN at N ih ⊢
    generalize s_figure_steps = FS at Fg ih ⊢
    generalize BK S m (tI' c :: tl) = S1 at *
    rw [List.map_cons, ev_runForC]
    simp [R.bind, lk, lk6, G, T, N, Fg, Pa, co, show acc.length + 1 ≤ 16777216 by omega, show acc.length + 1 + (figS r).length ≤ 16777216 by omega]
    simpa [modS] using ih
end DL

end
section
set_option maxRecDepth 100000
set_option maxHeartbeats 1000000
namespace DL
theorem prodI_app : ∀ xs ys : List Int, prodI (xs ++ ys) = prodI xs * prodI ys
  | [], ys => by show prodI ys = 1 * prodI ys; rw [Int.one_mul]
  | x :: r, ys => by
    show x * prodI (r ++ ys) = x * prodI r * prodI ys
    rw [prodI_app r ys, Int.mul_assoc]
def seqS (nx : List Int → Nat → List Int) (c : List Int) : List Nat → List Tri
  | [] => []
  | g :: gs => tally c g :: seqS nx (nx c g) gs
abbrev grs (rs : List Int) : List Nat := rs.map gradeN
def figN (rs : List Int) : Nat := (rs.map fun r => gradeN r - 1).sum
theorem cs_app (a b : List Tri) : cs (a ++ b) = cs a ++ cs b := List.map_append
theorem tt_app (a b : List Tri) : tt (a ++ b) = tt a ++ tt b := List.map_append
theorem modS_c (nx : List Int → Nat → List Int) : ∀ (rs : List Int) (c : List Int), (∀ r ∈ rs, gradeN r ≤ 200) → prodI (cs (modS nx c rs)) = prodI (cs (seqS nx c (grs rs)))
  | [], _, _ => rfl
  | r :: rs, c, h => by
    show (tally c (gradeN r)).2.1 * prodI (cs (figS r ++ modS nx (nx c (gradeN r)) rs)) = (tally c (gradeN r)).2.1 * prodI (cs (seqS nx (nx c (gradeN r)) (grs rs)))
    rw [cs_app, prodI_app, modS_c nx rs _ fun q hq => h q (List.mem_cons_of_mem _ hq)]
    unfold figS
    rw [fig_c, Int.one_mul]
theorem modS_t (nx : List Int → Nat → List Int) : ∀ (rs : List Int) (c : List Int), (∀ r ∈ rs, gradeN r ≤ 200) → prodI (tt (modS nx c rs)) = prodI (tt (seqS nx c (grs rs))) * 2 ^ figN rs
  | [], _, _ => rfl
  | r :: rs, c, h => by
    show (tally c (gradeN r)).2.2 * prodI (tt (figS r ++ modS nx (nx c (gradeN r)) rs)) = (tally c (gradeN r)).2.2 * prodI (tt (seqS nx (nx c (gradeN r)) (grs rs))) * _
    have hr := h r List.mem_cons_self
    rw [tt_app, prodI_app, modS_t nx rs _ fun q hq => h q (List.mem_cons_of_mem _ hq)]
    unfold figS
    rw [fig_t, groups_sum 25 _ (by omega)]
    show _ = _ * 2 ^ ((gradeN r - 1) + figN rs)
    rw [Int.pow_add, Int.mul_assoc]
    congr 1
    rw [← Int.mul_assoc, Int.mul_comm ((2 : Int) ^ (gradeN r - 1)), Int.mul_assoc]
theorem modS_small (nx : List Int → Nat → List Int) : ∀ (rs : List Int) (c : List Int), (∀ t ∈ seqS nx c (grs rs), t.2.1.natAbs < 2 ^ 64 ∧ t.2.2.natAbs < 2 ^ 64) → ∀ t ∈ modS nx c rs, t.2.1.natAbs < 2 ^ 64 ∧ t.2.2.natAbs < 2 ^ 64
  | [], _, _, t, ht => by simp [modS] at ht
  | r :: rs, c, h, t, ht => by
    have ht : t ∈ tally c (gradeN r) :: (figS r ++ modS nx (nx c (gradeN r)) rs) := ht
    have h : ∀ t ∈ tally c (gradeN r) :: seqS nx (nx c (gradeN r)) (grs rs), t.2.1.natAbs < 2 ^ 64 ∧ t.2.2.natAbs < 2 ^ 64 := h
    rcases List.mem_cons.mp ht with e | e
    · exact h t (by rw [e]; exact List.mem_cons_self)
    · rcases List.mem_append.mp e with e | e
      · exact fig_small _ _ (groups_le 25 _) t e
      · exact modS_small nx rs _ (fun u hu => h u (List.mem_cons_of_mem _ hu)) t e
theorem seq_still (c : List Int) : ∀ gs : List Nat, seqS (fun c _ => c) c gs = gs.map (tally c)
  | [] => rfl
  | g :: gs => by show tally c g :: seqS _ c gs = _; rw [seq_still c gs]; rfl
theorem seq_fall : ∀ (gs : List Nat) (c : List Int), seqS (fun c g => bump c g (-1)) c gs = fallS c gs
  | [], _ => rfl
  | g :: gs, c => by show tally c g :: seqS _ _ gs = tally c g :: fallS _ gs; rw [seq_fall gs]
theorem seq_mov (k M : Int) : ∀ (gs : List Nat) (c : List Int), seqS (fun c g => grow c g k M) c gs = movS k M c gs
  | [], _ => rfl
  | g :: gs, c => by show tally c g :: seqS _ _ gs = tally c g :: movS k M _ gs; rw [seq_mov k M gs]
theorem begun_low (rs : List Int) (w m : Nat) (hm : m ≤ 1) (S : Store) (hS : Store.flat S = true) (h : ∀ r ∈ rs, gradeN r < w + 2) (hw : w ≤ 900) (hl : rs.length ≤ 1000) : s_begun_tally [.tup (rs.map D.int), nI w, nI m] S = .ok (tI' (cnt (grs rs) (w + 2))) S := by
  have lc : runLc (.nm 3) tyes (ecall s_grade_of (econs (evar 3) enil)) [.val (.tup (rs.map D.int)), .val (nI w), .val (nI m), .no] (rs.map D.int) S = .ok (rs.map fun r => nI (gradeN r)) S :=
    runLc_to D.int _ _ fun r hr => ⟨_, rfl, by simp [R.bind, grade_eq]⟩
  have C := counted_eqL (grs rs) (w + 2) S hS (fun x hx => by obtain ⟨r, hr, rfl⟩ := List.mem_map.mp hx; exact h r hr) (by omega)
  have eg : (grs rs).map nI = rs.map fun r => nI (gradeN r) := by rw [List.map_map]; rfl
  rw [eg] at C
  have C' : s_counted_tally [.lst (rs.map fun r => nI (gradeN r)), .int ((w : Int) + 2)] S = .ok (tI' (cnt (grs rs) (w + 2))) S := C
  have m1 : ¬ (1 : Int) < m := by omega
  simp [s_begun_tally, b_begun_tally, R.bind, m1, wipeG, lc, C', show rs.length ≤ 16777216 by omega]
theorem begun_high (rs : List Int) (w m : Nat) (hm : 1 < m) (S : Store) (hw : w ≤ 900) : s_begun_tally [.tup (rs.map D.int), nI w, nI m] S = .ok (tI' (List.replicate (w + 2) 1)) S := by
  have C := even_eq (w + 2) S (by omega) (by omega)
  have C' : s_even_tally [.int ((w : Int) + 2)] S = .ok (tI' (List.replicate (w + 2) 1)) S := C
  have m1 : (1 : Int) < m := by omega
  simp [s_begun_tally, b_begun_tally, R.bind, m1, C', -List.map_replicate]
theorem model_eq (rs : List Int) (w m : Nat) (c0 : List Int) (nx : List Int → Nat → List Int) (S : Store) (hS : Store.flat S = true) (hw : w ≤ 900) (hl : rs.length ≤ 1000) (hr : ∀ r ∈ rs, gradeN r < w + 2 ∧ gradeN r ≤ 200) (hc : c0.length = w + 2) (hlen : ∀ c g, (nx c g).length = c.length)
    (bg : s_begun_tally [.tup (rs.map D.int), nI w, nI m] S = .ok (tI' c0) S) (pass : ∀ (tl : List D) c g, c.length = w + 2 → g < w + 2 → s_GradeBook_pass_grade [.obj S.length, nI g] (BK S m (tI' c :: tl)) = .ok .non (BK S m (tI' (nx c g) :: tl))) :
    ∃ S', s_model_course [.tup (rs.map D.int), nI w, nI m] S = .ok (.tup ((modS nx c0 rs).map stepD)) S' ∧ Store.flat S' = true := by
  have ini := init_eq S hS m c0 (by omega)
  rw [hc, show List.replicate (w + 2) (tI' c0) = tI' c0 :: List.replicate (w + 1) (tI' c0) from rfl] at ini
  have ft : D.flats (List.replicate (w + 1) (tI' c0)) = true := flats_rep _ _ (flat_ti c0)
  obtain ⟨c', s5', s6', lp⟩ := model_loop (.val (.tup (rs.map D.int))) (.val (nI w)) (.val (nI m)) S hS m (w + 2) (by omega) (List.replicate (w + 1) (tI' c0)) ft nx s_GradeBook_pass_grade hlen (fun c g h1 h2 => pass _ c g h1 h2) rs c0 [] .no .no hc hr (by simp; omega)
  rw [List.nil_append] at lp
  have bf : ∀ c, Store.flat (BK S m (tI' c :: List.replicate (w + 1) (tI' c0))) = true := fun c => BK_flat S m _ hS (by show (D.flat (tI' c) && D.flats _) = true; rw [flat_ti, ft]; rfl)
  refine ⟨_, ?_, bf c'⟩
  have b0 := bf c0
  unfold s_model_course b_model_course
  generalize s_GradeBook___init__ = IN at ini
  generalize s_begun_tally = BT at bg
  generalize s_grade_of = GO at lp ⊢
  generalize s_tally_step = TS at lp ⊢
  generalize s_GradeBook_tally_now = TN at lp ⊢
  generalize s_figure_steps = FS at lp ⊢
  generalize s_GradeBook_pass_grade = PG at lp ⊢
  have r3 : List.replicate 3 Slot.no = [.no, .no, .no] := rfl
  rw [r3] at ini
  simp [R.bind, bg, ini, D.flats, b0, lp, -List.map_replicate]
end DL

end
section
set_option maxRecDepth 100000
set_option maxHeartbeats 1000000
namespace DL
theorem law_counted_eqL (xs : List Nat) (size : Nat) (S : Store) (hS : Store.flat S = true) (h : ∀ x ∈ xs, x < size) (hs : size ≤ 16777216) : s__law_counted [.lst (xs.map nI), nI size] S = .ok (lI' (cnt xs size)) S := by
  obtain ⟨s3', e⟩ := law_counted_loop (.val (.lst (xs.map nI))) (.val (nI size)) S hS size xs [] .no h
  rw [List.nil_append] at e
  simp [s__law_counted, b__law_counted, R.bind, zeros_mul size hs, hS, e]
theorem rise_le (a g : Nat) (h : a ≤ 100) (hg : g ≤ 8) : ∀ n : Nat, n ≤ 40 → (riseI a g n).natAbs ≤ 2 ^ (9 * n)
  | 0, _ => (show (1 : Int).natAbs ≤ 2 ^ 0 by decide)
  | n + 1, hn => by
    have ih := rise_le a g h hg n (by omega)
    show (riseI a g n * ((a : Int) + (g : Int) * n)).natAbs ≤ _
    rw [Int.natAbs_mul, show 9 * (n + 1) = 9 * n + 9 by omega, Nat.pow_add]
    refine Nat.mul_le_mul ih ?_
    have e : ((a : Int) + (g : Int) * n).natAbs = a + g * n := by
      have : ((a : Int) + (g : Int) * n) = ((a + g * n : Nat) : Int) := by simp
      rw [this]; rfl
    have sm : g * n ≤ 8 * 40 := Nat.mul_le_mul hg (by omega)
    rw [e]
    omega
theorem mov_small (size g : Nat) (M : Int) (hM : M ≤ 4096) : ∀ (xs p : List Nat), (∀ x ∈ p ++ xs, x < size) → (size : Int) + g * ((p ++ xs).length : Int) ≤ M → ∀ t ∈ movS g M (cntG g p size) xs, t.2.1.natAbs < 2 ^ 64 ∧ t.2.2.natAbs < 2 ^ 64
  | [], p, _, _, t, ht => by simp [movS] at ht
  | x :: r, p, h, hm, t, ht => by
    have hx : x < size := h x (by simp)
    have hp : ∀ y ∈ p, y < size := fun y hy => h y (List.mem_append_left _ hy)
    have e1 : ((p ++ x :: r).length : Int) = p.length + 1 + r.length := by simp; omega
    rw [e1] at hm
    have e : (g : Int) * ((p.length : Int) + 1 + r.length) = g * p.length + g + g * r.length := by rw [Int.mul_add, Int.mul_add, Int.mul_one]
    have z : 0 ≤ (g : Int) * (r.length : Int) := Int.mul_nonneg (by omega) (Int.natCast_nonneg _)
    have z2 : 0 ≤ (g : Int) * (p.length : Int) := Int.mul_nonneg (by omega) (Int.natCast_nonneg _)
    have sc := sum_cntG g p size hp
    have no : ¬ M < (cntG g p size).sum + g := by rw [sc]; omega
    have gr : grow (cntG g p size) x g M = cntG g (p ++ [x]) size := by
      unfold grow
      rw [if_neg no, cntG_bump _ _ _ _ hx]
    have ht : t ∈ tally (cntG g p size) x :: movS g M (grow (cntG g p size) x g M) r := ht
    rcases List.mem_cons.mp ht with q | q
    · rw [q]
      have c1 : (tally (cntG g p size) x).2.1 = 1 + g * p.count x := cntG_get g p size x hx
      have c2 : (tally (cntG g p size) x).2.2 = size + g * p.length := sc
      have c3 : (g : Int) * (p.count x : Int) ≤ g * p.length := Int.mul_le_mul_of_nonneg_left (by have : p.count x ≤ p.length := List.count_le_length; omega) (by omega)
      have c4 : 0 ≤ (g : Int) * (p.count x : Int) := Int.mul_nonneg (by omega) (Int.natCast_nonneg _)
      rw [c1, c2]
      omega
    · rw [gr] at q
      have ap : p ++ x :: r = (p ++ [x]) ++ r := by simp
      refine mov_small size g M hM r (p ++ [x]) (by rw [← ap]; exact h) ?_ t q
      rw [← ap, e1]
      exact hm
/-- one model's pair -/
structure Fit (rs : List Int) (w m : Nat) (a b : Int) : Prop where
  run : ∀ S, Store.flat S = true → ∃ (S' : Store) (ts : List Tri), s_model_course [.tup (rs.map D.int), nI w, nI m] S = .ok (.tup (ts.map stepD)) S' ∧ Store.flat S' = true ∧ s_weight_pair [.tup (ts.map stepD)] S' = .ok (.tup [.int a, .int (b * 2 ^ figN rs)]) S'
  sm : b.natAbs ≤ 2 ^ 1000
section
variable (rs : List Int) (w : Nat) (hw : w ≤ 25) (hl : rs.length ≤ 40) (hr : ∀ r ∈ rs, gradeN r < w + 2)
include hw hl hr
theorem grs_lt : ∀ x ∈ grs rs, x < w + 2 := fun x hx => by obtain ⟨r, h, rfl⟩ := List.mem_map.mp hx; exact hr r h
theorem hr2 : ∀ r ∈ rs, gradeN r < w + 2 ∧ gradeN r ≤ 200 := fun r h => ⟨hr r h, by have := hr r h; omega⟩
theorem fit0 : Fit rs w 0 (PF (fS (grs rs)) (grs rs) (w + 2)) ((rs.length : Int) ^ rs.length) := by
  have gl := grs_lt rs w hw hl hr
  have h2 := hr2 rs w hw hl hr
  refine ⟨fun S hS => ?_, ?_⟩
  · obtain ⟨S', e, f⟩ := model_eq rs w 0 _ (fun c _ => c) S hS (by omega) (by omega) h2 (cnt_len _ _) (fun _ _ => rfl) (begun_low rs w 0 (by omega) S hS hr (by omega) (by omega)) fun tl c g _ _ => pass_eq0 S c tl g
    refine ⟨S', _, e, f, ?_⟩
    rw [weight_eq _ S' (modS_small _ rs _ (by rw [seq_still]; exact still_small (grs rs) (grs rs) (w + 2) gl (by simp; omega) gl)), modS_c _ rs _ fun r h => (h2 r h).2, modS_t _ rs _ fun r h => (h2 r h).2, seq_still, still_c _ _ _ gl, still_t, sum_cnt _ _ gl]
    simp
  · exact Nat.le_trans (natAbs_pow_le _ rs.length 8 (by simp; omega)) (Nat.pow_le_pow_right (by decide) (by omega))
theorem fit1 : Fit rs w 1 (PF (fun _ n => facI n) (grs rs) (w + 2)) (facI rs.length) := by
  have gl := grs_lt rs w hw hl hr
  have h2 := hr2 rs w hw hl hr
  refine ⟨fun S hS => ?_, Nat.le_trans (fac_le _ (by omega)) (Nat.pow_le_pow_right (by decide) (by omega))⟩
  obtain ⟨S', e, f⟩ := model_eq rs w 1 _ (fun c g => bump c g (-1)) S hS (by omega) (by omega) h2 (cnt_len _ _) (fun _ _ => bump_len _ _ _) (begun_low rs w 1 (by omega) S hS hr (by omega) (by omega)) fun tl c g h1 h3 => pass_eq1 S c tl g (by omega) (by omega)
  refine ⟨S', _, e, f, ?_⟩
  rw [weight_eq _ S' (modS_small _ rs _ (by rw [seq_fall]; exact fall_small (w + 2) (grs rs) (by simp; omega) gl)), modS_c _ rs _ fun r h => (h2 r h).2, modS_t _ rs _ fun r h => (h2 r h).2, seq_fall, fall_c _ _ gl, fall_t _ _ gl]
  simp
theorem fit2 (m k : Nat) (M : Int) (hm : (m = 2 ∧ (k : Int) = 1 ∧ M = 4096) ∨ (m = 3 ∧ (k : Int) = 8 ∧ M = 512)) (hM : ((w + 2 : Nat) : Int) + k * (rs.length : Int) ≤ M) : Fit rs w m (PF (fun _ n => riseI 1 k n) (grs rs) (w + 2)) (riseI ((w + 2 : Nat) : Int) k rs.length) := by
  have gl := grs_lt rs w hw hl hr
  have h2 := hr2 rs w hw hl hr
  have k8 : k ≤ 8 := by omega
  have key := mov_c (w + 2) k M (by omega) (grs rs) [] (by simpa using gl) (by simpa using hM)
  rw [← rep_cntG, PF_nil (F := fun _ n => riseI 1 k n) (fun j => rfl), Int.one_mul, List.nil_append] at key
  obtain ⟨k1, k2, _⟩ := key
  have z : riseI ((w + 2 : Nat) : Int) k ([] : List Nat).length = 1 := rfl
  rw [z, Int.one_mul] at k2
  refine ⟨fun S hS => ?_, Nat.le_trans (rise_le (w + 2) k (by omega) k8 _ hl) (Nat.pow_le_pow_right (by decide) (by omega))⟩
  obtain ⟨S', e, f⟩ := model_eq rs w m _ (fun c g => grow c g k M) S hS (by omega) (by omega) h2 (by simp) (fun _ _ => grow_len _ _ _ _) (begun_high rs w m (by omega) S (by omega)) fun tl c g h1 h3 => pass_eq2 S c tl g m k M hm (by omega) (by omega)
  refine ⟨S', _, e, f, ?_⟩
  have sm : ∀ t ∈ movS (k : Int) M (List.replicate (w + 2) 1) (grs rs), t.2.1.natAbs < 2 ^ 64 ∧ t.2.2.natAbs < 2 ^ 64 := by
    rw [rep_cntG]
    exact mov_small (w + 2) k M (by omega) (grs rs) [] (by simpa using gl) (by simpa using hM)
  rw [weight_eq _ S' (modS_small _ rs _ (by rw [seq_mov]; exact sm)), modS_c _ rs _ fun r h => (h2 r h).2, modS_t _ rs _ fun r h => (h2 r h).2, seq_mov, k1, k2]
  simp
end
end DL

end
section
set_option maxRecDepth 100000
set_option maxHeartbeats 1000000
namespace DL
section
variable (xs : List Nat) (size : Nat) (S : Store) (hl : xs.length ≤ 240) (h : ∀ x ∈ xs, x < size) (hs : size ≤ 1000)
include hl h hs
theorem lw_still : s__law_still_weight [lI' (cnt xs size)] S = .ok (.tup [.int (PF (fS xs) xs size), .int ((xs.length : Int) ^ xs.length)]) S := by
  show s__law_still_weight [.lst ((cnt xs size).map D.int)] S = _
  rw [cnt_cN, still_weight_eq _ S (fun v hv => by have := cN_le xs size v hv; omega) (by rw [cN_sum xs size h]; omega), cN_sum xs size h]
  congr 4
  unfold PF fS cN
  rw [List.map_map]
  rfl
theorem lw_fall : s__law_falling_weight [lI' (cnt xs size)] S = .ok (.tup [.int (PF (fun _ n => facI n) xs size), .int (facI xs.length)]) S := by
  show s__law_falling_weight [.lst ((cnt xs size).map D.int)] S = _
  rw [cnt_cN, falling_weight_eq _ S (fun v hv => by have := cN_le xs size v hv; omega) (by rw [cN_sum xs size h]; omega), cN_sum xs size h]
  congr 4
  unfold PF cN
  rw [List.map_map]
  rfl
theorem lw_mov (g : Nat) (hg : g ≤ 64) : s__law_moving_weight [lI' (cnt xs size), nI g] S = .ok (.tup [.int (PF (fun _ n => riseI 1 g n) xs size), .int (riseI (size : Int) g xs.length)]) S := by
  show s__law_moving_weight [.lst ((cnt xs size).map D.int), nI g] S = _
  have lc : (cN xs size).length = size := by simp [cN]
  rw [cnt_cN, moving_weight_eq _ g S hg (by rw [lc]; omega) (fun v hv => by have := cN_le xs size v hv; omega) (by rw [cN_sum xs size h]; omega), cN_sum xs size h, lc]
  congr 4
  unfold PF cN
  rw [List.map_map]
  rfl
end
theorem fit_loop (rs : List Int) (w : Nat) (gr nm : D) (s4 s9 : Slot) (ds : List D) (hf : figN rs ≤ 1000000) (k : Nat) (fits : ∀ i, i < k → ∃ a b : Int, Fit rs w i a b ∧ ds[i]? = some (.tup [.int a, .int b])) : ∀ (is : List Nat) (s7 s8 : Slot) (S : Store), (∀ i ∈ is, i < k) → Store.flat S = true →
    ∃ s7' s8' S', runFor (.nm 7) (sseq (sset 8 (strict (etup (econs (eix (eix (evar 6) (evar 7)) (ec (.int 0))) (econs (ebin opShl (eix (eix (evar 6) (evar 7)) (ec (.int 1))) (evar 3)) enil)))))
    (sif (strict (bnot (tru (ecall (s__law_is 8) (econs (ecall s_weight_pair (econs (ecall s_model_course (econs (evar 0) (econs (evar 1) (econs (evar 7) enil)))) enil)) (econs (evar 8) enil)))))) (sret (ec (.bl false))) snx))
      (is.map nI) [.val (.tup (rs.map D.int)), .val (nI w), .val gr, .val (nI (figN rs)), s4, .val nm, .val (.lst ds), s7, s8, s9] S
      = .nx [.val (.tup (rs.map D.int)), .val (nI w), .val gr, .val (nI (figN rs)), s4, .val nm, .val (.lst ds), s7', s8', s9] S' ∧ Store.flat S' = true
  | [], s7, s8, S, _, hS => ⟨s7, s8, S, by simp, hS⟩
  | i :: is, s7, s8, S, hi, hS => by
    obtain ⟨a, b, F, hd⟩ := fits i (hi i List.mem_cons_self)
    obtain ⟨S1, ts, m1, m2, m3⟩ := F.run S hS
    have P := is_pair a (b * 2 ^ figN rs) S1
    obtain ⟨s7', s8', S', ih, ihf⟩ := fit_loop rs w gr nm s4 s9 ds hf k fits is (.val (nI i)) (.val (.tup [.int a, .int (b * 2 ^ figN rs)])) S1 (fun j hj => hi j (List.mem_cons_of_mem _ hj)) m2
    refine ⟨s7', s8', S', ?_, ihf⟩
    have ix1 : opIx (.lst ds) (nI i) = some (.tup [.int a, .int b]) := by rw [ix_lst]; exact hd
    have ix2 : opIx (.tup [.int a, .int b]) (.int 0) = some (.int a) := ix_tup _ 0
    have ix3 : opIx (.tup [.int a, .int b]) (.int 1) = some (.int b) := ix_tup _ 1
    have lg : b.natAbs.log2 < 10000000 := Nat.lt_of_le_of_lt (log2_le _ _ F.sm) (by decide)
    have sh : opShl (.int b) (nI (figN rs)) = some (.int (b * 2 ^ figN rs)) := by
      rw [ev_shl, if_pos ⟨by omega, by omega, lg⟩]
      simp
    have lk : ∀ y : Slot, look (hide [s4, .val nm, .val (.lst ds), .val (nI i), y, s9]) 2 = some (.lst ds) ∧ look (hide [s4, .val nm, .val (.lst ds), .val (nI i), y, s9]) 3 = some (nI i) := fun y => by cases s4 <;> cases y <;> cases s9 <;> exact ⟨rfl, rfl⟩
    have lk8 : ∀ z : D, look (hide [s4, .val nm, .val (.lst ds), .val (nI i), .val z, s9]) 4 = some z := fun z => by cases s4 <;> cases s9 <;> rfl
    generalize s__law_is 8 = IS at P ih ⊢
    generalize s_weight_pair = WP at m3 ih ⊢
    generalize s_model_course = MC at m1 ih ⊢
    rw [List.map_cons, ev_runForC]
    simp [R.bind, lk, lk8, ix1, ix2, ix3, sh, m1, m3, P]
    exact ih
end DL

end
section
set_option maxRecDepth 100000
set_option maxHeartbeats 1000000
namespace DL
theorem max0 (g : Nat) : (if (g : Int) - 1 > 0 then (g : Int) - 1 else 0) = ((g - 1 : Nat) : Int) := by
  split <;> omega
theorem fig_pair (r : Int) (S : Store) (hS : Store.flat S = true) (hg : gradeN r ≤ 200) : s_weight_pair [.tup ((figS r).map stepD)] S = .ok (.tup [.int 1, .int (2 ^ (gradeN r - 1))]) S := by
  unfold figS
  rw [weight_eq _ S (fig_small _ _ (groups_le 25 _)), fig_c, fig_t, groups_sum 25 _ (by omega)]
theorem check_loop (a b c d : Slot) (q5 q6 q7 q8 q9 : Slot) (S : Store) (hS : Store.flat S = true) : ∀ (rs : List Int) (s4 : Slot), (∀ r ∈ rs, gradeN r ≤ 90 ∧ foldN r < 2 ^ 100) →
    ∃ s4', runFor (.nm 4) (sif (strict (bnot (tru (ecall (s__law_is 8) (econs (ecall s_weight_pair (econs (ecall s_figure_steps (econs (evar 4) enil)) enil)) (econs (etup (econs (ec (.int 1)) (econs (ebin opShl (ec (.int 1)) (ecal fMax2 (econs (ec (.int 0)) (econs (ebin opSub (ecall s__law_size (econs (ecall s__law_folded (econs (evar 4) enil)) enil)) (ec (.int 1))) enil)))) enil))) enil)))))) (sret (ec (.bl false))) snx)
      (rs.map D.int) [a, b, c, d, s4, q5, q6, q7, q8, q9] S = .nx [a, b, c, d, s4', q5, q6, q7, q8, q9] S
  | [], s4, _ => ⟨s4, by simp⟩
  | r :: rs, s4, h => by
    obtain ⟨h1, h2⟩ := h r List.mem_cons_self
    obtain ⟨s4', ih⟩ := check_loop a b c d q5 q6 q7 q8 q9 S hS rs (.val (.int r)) fun x hx => h x (List.mem_cons_of_mem _ hx)
    refine ⟨s4', ?_⟩
    have F := figure_eq r S hS (by omega)
    have W := fig_pair r S hS (by omega)
    have P := is_pair 1 (2 ^ (gradeN r - 1)) S
    have Lf := law_folded_eq r S
    have Ls : s__law_size [nI (foldN r)] S = .ok (nI (gradeN r)) S := law_size_eq (foldN r) S h2
    have lk : look (hide [a, b, c, d, .val (.int r), q5, q6, q7, q8, q9]) 4 = some (.int r) := by cases a <;> cases b <;> cases c <;> cases d <;> rfl
    have sh : opShl (.int 1) (.int (if (gradeN r : Int) - 1 > 0 then (gradeN r : Int) - 1 else 0)) = some (.int (2 ^ (gradeN r - 1))) := by
      rw [max0, ev_shl, if_pos ⟨by omega, by omega, by decide⟩]
      simp
    generalize s__law_is 8 = IS at P ih ⊢
    generalize s_weight_pair = WP at W ih ⊢
    generalize s_figure_steps = FS at F ih ⊢
    generalize s__law_folded = FO at Lf ih ⊢
    generalize s__law_size = SZ at Ls ih ⊢
    rw [List.map_cons, ev_runForC]
    rw [ev_put]
    simp only [List.set_cons_succ, List.set_cons_zero, ev_sif, ev_strict, ev_bnot, ev_tru, ev_ecall, ev_econs, ev_evar, lk, R.bind, ev_enil, F, W, Lf, Ls, ev_etup, ev_ec, ev_ebin, ev_ecal, ev_sub, ev_max2, sh]
    simp [P, ih]
theorem models_fine_eq (rs : List Int) (w : Nat) (S : Store) (hS : Store.flat S = true) (hw : w ≤ 25) (hl : rs.length ≤ 40) (hr : ∀ r ∈ rs, gradeN r < w + 2) (hf : ∀ r ∈ rs, foldN r < 2 ^ 100) : ∃ S', s__law_models_fine [.tup (rs.map D.int), nI w] S = .ok (.bl true) S' ∧ Store.flat S' = true := by
  have gl := grs_lt rs w hw hl hr
  have h2 := hr2 rs w hw hl hr
  have len : (grs rs).length = rs.length := by simp
  have eg : (grs rs).map nI = rs.map fun r => nI (gradeN r) := by rw [List.map_map]; rfl
  have c1 : runLc (.nm 4) tyes (ecall s__law_size (econs (ecall s__law_folded (econs (evar 4) enil)) enil)) [.val (.tup (rs.map D.int)), .val (nI w), .no, .no, .no, .no, .no, .no, .no, .no] (rs.map D.int) S = .ok (rs.map fun r => nI (gradeN r)) S :=
    runLc_to D.int _ _ fun r h => ⟨_, rfl, by
      have Lf := law_folded_eq r S
      have Ls : s__law_size [nI (foldN r)] S = .ok (nI (gradeN r)) S := law_size_eq (foldN r) S (hf r h)
      generalize s__law_folded = FO at Lf ⊢
      generalize s__law_size = SZ at Ls ⊢
      simp [R.bind, Lf, Ls]⟩
  have c2 : runLc (.nm 4) tyes (ecall s_grade_of (econs (evar 4) enil)) [.val (.tup (rs.map D.int)), .val (nI w), .val (.lst ((grs rs).map nI)), .no, .no, .no, .no, .no, .no, .no] (rs.map D.int) S = .ok (rs.map fun r => nI (gradeN r)) S :=
    runLc_to D.int _ _ fun r h => ⟨_, rfl, by
      have G := grade_eq r S
      generalize s_grade_of = GO at G ⊢
      simp [R.bind, G]⟩
  have c3 : runLc (.nm 9) tyes (ecal fMax2 (econs (ec (.int 0)) (econs (ebin opSub (evar 9) (ec (.int 1))) enil))) [.val (.tup (rs.map D.int)), .val (nI w), .val (.lst ((grs rs).map nI)), .no, .no, .no, .no, .no, .no, .no] ((grs rs).map nI) S = .ok ((grs rs).map fun g => nI (g - 1)) S :=
    runLc_to nI _ _ fun g h => ⟨_, rfl, by
      have mx : fMax2 [.int 0, .int ((g : Int) - 1)] = some (nI (g - 1)) := by rw [ev_max2, max0]
      simp [R.bind, mx, -ev_max2]⟩
  have sf : fSum [.lst ((grs rs).map fun g => nI (g - 1))] = some (nI (figN rs)) := by
    have e : ((grs rs).map fun g => nI (g - 1)) = (rs.map fun r => gradeN r - 1).map nI := by simp [Function.comp_def]
    rw [e, sum_nI]
    rfl
  have C := law_counted_eqL (grs rs) (w + 2) S hS gl (by omega)
  have W0 := lw_still (grs rs) (w + 2) S (by omega) gl (by omega)
  have W1 := lw_fall (grs rs) (w + 2) S (by omega) gl (by omega)
  have W2 := lw_mov (grs rs) (w + 2) S (by omega) gl (by omega) 1 (by omega)
  have W3 := lw_mov (grs rs) (w + 2) S (by omega) gl (by omega) 8 (by omega)
  rw [len] at W0 W1 W2 W3
  have I1 : s__law_is 8 [.tup (rs.map fun r => nI (gradeN r)), .tup (rs.map fun r => nI (gradeN r))] S = .ok (.bl true) S := by
    have e : (rs.map fun r => nI (gradeN r)) = (rs.map fun r => (gradeN r : Int)).map D.int := by rw [List.map_map]; rfl
    rw [e]
    exact is_ints _ S (by simp; omega)
  have fN : figN rs ≤ 1000000 := by
    have : ∀ l : List Int, (∀ r ∈ l, gradeN r ≤ 200) → figN l ≤ 200 * l.length := fun l => by
      induction l with
      | nil => intro _; exact Nat.le_refl _
      | cons a t ih =>
        intro h
        have := ih fun r hr => h r (List.mem_cons_of_mem _ hr)
        have := h a List.mem_cons_self
        show (gradeN a - 1) + figN t ≤ 200 * (t.length + 1)
        omega
    have := this rs fun r h => (h2 r h).2
    omega
  obtain ⟨s4', ck⟩ := check_loop (.val (.tup (rs.map D.int))) (.val (nI w)) (.val (.lst ((grs rs).map nI))) (.val (nI (figN rs))) .no .no .no .no .no S hS rs .no fun r h => ⟨by have := hr r h; omega, hf r h⟩
  rw [eg] at c2 c3 C ck
  have irl : ∀ (a b c d e f : Slot) (ds : List D), ds.length ≤ 10 → irng1 (econs (elen (evar 6)) enil) (hide [a, b, c, d, e, f, .val (.lst ds), .no, .no, .no]) S = .ok ((List.range ds.length).map nI) S := fun a b c d e f ds h => irng1_nat (by cases a <;> cases b <;> cases c <;> cases d <;> cases e <;> cases f <;> simp [R.bind]) (by omega)
  have F0 := fit0 rs w hw hl hr
  have F1 := fit1 rs w hw hl hr
  have F2 := fit2 rs w hw hl hr 2 1 4096 (.inl ⟨rfl, rfl, rfl⟩) (by omega)
  generalize hD0 : D.tup [.int (PF (fS (grs rs)) (grs rs) (w + 2)), .int ((rs.length : Int) ^ rs.length)] = d0 at *
  generalize hD1 : D.tup [.int (PF (fun _ n => facI n) (grs rs) (w + 2)), .int (facI rs.length)] = d1 at *
  generalize hD2 : D.tup [.int (PF (fun _ n => riseI 1 (1 : Nat) n) (grs rs) (w + 2)), .int (riseI ((w + 2 : Nat) : Int) (1 : Nat) rs.length)] = d2 at *
  by_cases hb : (w : Int) + 2 + 8 * rs.length ≤ 512
  · have F3 := fit2 rs w hw hl hr 3 8 512 (.inr ⟨rfl, rfl, rfl⟩) (by omega)
    generalize hD3 : D.tup [.int (PF (fun _ n => riseI 1 (8 : Nat) n) (grs rs) (w + 2)), .int (riseI ((w + 2 : Nat) : Int) (8 : Nat) rs.length)] = d3 at *
    obtain ⟨s7, s8, S', fl, ff⟩ := fit_loop rs w (.lst (rs.map fun r => nI (gradeN r))) (lI' (cnt (grs rs) (w + 2))) s4' .no [d0, d1, d2, d3] fN 4 (fun i hi => by
      rcases i with _ | _ | _ | _ | i
      · exact ⟨_, _, F0, by rw [hD0]; rfl⟩
      · exact ⟨_, _, F1, by rw [hD1]; rfl⟩
      · exact ⟨_, _, F2, by rw [hD2]; rfl⟩
      · exact ⟨_, _, F3, by rw [hD3]; rfl⟩
      · omega) [0, 1, 2, 3] .no .no S (by decide) hS
    refine ⟨S', ?_, ff⟩
    have L4 : (List.range [d0, d1, d2, d3].length).map nI = [0, 1, 2, 3].map nI := rfl
    have C' : s__law_counted [.lst (rs.map fun r => nI (gradeN r)), .int ((w : Int) + 2)] S = .ok (lI' (cnt (grs rs) (w + 2))) S := C
    have W2' : s__law_moving_weight [lI' (cnt (grs rs) (w + 2)), .int 1] S = .ok d2 S := W2
    have W3' : s__law_moving_weight [lI' (cnt (grs rs) (w + 2)), .int 8] S = .ok d3 S := W3
    have fl4 : D.flats [d0, d1, d2] = true := by rw [← hD0, ← hD1, ← hD2]; rfl
    have ir := irl (.val (.tup (rs.map D.int))) (.val (nI w)) (.val (.lst (rs.map fun r => nI (gradeN r)))) (.val (nI (figN rs))) s4' (.val (lI' (cnt (grs rs) (w + 2)))) [d0, d1, d2, d3] (by simp)
    have lkn : ∀ y : Slot, look (hide [s4', .val (lI' (cnt (grs rs) (w + 2))), y, .no, .no, .no]) 1 = some (lI' (cnt (grs rs) (w + 2))) := fun y => by cases s4' <;> cases y <;> rfl
    have m8 : ∀ z : Int, mulOk 8 z = true := fun z => mulOk_l _ _ (by decide)
    unfold s__law_models_fine b__law_models_fine
    generalize s__law_is 8 = IS at *
    generalize s_weight_pair = WP at *
    generalize s_figure_steps = FS at *
    generalize s__law_folded = FO at *
    generalize s__law_size = SZ at *
    generalize s_grade_of = GO at *
    generalize s_model_course = MC at *
    generalize s__law_counted = LC at *
    generalize s__law_still_weight = LS at *
    generalize s__law_falling_weight = LF at *
    generalize s__law_moving_weight = LM at *
    rw [L4] at ir
    simp only [List.map_cons, List.map_nil] at fl ir
    simp only [ev_hideV] at ir
    simp [R.bind, wipeG, -List.map_map, c1, c2, c3, I1, sf, ck, C', W0, W1, W2', W3', fl4, hS, hb, ir, fl, lkn, m8, show rs.length ≤ 16777216 by omega]
  · obtain ⟨s7, s8, S', fl, ff⟩ := fit_loop rs w (.lst (rs.map fun r => nI (gradeN r))) (lI' (cnt (grs rs) (w + 2))) s4' .no [d0, d1, d2] fN 3 (fun i hi => by
      rcases i with _ | _ | _ | i
      · exact ⟨_, _, F0, by rw [hD0]; rfl⟩
      · exact ⟨_, _, F1, by rw [hD1]; rfl⟩
      · exact ⟨_, _, F2, by rw [hD2]; rfl⟩
      · omega) [0, 1, 2] .no .no S (by decide) hS
    refine ⟨S', ?_, ff⟩
    have L3 : (List.range [d0, d1, d2].length).map nI = [0, 1, 2].map nI := rfl
    have C' : s__law_counted [.lst (rs.map fun r => nI (gradeN r)), .int ((w : Int) + 2)] S = .ok (lI' (cnt (grs rs) (w + 2))) S := C
    have W2' : s__law_moving_weight [lI' (cnt (grs rs) (w + 2)), .int 1] S = .ok d2 S := W2
    have fl4 : D.flats [d0, d1, d2] = true := by rw [← hD0, ← hD1, ← hD2]; rfl
    have ir := irl (.val (.tup (rs.map D.int))) (.val (nI w)) (.val (.lst (rs.map fun r => nI (gradeN r)))) (.val (nI (figN rs))) s4' (.val (lI' (cnt (grs rs) (w + 2)))) [d0, d1, d2] (by simp)
    have lkn : ∀ y : Slot, look (hide [s4', .val (lI' (cnt (grs rs) (w + 2))), y, .no, .no, .no]) 1 = some (lI' (cnt (grs rs) (w + 2))) := fun y => by cases s4' <;> cases y <;> rfl
    have m8 : ∀ z : Int, mulOk 8 z = true := fun z => mulOk_l _ _ (by decide)
    unfold s__law_models_fine b__law_models_fine
    generalize s__law_is 8 = IS at *
    generalize s_weight_pair = WP at *
    generalize s_figure_steps = FS at *
    generalize s__law_folded = FO at *
    generalize s__law_size = SZ at *
    generalize s_grade_of = GO at *
    generalize s_model_course = MC at *
    generalize s__law_counted = LC at *
    generalize s__law_still_weight = LS at *
    generalize s__law_falling_weight = LF at *
    generalize s__law_moving_weight = LM at *
    rw [L3] at ir
    simp only [List.map_cons, List.map_nil] at fl ir
    simp only [ev_hideV] at ir
    simp [R.bind, wipeG, -List.map_map, c1, c2, c3, I1, sf, ck, C', W0, W1, W2', fl4, hS, show ¬ ((w : Int) + 2 + 8 * rs.length ≤ 512) from hb, ir, fl, lkn, m8, show rs.length ≤ 16777216 by omega]
end DL

end
section
set_option maxRecDepth 100000
set_option maxHeartbeats 1000000
namespace DL
def okD (ds : List Int) : Prop := ∀ d ∈ ds, 0 ≤ d ∧ d < 5040
theorem okD_snoc {ds : List Int} {x : Int} (h : okD ds) (h0 : 0 ≤ x) (h1 : x < 5040) : okD (ds ++ [x]) := fun d hd => by
  rcases List.mem_append.mp hd with q | q
  · exact h d q
  · rw [List.mem_singleton.mp q]; exact ⟨h0, h1⟩
theorem draws_loop (a b : Slot) (dg : Bool) (seed : Int) (S : Store) : ∀ (ks : List Nat) (rest : Int) (ds : List Int) (s6 s7 : Slot), okD ds → ds.length + ks.length ≤ 100000 →
    ∃ rest' ds' s6' s7', runFor (.nm 6) (sif (strict (band (tru (evar 3)) (tst (ebin opGt (evar 2) (ec (.int 0)))))) (sseq (sadd 5 addOne (strict (ebin opMod (ecal fInt1 (econs (evar 2) enil)) (ec (.int 5040)))))
    (sset 2 (strict (ebin opDiv (evar 2) (ec (.int 5040)))))) (sseq (sset 7 (strict (ebin opMod (ecal fInt1 (econs (ebin opAdd (ebin opAdd (ebin opMul (evar 4) (ec (.int 48271))) (ebin opMul (ebin opAdd (evar 6) (ec (.int 1))) (ec (.int 69621)))) (ec (.int 11))) enil)) (ec (.int 2147483647)))))
    (sseq (sset 7 (strict (ebin opMod (ecal fInt1 (econs (ebin opAdd (ebin opMul (evar 7) (evar 7)) (ebin opMul (ec (.int 40692)) (ebin opAdd (evar 6) (ec (.int 3))))) enil)) (ec (.int 2147483399)))))
    (sadd 5 addOne (strict (ebin opMod (ecal fInt1 (econs (ebin opDiv (evar 7) (ec (.int 64))) enil)) (ec (.int 5040))))))))
      (ks.map nI) [a, b, .val (.int rest), .val (.bl dg), .val (.int seed), .own (ds.map D.int), s6, s7] S
      = .nx [a, b, .val (.int rest'), .val (.bl dg), .val (.int seed), .own (ds'.map D.int), s6', s7'] S ∧ ds'.length = ds.length + ks.length ∧ okD ds'
  | [], rest, ds, s6, s7, h, _ => ⟨rest, ds, s6, s7, by simp, by simp, h⟩
  | k :: ks, rest, ds, s6, s7, h, hl => by
    rw [List.length_cons] at hl
    have lk0 : ∀ (o : List D) (y : Slot) (r : Int), look (hide [a, b, .val (.int r), .val (.bl dg), .val (.int seed), .own o, .val (nI k), y]) 3 = some (.bl dg) ∧ look (hide [a, b, .val (.int r), .val (.bl dg), .val (.int seed), .own o, .val (nI k), y]) 2 = some (.int r) ∧ look (hide [a, b, .val (.int r), .val (.bl dg), .val (.int seed), .own o, .val (nI k), y]) 4 = some (.int seed) ∧
        look (hide [a, b, .val (.int r), .val (.bl dg), .val (.int seed), .own o, .val (nI k), y]) 6 = some (nI k) := fun o y r => by cases a <;> cases b <;> cases y <;> exact ⟨rfl, rfl, rfl, rfl⟩
    have lk7 : ∀ (o : List D) (r z : Int), look (hide [a, b, .val (.int r), .val (.bl dg), .val (.int seed), .own o, .val (nI k), .val (.int z)]) 7 = some (.int z) := fun o r z => by cases a <;> cases b <;> rfl
    have m1 : ∀ z : Int, mulOk z 48271 = true := fun z => mulOk_r _ _ (by decide)
    have m2 : ∀ z : Int, mulOk z 69621 = true := fun z => mulOk_r _ _ (by decide)
    have m3 : ∀ z : Int, mulOk 40692 z = true := fun z => mulOk_l _ _ (by decide)
    have l1 : Nat.log2 5040 < 9000 := by decide
    have l2 : Nat.log2 64 < 9000 := by decide
    have hz : ds.length + 1 ≤ 16777216 := by omega
    by_cases c : dg = true ∧ 0 < rest
    · obtain ⟨c1, c2⟩ := c
      obtain ⟨r', ds', s6', s7', i1, i2, i3⟩ := draws_loop a b dg seed S ks (rest / 5040) (ds ++ [rest % 5040]) (.val (nI k)) s7 (okD_snoc h (by omega) (by omega)) (by simp only [List.length_append, List.length_cons, List.length_nil]; omega)
      refine ⟨r', ds', s6', s7', ?_, by rw [i2]; simp only [List.length_append, List.length_cons, List.length_nil]; omega, i3⟩
      rw [List.map_cons, ev_runForC]
      subst c1
      simp [R.bind, lk0, c2, l1, hz]
      simpa using i1
    · generalize hM : (seed * 48271 + ((k : Int) + 1) * 69621 + 11) % 2147483647 = M
      have bM : 0 ≤ M ∧ M < 2147483647 := by rw [← hM]; omega
      have mM : mulOk M M = true := mulOk_r _ _ (by omega)
      generalize hN : (M * M + 40692 * ((k : Int) + 3)) % 2147483399 = N
      obtain ⟨r', ds', s6', s7', i1, i2, i3⟩ := draws_loop a b dg seed S ks rest (ds ++ [N / 64 % 5040]) (.val (nI k)) (.val (.int N)) (okD_snoc h (by omega) (by omega)) (by simp only [List.length_append, List.length_cons, List.length_nil]; omega)
      refine ⟨r', ds', s6', s7', ?_, by rw [i2]; simp only [List.length_append, List.length_cons, List.length_nil]; omega, i3⟩
      rw [List.map_cons, ev_runForC]
      by_cases c1 : dg = true
      · have c2 : ¬ 0 < rest := fun q => c ⟨c1, q⟩
        subst c1
        simp [R.bind, lk0, lk7, c2, l2, hz, m1, m2, m3, hM, mM, hN]
        simpa using i1
      · have c1 : dg = false := by cases dg <;> simp_all
        subst c1
        simp [R.bind, lk0, lk7, l2, hz, m1, m2, m3, hM, mM, hN]
        simpa using i1
theorem draws_eq (x : Int) (n : Nat) (S : Store) (hS : Store.flat S = true) (hn : n ≤ 90000) : ∃ ds : List Int, s__law_draws [.int x, nI n] S = .ok (lI' ds) S ∧ ds.length = n ∧ okD ds := by
  generalize hy : (if x < 0 then -x else x) = y
  obtain ⟨r', ds', s6', s7', i1, i2, i3⟩ := draws_loop (.val (.int x)) (.val (nI n)) (decide (10 ^ 18 ≤ y)) y S (List.range n) y [] .no .no (fun d hd => by cases hd) (by simp; omega)
  refine ⟨ds', ?_, by rw [i2]; simp, i3⟩
  have rg : irng1 (econs (evar 1) enil) (hide [.val (.int x), .val (nI n), .val (.int y), .val (.bl (decide (10 ^ 18 ≤ y))), .val (.int y), .own [], .no, .no]) S = .ok ((List.range n).map nI) S := irng1_nat (by simp [R.bind]) (by omega)
  have pw : opPow (.int 10) (.int 18) = some (.int (10 ^ 18)) := rfl
  rw [List.map_nil] at i1
  generalize hE : (10 : Int) ^ 18 = E at *
  simp only [ev_hideV, ev_hideO, ev_hideN, ev_hide0] at rg
  simp [s__law_draws, b__law_draws, R.bind, hy, pw, hS, D.flats, rg, i1]
end DL

end
section
set_option maxRecDepth 100000
set_option maxHeartbeats 1000000
namespace DL
theorem cell_eq (ns : List Int) (k : Nat) (S : Store) : ∃ x : Int, s__law_cell [.scr ns, nI k] S = .ok (.int x) S := by
  by_cases h : k < ns.length
  · have e : opIx (.scr ns) (nI k) = some (.int ns[k]) := by
      show (L2.atI ns (k : Int)).map D.int = _
      rw [atI_nat']; simp [h]
    refine ⟨ns[k], ?_⟩
    simp [s__law_cell, b__law_cell, R.bind, h, e]
  · have m : mulOk 5 (k : Int) = true := mulOk_l _ _ (by decide)
    refine ⟨5 * k + 3, ?_⟩
    simp [s__law_cell, b__law_cell, R.bind, h, m]
theorem pick6 (d : Int) (a b c e f g : Int) : ∃ z : Int, opIx (.tup [.int a, .int b, .int c, .int e, .int f, .int g]) (.int (d % 6)) = some (.int z) := by
  have h : d % 6 = 0 ∨ d % 6 = 1 ∨ d % 6 = 2 ∨ d % 6 = 3 ∨ d % 6 = 4 ∨ d % 6 = 5 := by omega
  rcases h with h | h | h | h | h | h <;> rw [h]
  · exact ⟨_, ix_tup _ 0⟩
  · exact ⟨_, ix_tup _ 1⟩
  · exact ⟨_, ix_tup _ 2⟩
  · exact ⟨_, ix_tup _ 3⟩
  · exact ⟨_, ix_tup _ 4⟩
  · exact ⟨_, ix_tup _ 5⟩
def okR (w : Nat) (rs : List Int) : Prop := ∀ r ∈ rs, -(2 ^ w) ≤ r ∧ r < 2 ^ w
theorem made_loop (ds : List Int) (n w : Nat) (hw : w ≤ 30) (S : Store) (hd : okD ds) : ∀ (is : List Nat) (acc : List Int) (s4 s5 s6 s7 s8 : Slot), (∀ i ∈ is, i < ds.length) → acc.length + is.length ≤ 1000 → okR w acc →
    ∃ rs s4' s5' s6' s7' s8', runFor (.nm 4) (sseq (sset 5 (strict (ecal fInt1 (econs (eix (evar 0) (evar 4)) enil))))
    (sseq (sset 6 (strict (ebin opShl (ec (.int 1)) (evar 2))))
    (sseq (sset 7 (strict (ebin opSub (ebin opMod (ebin opDiv (evar 5) (ec (.int 6))) (ec (.int 9))) (ec (.int 4)))))
    (sseq (sset 8 (strict (eix (etup (econs (evar 7) (econs (evar 7) (econs (ebin opSub (ebin opDiv (evar 5) (ec (.int 6))) (ec (.int 400))) (econs (ebin opSub (evar 6) (ec (.int 1))) (econs (ebin opSub (ec (.int 0)) (evar 6)) (econs (ebin opMul (ebin opMul (evar 5) (evar 5)) (ec (.int 7))) enil))))))) (ebin opMod (evar 5) (ec (.int 6))))))
    (sadd 3 addOne (strict (ebin opSub (ebin opMod (ebin opAdd (evar 8) (evar 6)) (ebin opMul (ec (.int 2)) (evar 6))) (evar 6))))))))
      (is.map nI) [.val (lI' ds), .val (nI n), .val (nI w), .own (acc.map D.int), s4, s5, s6, s7, s8] S = .nx [.val (lI' ds), .val (nI n), .val (nI w), .own (rs.map D.int), s4', s5', s6', s7', s8'] S ∧ rs.length = acc.length + is.length ∧ okR w rs
  | [], acc, s4, s5, s6, s7, s8, _, _, h => ⟨acc, s4, s5, s6, s7, s8, by simp, by simp, h⟩
  | i :: is, acc, s4, s5, s6, s7, s8, hi, hl, h => by
    rw [List.length_cons] at hl
    have li := hi i List.mem_cons_self
    obtain ⟨d0, d1⟩ := hd ds[i] (List.getElem_mem li)
    have ix := ix_li ds i li
    generalize ds[i] = d at d0 d1 ix
    have p : (0 : Int) < 2 ^ w := by exact_mod_cast Nat.two_pow_pos w
    have sh : opShl (.int 1) (nI w) = some (.int (2 ^ w)) := by
      rw [ev_shl, if_pos ⟨by omega, by omega, by decide⟩]
      simp
    generalize hH : (2 : Int) ^ w = H at *
    obtain ⟨z, hz⟩ := pick6 d (d / 6 % 9 - 4) (d / 6 % 9 - 4) (d / 6 - 400) (H - 1) (0 - H) (d * d * 7)
    have m1 : mulOk d d = true := mulOk_r _ _ (by omega)
    have m2 : mulOk (d * d) 7 = true := mulOk_r _ _ (by decide)
    have m3 : mulOk 2 H = true := mulOk_l _ _ (by decide)
    have l6 : Nat.log2 6 < 9000 := by decide
    obtain ⟨rs, s4', s5', s6', s7', s8', i1, i2, i3⟩ := made_loop ds n w hw S hd is (acc ++ [(z + H) % (2 * H) - H]) (.val (nI i)) (.val (.int d)) (.val (.int H)) (.val (.int (d / 6 % 9 - 4))) (.val (.int z)) (fun j hj => hi j (List.mem_cons_of_mem _ hj)) (by simp only [List.length_append, List.length_cons, List.length_nil]; omega) (fun r hr => by
      rcases List.mem_append.mp hr with q | q
      · exact h r q
      · rw [List.mem_singleton.mp q, hH]
        have a1 := Int.emod_nonneg (z + H) (show 2 * H ≠ 0 by omega)
        have a2 := Int.emod_lt_of_pos (z + H) (show 0 < 2 * H by omega)
        omega)
    refine ⟨rs, s4', s5', s6', s7', s8', ?_, by rw [i2]; simp only [List.length_append, List.length_cons, List.length_nil]; omega, i3⟩
    rw [List.map_cons, ev_runForC]
    have hz' : opIx (.tup [.int (d / 6 % 9 - 4), .int (d / 6 % 9 - 4), .int (d / 6 - 400), .int (H - 1), .int (-H), .int (d * d * 7)]) (.int (d % 6)) = some (.int z) := by rw [show -H = 0 - H by omega]; exact hz
    simp [R.bind, ix, sh, l6, show Nat.log2 9 < 9000 by decide, m1, m2, m3, hz, hz', show 0 < H from p, show (0 : Int) < 2 * H by omega, show acc.length + 1 ≤ 16777216 by omega]
    simpa using i1
theorem made_eq (ds : List Int) (n w : Nat) (hw : w ≤ 30) (S : Store) (hS : Store.flat S = true) (hd : okD ds) (hn : n ≤ ds.length) (hn2 : n ≤ 900) : ∃ rs : List Int, s__law_made_remnants [lI' ds, nI n, nI w] S = .ok (.tup (rs.map D.int)) S ∧ rs.length = n ∧ okR w rs := by
  obtain ⟨rs, s4', s5', s6', s7', s8', i1, i2, i3⟩ := made_loop ds n w hw S hd (List.range n) [] .no .no .no .no .no (fun i hi => by have := List.mem_range.mp hi; omega) (by simp; omega) (fun r hr => by cases hr)
  refine ⟨rs, ?_, by rw [i2]; simp, i3⟩
  have rg : irng1 (econs (evar 1) enil) (hide [.val (lI' ds), .val (nI n), .val (nI w), .own [], .no, .no, .no, .no, .no]) S = .ok ((List.range n).map nI) S := irng1_nat (by simp [R.bind]) (by omega)
  rw [List.map_nil] at i1
  simp only [ev_hideV, ev_hideO, ev_hideN, ev_hide0] at rg
  simp [s__law_made_remnants, b__law_made_remnants, R.bind, hS, D.flats, rg, i1]
theorem rem_small (w : Nat) (r : Int) (h : -(2 ^ w) ≤ r ∧ r < 2 ^ w) : foldN r < 2 ^ (w + 1) := by
  have e := foldN_eq r
  have p : ((2 ^ (w + 1) : Nat) : Int) = 2 * 2 ^ w := by rw [Nat.pow_succ]; simp [Int.mul_comm]
  generalize (2 : Int) ^ w = H at *
  split at e <;> omega
end DL

end
section
set_option maxRecDepth 100000
set_option maxHeartbeats 1000000
namespace DL
theorem emod_nat (d : Int) (n : Nat) (h : 0 < n) : ∃ k : Nat, k < n ∧ d % n = (k : Int) := by
  have a1 := Int.emod_nonneg d (show (n : Int) ≠ 0 by omega)
  have a2 := Int.emod_lt_of_pos d (show (0 : Int) < n by omega)
  exact ⟨(d % n).toNat, by omega, by omega⟩
theorem okD_get {ds : List Int} (h : okD ds) {i : Nat} (hi : i < ds.length) : ∃ d : Int, opIx (lI' ds) (nI i) = some (.int d) := ⟨_, ix_li ds i hi⟩
theorem cut_mid {α : Type} (xs : List α) (i j : Nat) : cutL xs (some (i : Int)) (some (j : Int)) = (xs.drop (min i xs.length)).take (min j xs.length - min i xs.length) := by
  unfold cutL
  rw [HT.sIx_nat, HT.sIx_nat]
noncomputable abbrev turnB : St := (sseq (sset 2 (strict (ecall s__law_draws (econs (ecall s__law_cell (econs (evar 0) (econs (evar 1) enil))) (econs (ec (.int 210)) enil)))))
    (sseq (sset 3 (strict (ebin opAdd (ec (.int 2)) (ebin opMod (ecal fInt1 (econs (eix (evar 2) (ec (.int 0))) enil)) (ec (.int 31))))))
    (sseq (sset 4 (strict (eix (etup (econs (evar 3) (econs (ecal fMin2 (econs (evar 3) (econs (ec (.int 3)) enil))) enil))) (ebin opMod (ecal fInt1 (econs (eix (evar 2) (ec (.int 1))) enil)) (ec (.int 2))))))
    (sseq (sset 5 (strict (ecal fTuple (econs (elc (iseq (ecut (evar 2) (osome (ec (.int 9))) (osome (ebin opAdd (ec (.int 9)) (ebin opMod (ecal fInt1 (econs (eix (evar 2) (ec (.int 2))) enil)) (ec (.int 201))))))) (.nm 9) tyes (ebin opMod (ecal fInt1 (econs (evar 9) enil)) (evar 4)) [9]) enil))))
    (sseq (sset 6 (strict (eix (etup (econs (ec (.int 1)) (econs (ec (.int 2)) (econs (ec (.int 7)) (econs (ec (.int 20)) (econs (ec (.int 32)) enil)))))) (ebin opMod (ecal fInt1 (econs (eix (evar 2) (ec (.int 3))) enil)) (ec (.int 5))))))
    (sseq (sif (strict (bnot (tru (ecall s__law_symbols_fine (econs (evar 5) (econs (evar 3) (econs (evar 6) enil))))))) (sret (ec (.bl false))) snx)
    (sseq (sif (strict (bnot (tru (ecall (s__law_is 8) (econs (ecall s_weight_pair (econs (ecall s_still_course (econs (erev (evar 5)) (econs (evar 3) enil))) enil)) (econs (ecall s__law_still_weight (econs (ecall s__law_counted (econs (evar 5) (econs (evar 3) enil))) enil)) enil)))))) (sret (ec (.bl false))) snx)
    (sseq (sset 7 (strict (ebin opAdd (ec (.int 3)) (ebin opMod (ecal fInt1 (econs (eix (evar 2) (ec (.int 4))) enil)) (ec (.int 23))))))
    (sseq (sset 8 (strict (ecall s__law_made_remnants (econs (ecut (evar 2) (osome (ec (.int 60))) onone) (econs (ebin opAdd (ec (.int 1)) (ebin opMod (ecal fInt1 (econs (eix (evar 2) (ec (.int 5))) enil)) (ec (.int 40)))) (econs (evar 7) enil))))))
    (sif (strict (bnot (tru (ecall s__law_models_fine (econs (evar 8) (econs (evar 7) enil)))))) (sret (ec (.bl false))) snx))))))))))
theorem turn_eq (ns : List Int) (k : Nat) (s2 s3 s4 s5 s6 s7 s8 s9 : Slot) (S : Store) (hS : Store.flat S = true) : ∃ s2' s3' s4' s5' s6' s7' s8' S', turnB [.val (.scr ns), .val (nI k), s2, s3, s4, s5, s6, s7, s8, .no] S = .nx [.val (.scr ns), .val (nI k), s2', s3', s4', s5', s6', s7', s8', .no] S' ∧ Store.flat S' = true := by
  obtain ⟨x, hx⟩ := cell_eq ns k S
  obtain ⟨ds, hd1, hd2, hd3⟩ := draws_eq x 210 S hS (by omega)
  have g : ∀ i : Nat, i < 210 → ∃ d : Int, opIx (lI' ds) (nI i) = some (.int d) := fun i hi => okD_get hd3 (by omega)
  obtain ⟨e0, E0⟩ := g 0 (by omega)
  obtain ⟨e1, E1⟩ := g 1 (by omega)
  obtain ⟨e2, E2⟩ := g 2 (by omega)
  obtain ⟨e3, E3⟩ := g 3 (by omega)
  obtain ⟨e4, E4⟩ := g 4 (by omega)
  obtain ⟨e5, E5⟩ := g 5 (by omega)
  obtain ⟨a0, b0, c0⟩ := emod_nat e0 31 (by omega)
  obtain ⟨a1, b1, c1⟩ := emod_nat e1 2 (by omega)
  obtain ⟨a2, b2, c2⟩ := emod_nat e2 201 (by omega)
  obtain ⟨a3, b3, c3⟩ := emod_nat e3 5 (by omega)
  obtain ⟨a4, b4, c4⟩ := emod_nat e4 23 (by omega)
  obtain ⟨a5, b5, c5⟩ := emod_nat e5 40 (by omega)
  have sz : (2 : Int) + a0 = ((2 + a0 : Nat) : Int) := by omega
  -- sorts
  obtain ⟨so, so1, so2, so3⟩ : ∃ so : Nat, 0 < so ∧ so ≤ 2 + a0 ∧ opIx (.tup [nI (2 + a0), .int (if (3 : Int) < ((2 + a0 : Nat) : Int) then 3 else ((2 + a0 : Nat) : Int))]) (nI a1) = some (nI so) := by
    rcases (by omega : a1 = 0 ∨ a1 = 1) with h | h <;> subst h
    · exact ⟨2 + a0, by omega, Nat.le_refl _, ix_tup _ 0⟩
    · refine ⟨min 3 (2 + a0), by omega, by omega, ?_⟩
      rw [ix_tup]
      show some (D.int _) = _
      congr 2
      omega
  obtain ⟨ga, ga1, ga2, ga3⟩ : ∃ ga : Nat, 1 ≤ ga ∧ ga ≤ 32 ∧ opIx (.tup [.int 1, .int 2, .int 7, .int 20, .int 32]) (nI a3) = some (nI ga) := by
    rcases (by omega : a3 = 0 ∨ a3 = 1 ∨ a3 = 2 ∨ a3 = 3 ∨ a3 = 4) with h | h | h | h | h <;> subst h
    · exact ⟨1, by omega, by omega, ix_tup _ 0⟩
    · exact ⟨2, by omega, by omega, ix_tup _ 1⟩
    · exact ⟨7, by omega, by omega, ix_tup _ 2⟩
    · exact ⟨20, by omega, by omega, ix_tup _ 3⟩
    · exact ⟨32, by omega, by omega, ix_tup _ 4⟩
  -- symbols
  generalize hcut : (ds.drop (min 9 ds.length)).take (min (9 + a2) ds.length - min 9 ds.length) = cut
  have cl : cut.length ≤ 200 := by rw [← hcut, List.length_take]; omega
  have so0 : (0 : Int) < so := by omega
  have lc : ∀ y5 y6 y7 y8 : Slot, runLc (.nm 9) tyes (ebin opMod (ecal fInt1 (econs (evar 9) enil)) (evar 4)) [.val (.scr ns), .val (nI k), .val (lI' ds), .val (nI (2 + a0)), .val (nI so), y5, y6, y7, y8, .no] (cut.map D.int) S = .ok ((cut.map fun d => (d % (so : Int)).toNat).map nI) S := fun y5 y6 y7 y8 => by
    rw [List.map_map]
    refine runLc_to D.int _ cut fun d hd => ⟨_, rfl, ?_⟩
    have e : (d % (so : Int)) = (((d % (so : Int)).toNat : Nat) : Int) := by
      have := Int.emod_nonneg d (show (so : Int) ≠ 0 by omega)
      omega
    have e' : nI (d % (so : Int)).toNat = .int (d % (so : Int)) := by rw [e]; simp
    simp [R.bind, so1, Function.comp_def, e']
  generalize hsy : (cut.map fun d => (d % (so : Int)).toNat) = sy at lc
  have sl : sy.length ≤ 200 := by rw [← hsy, List.length_map]; exact cl
  have sb : ∀ x ∈ sy, x < 2 + a0 := fun x hx => by
    rw [← hsy] at hx
    obtain ⟨d, _, rfl⟩ := List.mem_map.mp hx
    have := Int.emod_lt_of_pos d so0
    omega
  have SF := symbols_fine_eq sy (2 + a0) ga S hS (by omega) sb (by omega) (by omega) ga1 ga2
  obtain ⟨pa, pb, T1, T2, T3⟩ := still_pair sy sy.reverse (2 + a0) S hS (by omega) sb (by omega) (fun i => by simp) (fun x hx => sb x (by simpa using hx)) (by simp)
  have LC := law_counted_eq sy (2 + a0) S hS sb (by omega)
  have P := is_pair pa pb S
  obtain ⟨rs, M1, M2, M3⟩ := made_eq (ds.drop 60) (1 + a5) (3 + a4) (by omega) S hS (fun d hd => hd3 d (List.mem_of_mem_drop hd)) (by rw [List.length_drop]; omega) (by omega)
  obtain ⟨S', MF, fS⟩ := models_fine_eq rs (3 + a4) S hS (by omega) (by omega) (fun r hr => by
    have := (bits_shift (foldN r) (3 + a4 + 1)).mp (Nat.div_eq_of_lt (rem_small _ r (M3 r hr)))
    show bitsN (foldN r) < _
    omega) (fun r hr => Nat.lt_of_lt_of_le (rem_small _ r (M3 r hr)) (Nat.pow_le_pow_right (by decide) (by omega)))
  have rv : (sy.map nI).reverse = sy.reverse.map nI := by rw [List.map_reverse]
  have l31 : Nat.log2 31 < 9000 := by decide
  have cutE : cutL (ds.map D.int) (some 9) (some ((9 : Int) + a2)) = cut.map D.int := by
    have := cut_mid (ds.map D.int) 9 (9 + a2)
    rw [← hcut, List.map_take, List.map_drop]
    simpa using this
  have cut60 : cutL (ds.map D.int) (some 60) none = (ds.drop 60).map D.int := by
    have := cut_drop (ds.map D.int) 60
    rw [List.map_drop]
    exact this
  have c0' : e0 % 31 = a0 := c0
  have c1' : e1 % 2 = a1 := c1
  have c2' : e2 % 201 = a2 := c2
  have c3' : e3 % 5 = a3 := c3
  have c4' : e4 % 23 = a4 := c4
  have c5' : e5 % 40 = a5 := c5
  have hq : List.set (hide [s5, s6, s7, s8, .no]) 4 .no = [s5.hide, s6.hide, s7.hide, s8.hide, .no] := rfl
  refine ⟨.val (lI' ds), .val (.int (2 + (a0 : Int))), .val (nI so), .val (tn sy), .val (nI ga), .val (.int (3 + (a4 : Int))), .val (.tup (rs.map D.int)), S', ?_, fS⟩
  have z3 : (3 : Int) + a4 = ((3 + a4 : Nat) : Int) := by omega
  have z1 : (1 : Int) + a5 = ((1 + a5 : Nat) : Int) := by omega
  have so3' : opIx (.tup [.int (2 + (a0 : Int)), .int (if (3 : Int) < 2 + (a0 : Int) then 3 else 2 + (a0 : Int))]) (nI a1) = some (nI so) := by rw [sz]; exact so3
  have lc' : ∀ y5 y6 y7 y8 : Slot, runLc (.nm 9) tyes (ebin opMod (ecal fInt1 (econs (evar 9) enil)) (evar 4)) [.val (.scr ns), .val (nI k), .val (lI' ds), .val (.int (2 + (a0 : Int))), .val (nI so), y5, y6, y7, y8, .no] (cut.map D.int) S = .ok (sy.map nI) S := by rw [sz]; exact lc
  have SF' : s__law_symbols_fine [tn sy, .int (2 + (a0 : Int)), nI ga] S = .ok (.bl true) S := by rw [sz]; exact SF
  have T1' : s_still_course [tn sy.reverse, .int (2 + (a0 : Int))] S = .ok (.tup ((sy.reverse.map (tally (cnt sy.reverse (2 + a0)))).map stepD)) S := by rw [sz]; exact T1
  have LC' : s__law_counted [tn sy, .int (2 + (a0 : Int))] S = .ok (lI' (cnt sy (2 + a0))) S := by rw [sz]; exact LC
  have M1' : s__law_made_remnants [lI' (ds.drop 60), .int (1 + (a5 : Int)), .int (3 + (a4 : Int))] S = .ok (.tup (rs.map D.int)) S := by rw [z1, z3]; exact M1
  have MF' : s__law_models_fine [.tup (rs.map D.int), .int (3 + (a4 : Int))] S = .ok (.bl true) S' := by rw [z3]; exact MF
  have E0' : opIx (lI' ds) (.int 0) = some (.int e0) := E0
  have E1' : opIx (lI' ds) (.int 1) = some (.int e1) := E1
  have E2' : opIx (lI' ds) (.int 2) = some (.int e2) := E2
  have E3' : opIx (lI' ds) (.int 3) = some (.int e3) := E3
  have E4' : opIx (lI' ds) (.int 4) = some (.int e4) := E4
  have E5' : opIx (lI' ds) (.int 5) = some (.int e5) := E5
  have hd1' : s__law_draws [.int x, .int 210] S = .ok (lI' ds) S := hd1
  unfold turnB
  generalize s__law_draws = LD at *
  generalize s__law_cell = LCe at *
  generalize s__law_symbols_fine = LSF at *
  generalize s__law_is 8 = IS at *
  generalize s_weight_pair = WP at *
  generalize s_still_course = SC at *
  generalize s__law_still_weight = LS at *
  generalize s__law_counted = LCo at *
  generalize s__law_made_remnants = LM at *
  generalize s__law_models_fine = LMF at *
  simp [R.bind, -List.map_map, -List.map_reverse, -List.map_drop, hx, hd1', E0', E1', E2', E3', E4', E5', c0', c1', c2', c3', c4', c5', so3', ga3, cutE, wipeG, hq, lc', show cut.length ≤ 16777216 by omega, SF', rv, T1', T2, T3, LC', P, cut60, M1', MF']
theorem law_ok (ns : List Int) : ∃ S', s_law [.scr ns] [] = .ok (.bl true) S' := by
  obtain ⟨a2, a3, a4, a5, a6, a7, a8, S1, e1, f1⟩ := turn_eq ns 0 .no .no .no .no .no .no .no .no [] rfl
  obtain ⟨b2, b3, b4, b5, b6, b7, b8, S2, e2, f2⟩ := turn_eq ns 1 a2 a3 a4 a5 a6 a7 a8 .no S1 f1
  refine ⟨S2, ?_⟩
  have rg : irng1 (econs (ec (.int 2)) enil) (hide [.val (.scr ns), .no, .no, .no, .no, .no, .no, .no, .no, .no]) [] = .ok ([0, 1].map nI) [] := irng1_nat (n := 2) rfl (by omega)
  have u : b_law = sseq (sfor (strict (irng1 (econs (ec (.int 2)) enil))) (.nm 1) turnB) (sret (ec (.bl true))) := rfl
  have lp : runFor (.nm 1) turnB ([0, 1].map nI) [.val (.scr ns), .no, .no, .no, .no, .no, .no, .no, .no, .no] [] = .nx [.val (.scr ns), .val (nI 1), b2, b3, b4, b5, b6, b7, b8, .no] S2 := by
    rw [List.map_cons, ev_runForC, ev_put]
    simp only [List.set_cons_succ, List.set_cons_zero]
    rw [e1]
    dsimp only
    rw [List.map_cons, ev_runForC, ev_put]
    simp only [List.set_cons_succ, List.set_cons_zero]
    rw [e2]
    rfl
  unfold s_law
  rw [u]
  generalize turnB = TB at lp ⊢
  rw [ev_mkFn, if_pos (show [D.scr ns].length = 1 from rfl)]
  show (match sseq _ _ [.val (.scr ns), .no, .no, .no, .no, .no, .no, .no, .no, .no] [] with | .rt d S' => _ | .nx _ S' => _ | .exc x _ S' => _ | _ => _) = _
  rw [ev_sseq, ev_sfor, ev_strict, rg]
  dsimp only
  rw [lp]
  rfl
end DL

end
theorem PySem.Challenge.cw_psaltery_k22_whole_weights_by_formulas_holds : PySem.Challenge.rw_psaltery_k22_whole_weights_by_formulas.Holds := by
  exact DL.walked fun ns _ => DL.law_ok ns
