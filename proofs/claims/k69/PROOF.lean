import PyProof.Rows.All
import Wide.All
import OpenK.AllK
import Wide.FinOn
import HandS.ForMost
import HandS.ForExc
import HandS.Lambda
import HandS.IsInst
import HandS.Style
import HandS.TupAny
import HandS.TupMul
import KE.KTupSum
import HandS.More
import HandS.Zip
import HandS.SetFor
import HandS.Flow
import HandS.Keys
import HandS.ListItems
import HandS.SortRule
import HandS.Strs
import HandS.Conv
import HandS.SortInts
import HandS.SortKw
import KE.SortKeyHeap
import HandS.ExcIs
import HandS.HotCalls
import HandS.Deep
import KE.DataFind
import PySem.Challenge.RW_backrows_k69_whole_beginnings_held
import HandS.EndTab
import KE.KNestM
set_option Elab.async false
set_option linter.all false
set_option autoImplicit false
set_option maxRecDepth 100000
set_option maxHeartbeats 4000000
namespace Br
open PySem PySem.Spec PyProof.Rows L2

/-! ### results -/
inductive XC where
  | noRule | noNumber | ended | noText | noBack
  deriving DecidableEq
abbrev D := PyData
inductive R (α : Type) where
  | ok (a : α) | exc (c : XC) | stuck
namespace R
def bind {α β : Type} : R α → (α → R β) → R β
  | .ok a, f => f a
  | .exc c, _ => .exc c
  | .stuck, _ => .stuck
@[simp] theorem bind_ok {α β : Type} (a : α) (f : α → R β) : (R.ok a).bind f = f a := rfl
@[simp] theorem bind_exc {α β : Type} (c : XC) (f : α → R β) : (R.exc c : R α).bind f = .exc c := rfl
@[simp] theorem bind_stuck {α β : Type} (f : α → R β) : (R.stuck : R α).bind f = .stuck := rfl
theorem bind_assoc {α β γ : Type} (m : R α) (f : α → R β) (g : β → R γ) : (m.bind f).bind g = m.bind fun a => (f a).bind g := by cases m <;> rfl
def post {α : Type} (m : R α) (q : α → Prop) (e : XC → Prop) : Prop := match m with
  | .ok a => q a
  | .exc c => e c
  | .stuck => False
theorem post_bind {α β : Type} {m : R α} {f : α → R β} {q : β → Prop} {e : XC → Prop} (h : (m.bind f).post q e) : m.post (fun a => (f a).post q e) e := by
  cases m <;> exact h
theorem bind_post {α β : Type} {m : R α} {f : α → R β} {q : β → Prop} {e : XC → Prop} (h : m.post (fun a => (f a).post q e) e) : (m.bind f).post q e := by
  cases m <;> exact h
theorem post_mono {α : Type} {m : R α} {q q' : α → Prop} {e e' : XC → Prop} (h : m.post q e) (hq : ∀ a, m = .ok a → q a → q' a) (he : ∀ c, m = .exc c → e c → e' c) : m.post q' e' := by
  cases m with
  | ok a => exact hq a rfl h
  | exc c => exact he c rfl h
  | stuck => exact h
end R

/-! ### what a slot tells -/
inductive Ob where
  | lst (ds : List D) | dic (kvs : List (Key × D))
/-- a walk: its rule, its row so far, what was, what can be done again -/
structure Wk where
  own : D
  now : D
  past : List D
  later : List D
inductive Slot where
  | un | dat (d : D) | bor (o : Ob) | own (o : Ob)
  /-- an address alone -/
  | ptr (a : Addr)
  /-- a walk of one's own (it may be changed); one that was handed in (only read); p: where it stands -/
  | wlk (p : Addr) (w : Wk) | bwk (p : Addr) (w : Wk)
  /-- a walk of one's own, wherever it stands -/
  | wkx (w : Wk)
abbrev Rho := List Slot

/-! ### how a heap grows: all is kept but the tables of code objects, and these stay such -/
abbrev Tb := List (Addr × Str)
def nt : HO → Bool
  | .tbl _ => false
  | _ => true
structure Grow (T : Tb) (H H' : Hp) : Prop where
  keep : ∀ b o, H b = some o → nt o = true → H' b = some o
  tbl : ∀ b ps, H b = some (.tbl ps) → ∃ ps', H' b = some (.tbl ps')
  tabs : LamX.Tabs T H → LamX.Tabs T H'
theorem Grow.at {T : Tb} {H H' : Hp} (g : Grow T H H') (b : Addr) (o : HO) (h : H b = some o) (n : nt o = true := by rfl) : H' b = some o := g.keep b o h n
instance {T : Tb} {H H' : Hp} : CoeFun (Grow T H H') fun _ => ∀ b o, H b = some o → (_ : nt o = true := by rfl) → H' b = some o := ⟨fun g => @Grow.at _ _ _ g⟩
section
variable {T : Tb} {H H1 H2 H' : Hp}
theorem _root_.L2.Same.g (s : Same H H') : Grow T H H' := ⟨fun b o h _ => s b o h, fun b ps h => ⟨ps, s b _ h⟩, fun t => t.ext s⟩
instance : Coe (Same H H') (Grow T H H') := ⟨fun s => s.g⟩
theorem Grow.refl (T : Tb) (H : Hp) : Grow T H H := (Same.refl H).g
theorem Grow.trans (a : Grow T H H1) (b : Grow T H1 H2) : Grow T H H2 := ⟨fun c o h n => b.keep c o (a.keep c o h n) n, fun c ps h => by
  obtain ⟨ps', h'⟩ := a.tbl c ps h
  exact b.tbl c ps' h', fun t => b.tabs (a.tabs t)⟩
theorem Grow.has (e : Grow T H H') {b : Addr} {o : HO} (h : H b = some o) : ∃ o', H' b = Option.some o' := by
  cases o with
  | tbl ps => obtain ⟨ps', z⟩ := e.tbl b ps h; exact ⟨_, z⟩
  | _ => exact ⟨_, e.keep b _ h rfl⟩
theorem Grow.free (e : Grow T H H') {b : Addr} (h : H' b = none) : H b = none := by
  cases q : H b with
  | none => rfl
  | some o => obtain ⟨o', z⟩ := e.has q; rw [h] at z; cases z
theorem Grow.seq {K : PySem.W.Frag} {a : Addr} {xs : List V} (e : Grow T H H') (h : SqL K H a xs) : SqL K H' a xs := by
  rcases h with (h | ⟨o, h⟩) | h
  · exact .inl (.inl (e _ _ h))
  · exact .inl (.inr ⟨o, e _ _ h⟩)
  · exact .inr h
theorem Grow.tup {K : PySem.W.Frag} {a : Addr} {xs : List V} (e : Grow T H H') (h : SqT K H a xs) : SqT K H' a xs := by
  rcases h with (h | ⟨o, h⟩) | h
  · exact .inl (.inl (e _ _ h))
  · exact .inl (.inr ⟨o, e _ _ h⟩)
  · exact .inr h
end

/-- G' is G with new addresses alone -/
structure Ext (G H G' : Hp) : Prop where
  same : Same G G'
  new : ∀ b o, G' b = some o → G b = some o ∨ H b = none
  tab : ∀ b ps, G' b = some (.tbl ps) → G b = some (.tbl ps)
theorem Ext.refl (G H : Hp) : Ext G H G := ⟨Same.refl G, fun _ _ h => .inl h, fun _ _ h => h⟩
theorem Ext.trans {T : Tb} {G H G1 H1 G2 : Hp} (a : Ext G H G1) (s : Grow T H H1) (b : Ext G1 H1 G2) : Ext G H G2 :=
  ⟨a.same.trans b.same, fun c o h => by
    rcases b.new c o h with h | h
    · exact a.new c o h
    · exact .inr (s.free h), fun c ps h => a.tab c ps (b.tab c ps h)⟩
theorem upd_tab {G : Hp} {p : Addr} {o : HO} (n : nt o = true) (b : Addr) (ps : Array Value) (e : upd G p o b = some (.tbl ps)) : G b = some (.tbl ps) := by
  by_cases hb : b = p
  · subst hb; rw [upd_same] at e; cases e; cases n
  · rw [upd_ne hb] at e; exact e
theorem Ext.free {G H G' : Hp} (a : Ext G H G') {b : Addr} {o : HO} (h : H b = some o) (g : G b = none) : G' b = none := by
  cases q : G' b with
  | none => rfl
  | some u =>
    rcases a.new b u q with z | z
    · rw [g] at z; cases z
    · rw [h] at z; cases z

theorem Same.tup {K : PySem.W.Frag} {H H' : Hp} {a : Addr} {xs : List V} (e : Same H H') (h : SqT K H a xs) : SqT K H' a xs := by
  rcases h with (h | ⟨o, h⟩) | h
  · exact .inl (.inl (e _ _ h))
  · exact .inl (.inr ⟨o, e _ _ h⟩)
  · exact .inr h
mutual
/-- data: lists are tracked ones -/
inductive Dq (K : PySem.W.Frag) (H : Hp) : V → D → Prop
  | non : Dq K H .non .none
  | bl (b : Bool) : Dq K H (.bl b) (.bool b)
  | int (i : Int) : Dq K H (.int i) (.int i)
  | str (x : Str) : Dq K H (.str x) (.str x)
  | lst {a : Addr} {xs : List V} {ds : List D} : H a = some (.lst xs) → DqAll K H xs ds → Dq K H (.ref a) (.list ds)
  | tup {a : Addr} {xs : List V} {ds : List D} : SqT K H a xs → DqAll K H xs ds → Dq K H (.ref a) (.tuple ds)
inductive DqAll (K : PySem.W.Frag) (H : Hp) : List V → List D → Prop
  | nil : DqAll K H [] []
  | cons {v : V} {vs : List V} {d : D} {ds : List D} : Dq K H v d → DqAll K H vs ds → DqAll K H (v :: vs) (d :: ds)
end
mutual
theorem Dq.dp {K : PySem.W.Frag} {H : Hp} : ∀ {v : V} {d : D}, Dq K H v d → Dp K H v d
  | _, _, .non => .non
  | _, _, .bl b => .bl b
  | _, _, .int i => .int i
  | _, _, .str x => .str x
  | _, _, .lst h hs => .lst (SqL.of h) (DqAll.dp hs)
  | _, _, .tup h hs => .tup h (DqAll.dp hs)
theorem DqAll.dp {K : PySem.W.Frag} {H : Hp} : ∀ {v : List V} {d : List D}, DqAll K H v d → DpAll K H v d
  | _, _, .nil => .nil
  | _, _, .cons h hs => .cons (Dq.dp h) (DqAll.dp hs)
end
mutual
theorem dp_mono {K : PySem.W.Frag} {H H' : Hp} (e : Same H H') : ∀ {v : V} {d : D}, Dq K H v d → Dq K H' v d
  | _, _, .non => .non
  | _, _, .bl b => .bl b
  | _, _, .int i => .int i
  | _, _, .str x => .str x
  | _, _, .lst h hs => .lst (e _ _ h) (dpAll_mono e hs)
  | _, _, .tup h hs => .tup (Same.tup e h) (dpAll_mono e hs)
theorem dpAll_mono {K : PySem.W.Frag} {H H' : Hp} (e : Same H H') : ∀ {v : List V} {d : List D}, DqAll K H v d → DqAll K H' v d
  | _, _, .nil => .nil
  | _, _, .cons h hs => .cons (dp_mono e h) (dpAll_mono e hs)
end
theorem DqAll.len {K : PySem.W.Frag} {H : Hp} : ∀ {vs : List V} {ds : List D}, DqAll K H vs ds → vs.length = ds.length
  | _, _, .nil => rfl
  | _, _, .cons _ t => congrArg (· + 1) (DqAll.len t)
theorem DqAll.get {K : PySem.W.Frag} {H : Hp} : ∀ {vs : List V} {ds : List D} {i : Nat} {d : D}, DqAll K H vs ds → ds[i]? = some d → ∃ v, vs[i]? = some v ∧ Dq K H v d
  | _, _, _, _, .nil, e => by simp at e
  | _, _, 0, _, .cons r _, e => by simp at e; subst e; exact ⟨_, rfl, r⟩
  | _, _, i + 1, d, .cons _ t, e => by
    obtain ⟨v, h1, h2⟩ := DqAll.get (i := i) (d := d) t (by simpa using e)
    exact ⟨v, by simpa using h1, h2⟩
theorem DqAll.getV {K : PySem.W.Frag} {H : Hp} : ∀ {vs : List V} {ds : List D} {i : Nat} {v : V}, DqAll K H vs ds → vs[i]? = some v → ∃ d, ds[i]? = some d ∧ Dq K H v d
  | _, _, _, _, .nil, e => by simp at e
  | _, _, 0, _, .cons r _, e => by simp at e; subst e; exact ⟨_, rfl, r⟩
  | _, _, i + 1, d, .cons _ t, e => by
    obtain ⟨v, h1, h2⟩ := DqAll.getV (i := i) (v := d) t (by simpa using e)
    exact ⟨v, by simpa using h1, h2⟩
theorem DqAll.append {K : PySem.W.Frag} {H : Hp} : ∀ {vs ws : List V} {ds es : List D}, DqAll K H vs ds → DqAll K H ws es → DqAll K H (vs ++ ws) (ds ++ es)
  | _, _, _, _, .nil, h => h
  | _, _, _, _, .cons r t, h => .cons r (DqAll.append t h)
theorem DqAll.take {K : PySem.W.Frag} {H : Hp} : ∀ {vs : List V} {ds : List D} (n : Nat), DqAll K H vs ds → DqAll K H (vs.take n) (ds.take n)
  | _, _, 0, _ => .nil
  | _, _, _ + 1, .nil => .nil
  | _, _, n + 1, .cons r t => .cons r (DqAll.take n t)
theorem DqAll.drop {K : PySem.W.Frag} {H : Hp} : ∀ {vs : List V} {ds : List D} (n : Nat), DqAll K H vs ds → DqAll K H (vs.drop n) (ds.drop n)
  | _, _, 0, h => h
  | _, _, _ + 1, .nil => .nil
  | _, _, n + 1, .cons _ t => DqAll.drop n t
theorem DqAll.one {K : PySem.W.Frag} {H : Hp} {v : V} {d : D} (h : Dq K H v d) : DqAll K H [v] [d] := .cons h .nil

/-- the pairs of a dict -/
def KD (K : PySem.W.Frag) (G : Hp) : List (Key × V) → List (Key × D) → Prop := Paired fun p q => p.1 = q.1 ∧ Dq K G p.2 q.2
theorem kd_mono {K : PySem.W.Frag} {H H' : Hp} (e : Same H H') {a : List (Key × V)} {b : List (Key × D)} (h : KD K H a b) : KD K H' a b :=
  Paired.mapP h fun _ _ z => ⟨z.1, dp_mono e z.2⟩

/-- an object that is read: its items stand in G -/
def ObR (K : PySem.W.Frag) (G H : Hp) (p : Addr) : Ob → Prop
  | .lst ds => ∃ xs, SqL K H p xs ∧ DqAll K G xs ds
  | .dic kvs => ∃ us, H p = some (.dK us) ∧ KD K G us kvs
/-- an object of one's own: it may be written -/
def ObW (K : PySem.W.Frag) (G H : Hp) (p : Addr) : Ob → Prop
  | .lst ds => ∃ xs, H p = some (.lst xs) ∧ DqAll K G xs ds
  | .dic kvs => ∃ us, H p = some (.dK us) ∧ KD K G us kvs
theorem ObW.r {K : PySem.W.Frag} {G H : Hp} {p : Addr} {o : Ob} (h : ObW K G H p o) : ObR K G H p o := by
  cases o with
  | lst ds => obtain ⟨xs, e, a⟩ := h; exact ⟨xs, SqL.of e, a⟩
  | dic kvs => exact h
theorem ObR.mono {T : Tb} {K : PySem.W.Frag} {G G' H H' : Hp} {p : Addr} {o : Ob} (h : ObR K G H p o) (g : Same G G') (e : Grow T H H') : ObR K G' H' p o := by
  cases o with
  | lst ds => obtain ⟨xs, q, a⟩ := h; exact ⟨xs, e.seq q, dpAll_mono g a⟩
  | dic kvs => obtain ⟨us, q, a⟩ := h; exact ⟨us, e _ _ q, kd_mono g a⟩
theorem ObW.mono {T : Tb} {K : PySem.W.Frag} {G G' H H' : Hp} {p : Addr} {o : Ob} (h : ObW K G H p o) (g : Same G G') (e : Grow T H H') : ObW K G' H' p o := by
  cases o with
  | lst ds => obtain ⟨xs, q, a⟩ := h; exact ⟨xs, e _ _ q, dpAll_mono g a⟩
  | dic kvs => obtain ⟨us, q, a⟩ := h; exact ⟨us, e _ _ q, kd_mono g a⟩
theorem ObW.at {K : PySem.W.Frag} {G H : Hp} {p : Addr} {o : Ob} (h : ObW K G H p o) : ∃ u, H p = some u := by
  cases o with
  | lst ds => obtain ⟨xs, q, a⟩ := h; exact ⟨_, q⟩
  | dic kvs => obtain ⟨us, q, a⟩ := h; exact ⟨_, q⟩

/-! ### walks -/
def wfs (vo vn : V) (pp pl : Addr) : List (Str × V) := [("own", vo), ("now", vn), ("past", .ref pp), ("later", .ref pl)]
/-- where the class Walk stands -/
def wkC (K : PySem.W.Frag) : Addr := match PySem.W.nsIn K mainGlobals "Walk" with
  | some (some (.ref a)) => a
  | _ => 0
/-- a walk stands at p, its lists at pp and pl -/
def WkAt (K : PySem.W.Frag) (G H : Hp) (p pp pl : Addr) (w : Wk) : Prop :=
  ∃ (dx : Addr) (vo vn : V) (xs ys : List V), H p = some (.ins (wkC K) dx (wfs vo vn pp pl)) ∧ Dq K G vo w.own ∧ Dq K G vn w.now ∧ H pp = some (.lst xs) ∧ DqAll K G xs w.past ∧ H pl = some (.lst ys) ∧ DqAll K G ys w.later ∧ pp ≠ pl
theorem WkAt.move {K : PySem.W.Frag} {G G' H H' : Hp} {p pp pl : Addr} {w : Wk} (h : WkAt K G H p pp pl w) (g : Same G G') (e : ∀ b o, (b = p ∨ b = pp ∨ b = pl) → H b = some o → nt o = true → H' b = some o) : WkAt K G' H' p pp pl w := by
  obtain ⟨dx, vo, vn, xs, ys, h1, h2, h3, h4, h5, h6, h7, h8⟩ := h
  exact ⟨dx, vo, vn, xs, ys, e _ _ (.inl rfl) h1 rfl, dp_mono g h2, dp_mono g h3, e _ _ (.inr (.inl rfl)) h4 rfl, dpAll_mono g h5, e _ _ (.inr (.inr rfl)) h6 rfl, dpAll_mono g h7, h8⟩
theorem WkAt.mono {T : Tb} {K : PySem.W.Frag} {G G' H H' : Hp} {p pp pl : Addr} {w : Wk} (h : WkAt K G H p pp pl w) (g : Same G G') (e : Grow T H H') : WkAt K G' H' p pp pl w := h.move g fun b o _ q n => e.keep b o q n

/-- an object that may be written is no table and no code object -/
def plain : HO → Bool
  | .lst _ => true
  | .dK _ => true
  | .ins _ _ _ => true
  | _ => false
theorem ObW.plain {K : PySem.W.Frag} {G H : Hp} {p : Addr} {o : Ob} (h : ObW K G H p o) : ∃ u, H p = some u ∧ Br.plain u = true := by
  cases o with
  | lst ds => obtain ⟨xs, q, a⟩ := h; exact ⟨_, q, rfl⟩
  | dic kvs => obtain ⟨us, q, a⟩ := h; exact ⟨_, q, rfl⟩
theorem WkAt.plain {K : PySem.W.Frag} {G H : Hp} {p pp pl a : Addr} {w : Wk} (h : WkAt K G H p pp pl w) (ha : a = p ∨ a = pp ∨ a = pl) : ∃ u, H a = some u ∧ Br.plain u = true := by
  obtain ⟨dx, vo, vn, xs, ys, h1, h2, h3, h4, h5, h6, h7, h8⟩ := h
  rcases ha with rfl | rfl | rfl
  · exact ⟨_, h1, rfl⟩
  · exact ⟨_, h4, rfl⟩
  · exact ⟨_, h6, rfl⟩
/-- the heap without three addresses -/
def cut3 (H : Hp) (p q r : Addr) : Hp := fun b => if b = p ∨ b = q ∨ b = r then none else H b
theorem cut3_at {H : Hp} {p q r b : Addr} (h : b = p ∨ b = q ∨ b = r) : cut3 H p q r b = none := if_pos h
theorem cut3_ne {H : Hp} {p q r b : Addr} (h : ¬ (b = p ∨ b = q ∨ b = r)) : cut3 H p q r b = H b := if_neg h
theorem cut3_some {H : Hp} {p q r b : Addr} {o : HO} (h : cut3 H p q r b = some o) : ¬ (b = p ∨ b = q ∨ b = r) ∧ H b = some o := by
  by_cases z : b = p ∨ b = q ∨ b = r
  · rw [cut3_at z] at h; cases h
  · rw [cut3_ne z] at h; exact ⟨z, h⟩
theorem cut3_none {H : Hp} {p q r b : Addr} (h : cut3 H p q r b = none) : (b = p ∨ b = q ∨ b = r) ∨ H b = none := by
  by_cases z : b = p ∨ b = q ∨ b = r
  · exact .inl z
  · rw [cut3_ne z] at h; exact .inr h
theorem cut3_of_none {H : Hp} {p q r b : Addr} (h : H b = none) : cut3 H p q r b = none := by
  by_cases z : b = p ∨ b = q ∨ b = r
  · exact cut3_at z
  · rw [cut3_ne z]; exact h
theorem tabs_cut {T : Tb} {H : Hp} {p q r : Addr} (t : LamX.Tabs T H) (h : ∀ a, a = p ∨ a = q ∨ a = r → ∃ u, H a = some u ∧ Br.plain u = true) : LamX.Tabs T (cut3 H p q r) := fun z hz => by
  obtain ⟨ps, h1, h2, h3⟩ := t z hz
  have n1 : ¬ (z.1 = p ∨ z.1 = q ∨ z.1 = r) := fun y => by
    obtain ⟨u, e, hp⟩ := h _ y
    rw [h1] at e; cases e; cases hp
  refine ⟨ps, by rw [cut3_ne n1]; exact h1, h2, fun pos cv hc => ?_⟩
  obtain ⟨c, e1, e2⟩ := h3 pos cv hc
  have n2 : ¬ (c = p ∨ c = q ∨ c = r) := fun y => by
    obtain ⟨u, e, hp⟩ := h _ y
    rw [e2] at e; cases e; cases hp
  exact ⟨c, e1, by rw [cut3_ne n2]; exact e2⟩
theorem Grow.write {T : Tb} {H0 H : Hp} {p : Addr} {u : HO} (g : Grow T H0 H) (z : H0 p = none) (h : ∃ o, H p = some o ∧ Br.plain o = true) : Grow T H0 (upd H p u) := by
  obtain ⟨o, e, hp⟩ := h
  refine ⟨fun b y q n => by rw [upd_ne (ne_of_none q z)]; exact g.keep b y q n, fun b ps q => by rw [upd_ne (ne_of_none q z)]; exact g.tbl b ps q, fun t r hr => ?_⟩
  obtain ⟨ps, h1, h2, h3⟩ := g.tabs t r hr
  have n1 : r.1 ≠ p := fun y => by rw [y, e] at h1; cases h1; cases hp
  refine ⟨ps, by rw [upd_ne n1]; exact h1, h2, fun pos cv hc => ?_⟩
  obtain ⟨c, e1, e2⟩ := h3 pos cv hc
  have n2 : c ≠ p := fun y => by rw [y, e] at e2; cases e2; cases hp
  exact ⟨c, e1, by rw [upd_ne n2]; exact e2⟩
/-- the heap is one that grew out of what is left of it -/
theorem grow_cut {T : Tb} {H : Hp} {p q r : Addr} (t : LamX.Tabs T H) : Grow T (cut3 H p q r) H := ⟨fun b o h _ => (cut3_some h).2, fun b ps h => ⟨ps, (cut3_some h).2⟩, fun _ => t⟩

/-- what a slot's word says of its value; H0: the heap at the entry -/
def SlotOk (K : PySem.W.Frag) (H0 G H : Hp) (v : Option V) : Slot → Prop
  | .un => True
  | .dat d => ∃ x, v = some x ∧ Dq K G x d
  | .bor o => ∃ p, v = some (.ref p) ∧ ObR K G H0 p o
  | .own o => ∃ p, v = some (.ref p) ∧ ObW K G H p o ∧ G p = none ∧ H0 p = none
  | .ptr a => v = some (.ref a)
  | .wlk p w => v = some (.ref p) ∧ ∃ pp pl, WkAt K G H p pp pl w ∧ ∀ a, (a = p ∨ a = pp ∨ a = pl) → G a = none ∧ H0 a = none
  | .bwk p w => v = some (.ref p) ∧ ∃ pp pl, WkAt K G H0 p pp pl w
  | .wkx w => ∃ p, v = some (.ref p) ∧ ∃ pp pl, WkAt K G H p pp pl w ∧ ∀ a, (a = p ∨ a = pp ∨ a = pl) → G a = none ∧ H0 a = none
def FootW (H : Hp) (p a : Addr) : Prop := ∃ (C dx : Addr) (vo vn : V) (pp pl : Addr), H p = some (.ins C dx (wfs vo vn pp pl)) ∧ (a = p ∨ a = pp ∨ a = pl)
/-- the addresses that a slot may write -/
def Foot (H : Hp) (v : Option V) (a : Addr) : Slot → Prop
  | .own _ => v = some (.ref a)
  | .wlk p _ => FootW H p a
  | .wkx _ => ∃ p, v = some (.ref p) ∧ FootW H p a
  | _ => False
theorem wfs_inj {C C' dx dx' : Addr} {vo vn vo' vn' : V} {pp pl pp' pl' : Addr} (h : some (HO.ins C dx (wfs vo vn pp pl)) = some (HO.ins C' dx' (wfs vo' vn' pp' pl'))) : pp = pp' ∧ pl = pl' := by
  simp only [wfs, Option.some.injEq, HO.ins.injEq, List.cons.injEq, Prod.mk.injEq, V.ref.injEq, true_and, and_true] at h
  exact ⟨h.2.2.2.2.1, h.2.2.2.2.2⟩
theorem WkAt.feetW {K : PySem.W.Frag} {G H : Hp} {p pp pl a : Addr} {w : Wk} (h : WkAt K G H p pp pl w) : FootW H p a ↔ (a = p ∨ a = pp ∨ a = pl) := by
  obtain ⟨dx, vo, vn, xs, ys, h1, _⟩ := h
  constructor
  · rintro ⟨C, dx', vo', vn', pp', pl', e2, e3⟩
    rw [h1] at e2
    obtain ⟨rfl, rfl⟩ := wfs_inj e2
    exact e3
  · exact fun z => ⟨_, dx, vo, vn, pp, pl, h1, z⟩
theorem WkAt.feet {K : PySem.W.Frag} {G H : Hp} {p pp pl a : Addr} {v : Option V} {w w' : Wk} (h : WkAt K G H p pp pl w) : Foot H v a (.wlk p w') ↔ (a = p ∨ a = pp ∨ a = pl) := h.feetW
theorem WkAt.feet_back {K : PySem.W.Frag} {G H H' : Hp} {p pp pl a : Addr} {w : Wk} (q : WkAt K G H p pp pl w) (e : ∀ o, H p = some o → nt o = true → H' p = some o) (f : FootW H' p a) : FootW H p a := by
  obtain ⟨dx, vo, vn, xs, ys, h1, _⟩ := q
  have h1' := e _ h1 rfl
  obtain ⟨C', dx', vo', vn', pp', pl', e2, e3⟩ := f
  rw [h1'] at e2
  obtain ⟨rfl, rfl⟩ := wfs_inj e2
  exact ⟨_, dx, vo, vn, pp, pl, h1, e3⟩
section
variable {T : Tb} {K : PySem.W.Frag} {H0 G0 G H G' H' : Hp} {v : Option V} {s : Slot} {a : Addr}
theorem SlotOk.foot (h : SlotOk K H0 G H v s) (f : Foot H v a s) : (∃ u, H a = some u ∧ Br.plain u = true) ∧ G a = none ∧ H0 a = none := by
  cases s with
  | own o =>
    obtain ⟨p, e, q, g, z⟩ := h
    have f' : v = some (.ref a) := f
    rw [e] at f'; cases f'
    exact ⟨q.plain, g, z⟩
  | wlk p w =>
    obtain ⟨e, pp, pl, q, k⟩ := h
    have f' := q.feet.mp f
    exact ⟨q.plain f', k a f'⟩
  | wkx w =>
    obtain ⟨p, rfl, pp, pl, q, k⟩ := h
    obtain ⟨p', e, f⟩ := f
    cases e
    have f' := q.feetW.mp f
    exact ⟨q.plain f', k a f'⟩
  | _ => exact f.elim
/-- the feet are the same where the heap is kept -/
theorem SlotOk.foot_back (h : SlotOk K H0 G H v s) (e : ∀ b o, v = some (.ref b) → H b = some o → nt o = true → H' b = some o) (f : Foot H' v a s) : Foot H v a s := by
  cases s with
  | own o => exact f
  | wlk p w =>
    obtain ⟨rfl, pp, pl, q, k⟩ := h
    exact q.feet_back (fun o => e p o rfl) f
  | wkx w =>
    obtain ⟨p, rfl, pp, pl, q, k⟩ := h
    obtain ⟨p', e', f⟩ := f
    cases e'
    exact ⟨p, rfl, q.feet_back (fun o => e p o rfl) f⟩
  | _ => exact f.elim
/-- a slot stays as it is, where its feet stay -/
theorem SlotOk.keep (h : SlotOk K H0 G H v s) (x : Same G G') (xf : ∀ b o, H b = some o → Foot H v b s → G' b = none) (e : ∀ b o, Foot H v b s → H b = some o → nt o = true → H' b = some o) : SlotOk K H0 G' H' v s := by
  cases s with
  | un => trivial
  | dat d => obtain ⟨y, e, q⟩ := h; exact ⟨y, e, dp_mono x q⟩
  | bor o => obtain ⟨p, e, q⟩ := h; exact ⟨p, e, q.mono x (Grow.refl [] _)⟩
  | ptr a => exact h
  | bwk p w => obtain ⟨e, pp, pl, q⟩ := h; exact ⟨e, pp, pl, q.move x fun _ _ _ z _ => z⟩
  | own o =>
    obtain ⟨p, rfl, q, g, z⟩ := h
    obtain ⟨u, hu, hp⟩ := q.plain
    refine ⟨p, rfl, ?_, xf p u hu rfl, z⟩
    cases o with
    | lst ds => obtain ⟨xs, q1, q2⟩ := q; exact ⟨xs, e _ _ rfl q1 rfl, dpAll_mono x q2⟩
    | dic kvs => obtain ⟨xs, q1, q2⟩ := q; exact ⟨xs, e _ _ rfl q1 rfl, kd_mono x q2⟩
  | wlk p w =>
    obtain ⟨rfl, pp, pl, q, k⟩ := h
    refine ⟨rfl, pp, pl, q.move x fun b o hb z n => e b o (q.feet.mpr hb) z n, fun a ha => ⟨?_, (k a ha).2⟩⟩
    obtain ⟨u, hu, hp⟩ := q.plain ha
    exact xf a u hu (q.feet.mpr ha)
  | wkx w =>
    obtain ⟨p, rfl, pp, pl, q, k⟩ := h
    refine ⟨p, rfl, pp, pl, q.move x fun b o hb z n => e b o ⟨p, rfl, q.feetW.mpr hb⟩ z n, fun a ha => ⟨?_, (k a ha).2⟩⟩
    obtain ⟨u, hu, hp⟩ := q.plain ha
    exact xf a u hu ⟨p, rfl, q.feetW.mpr ha⟩
end

structure Stt (T : Tb) (K : PySem.W.Frag) (H0 G0 G H : Hp) (σ : L2.St) (ρ : Rho) : Prop where
  gt : ∀ b ps, G0 b ≠ some (.tbl ps)
  tb : LamX.Tabs T H0
  sub0 : Grow T H0 H
  ext : Ext G0 H0 G
  sub : Same G H
  len : σ.length = ρ.length
  slots : ∀ (i : Nat) (s : Slot), ρ[i]? = some s → ∃ v, σ[i]? = some v ∧ SlotOk K H0 G H v s
  apart : ∀ (i j : Nat) (s s' : Slot) (v v' : Option V) (a : Addr), ρ[i]? = some s → ρ[j]? = some s' → σ[i]? = some v → σ[j]? = some v' → Foot H v a s → Foot H v' a s' → i = j

section
variable {T : Tb} {K : PySem.W.Frag} {H0 G0 G H G' H' : Hp} {σ : L2.St} {ρ : Rho}
theorem Stt.ok {i : Nat} {s : Slot} {v : Option V} (S : Stt T K H0 G0 G H σ ρ) (hi : ρ[i]? = some s) (hv : σ[i]? = some v) : SlotOk K H0 G H v s := by
  obtain ⟨w, e, h⟩ := S.slots i s hi
  rw [hv] at e; cases e
  exact h
theorem Stt.grow (S : Stt T K H0 G0 G H σ ρ) (sH : Grow T H H') (x : Ext G H G') (sG : Same G' H') : Stt T K H0 G0 G' H' σ ρ := by
  refine ⟨S.gt, S.tb, S.sub0.trans sH, S.ext.trans S.sub0 x, sG, S.len, fun i s e => ?_, fun i j s s' v v' a e1 e2 e3 e4 f1 f2 => ?_⟩
  · obtain ⟨v, h1, h2⟩ := S.slots i s e
    exact ⟨v, h1, h2.keep x.same (fun b o q f => x.free q (h2.foot f).2.1) fun b o _ q n => sH.keep b o q n⟩
  · exact S.apart i j s s' v v' a e1 e2 e3 e4 ((S.ok e1 e3).foot_back (fun b o _ q n => sH.keep b o q n) f1) ((S.ok e2 e4).foot_back (fun b o _ q n => sH.keep b o q n) f2)
theorem Stt.plainG (S : Stt T K H0 G0 G H σ ρ) (b : Addr) (ps : Array Value) : G b ≠ some (.tbl ps) := fun e => S.gt b ps (S.ext.tab b ps e)
theorem Stt.tabs (S : Stt T K H0 G0 G H σ ρ) : LamX.Tabs T H := S.sub0.tabs S.tb
/-- a set of data stays, when tables alone are changed -/
theorem Grow.sub {G H H' : Hp} (g : Grow T H H') (n : ∀ b ps, G b ≠ some (.tbl ps)) (s : Same G H) : Same G H' := fun b o e => g.keep b o (s b o e) (by
  cases o with
  | tbl ps => exact absurd e (n b ps)
  | _ => rfl)
theorem at_set {α : Type} {l : List α} {i j : Nat} {x y : α} (h : (l.set i x)[j]? = some y) : (i = j ∧ i < l.length ∧ x = y) ∨ (i ≠ j ∧ l[j]? = some y) := by
  by_cases hj : i = j
  · subst hj
    by_cases hi : i < l.length
    · rw [List.getElem?_set_self hi] at h
      cases h
      exact .inl ⟨rfl, hi, rfl⟩
    · rw [List.getElem?_eq_none (by simpa using Nat.le_of_not_lt hi)] at h
      cases h
  · rw [List.getElem?_set_ne hj] at h
    exact .inr ⟨hj, h⟩
/-- a slot is set -/
theorem Stt.put {i : Nat} {v : V} {t : Slot} (S : Stt T K H0 G0 G H σ ρ) (h : SlotOk K H0 G H (some v) t) (np : ∀ (j : Nat) (s : Slot) (w : Option V) (a : Addr), j ≠ i → ρ[j]? = some s → σ[j]? = some w → Foot H w a s → Foot H (some v) a t → False) :
    Stt T K H0 G0 G H (σ.set i (some v)) (ρ.set i t) := by
  refine ⟨S.gt, S.tb, S.sub0, S.ext, S.sub, by simpa using S.len, fun j s e => ?_, fun j k s s' w w' a ej ek sj sk fj fk => ?_⟩
  · rcases at_set e with ⟨rfl, hi, rfl⟩ | ⟨hj, e⟩
    · exact ⟨some v, List.getElem?_set_self (by rw [S.len]; exact hi), h⟩
    · obtain ⟨w, h1, h2⟩ := S.slots j s e
      exact ⟨w, by rw [List.getElem?_set_ne hj]; exact h1, h2⟩
  · rcases at_set ej with ⟨rfl, _, rfl⟩ | ⟨nj, ej⟩
    · rcases at_set ek with ⟨rfl, _, rfl⟩ | ⟨nk, ek⟩
      · rfl
      · rw [List.getElem?_set_ne nk] at sk
        rcases at_set sj with ⟨_, _, rfl⟩ | ⟨z, _⟩
        · exact (np k s' w' a (Ne.symm nk) ek sk fk fj).elim
        · exact absurd rfl z
    · rw [List.getElem?_set_ne nj] at sj
      rcases at_set ek with ⟨rfl, _, rfl⟩ | ⟨nk, ek⟩
      · rcases at_set sk with ⟨_, _, rfl⟩ | ⟨z, _⟩
        · exact (np j s w a (Ne.symm nj) ej sj fj fk).elim
        · exact absurd rfl z
      · rw [List.getElem?_set_ne nk] at sk
        exact S.apart j k s s' w w' a ej ek sj sk fj fk
/-- a slot is set to data -/
theorem Stt.set {i : Nat} {v : V} {d : D} (S : Stt T K H0 G0 G H σ ρ) (h : Dq K G v d) : Stt T K H0 G0 G H (σ.set i (some v)) (ρ.set i (.dat d)) :=
  S.put ⟨v, rfl, h⟩ fun _ _ _ _ _ _ _ _ f => f
/-- a slot is set to a new object of one's own -/
theorem Stt.setOwn {i : Nat} {p : Addr} {o : Ob} (S : Stt T K H0 G0 G H σ ρ) (h : ObW K G H p o) (g : G p = none) (z : H0 p = none) (np : ∀ (j : Nat) (s : Slot) (w : Option V), j ≠ i → ρ[j]? = some s → σ[j]? = some w → ¬ Foot H w p s) :
    Stt T K H0 G0 G H (σ.set i (some (.ref p))) (ρ.set i (.own o)) :=
  S.put ⟨p, rfl, h, g, z⟩ fun j s w a hj e1 e2 f1 f2 => by
    have f2' : some (V.ref p) = some (.ref a) := f2
    cases f2'
    exact np j s w hj e1 e2 f1
/-- what a slot may write is changed -/
theorem Stt.chg {i : Nat} {v : Option V} {s t : Slot} {p q r : Addr} (S : Stt T K H0 G0 G H σ ρ) (hi : ρ[i]? = some s) (hv : σ[i]? = some v) (F : ∀ b, Foot H v b s ↔ (b = p ∨ b = q ∨ b = r)) (g : Grow T (cut3 H p q r) H') (x : Ext G (cut3 H p q r) G') (sG : Same G' H')
    (ok : SlotOk K H0 G' H' v t) (nf : ∀ a, Foot H' v a t → cut3 H p q r a = none) : Stt T K H0 G0 G' H' σ (ρ.set i t) := by
  have O := S.ok hi hv
  have hil : i < ρ.length := (List.getElem?_eq_some_iff.mp hi).1
  have pl : ∀ a, a = p ∨ a = q ∨ a = r → ∃ u, H a = some u ∧ Br.plain u = true := fun a ha => (O.foot ((F a).mpr ha)).1
  have z0 : ∀ a, a = p ∨ a = q ∨ a = r → H0 a = none := fun a ha => (O.foot ((F a).mpr ha)).2.2
  have n0 : ∀ b o, H0 b = some o → ¬ (b = p ∨ b = q ∨ b = r) := fun b o e z => by rw [z0 b z] at e; cases e
  have nj : ∀ (j : Nat) (u : Slot) (w : Option V) (a : Addr), i ≠ j → ρ[j]? = some u → σ[j]? = some w → Foot H w a u → ¬ (a = p ∨ a = q ∨ a = r) := fun j u w a hj e1 e2 f z => hj (S.apart i j s u v w a hi e1 hv e2 ((F a).mpr z) f)
  have kj : ∀ (j : Nat) (u : Slot) (w : Option V), i ≠ j → ρ[j]? = some u → σ[j]? = some w → ∀ b o, Foot H w b u → H b = some o → nt o = true → H' b = some o := fun j u w hj e1 e2 b o f h n => g.keep b o (by rw [cut3_ne (nj j u w b hj e1 e2 f)]; exact h) n
  have own1 : ∀ (j : Nat) (u : Slot) (w : Option V) (b : Addr), i ≠ j → ρ[j]? = some u → σ[j]? = some w → Foot H' w b u → Foot H w b u := fun j u w b hj e1 e2 f => by
    refine (S.ok e1 e2).foot_back (H' := H') (fun c o ec h n => ?_) f
    refine kj j u w hj e1 e2 c o ?_ h n
    cases u with
    | own o => exact ec
    | wlk p' w' =>
      obtain ⟨e, pp', pl', q', _⟩ := S.ok e1 e2
      rw [e] at ec; cases ec
      exact q'.feet.mpr (.inl rfl)
    | wkx w' =>
      obtain ⟨p', e, pp', pl', q', _⟩ := S.ok e1 e2
      rw [e] at ec; cases ec
      exact ⟨c, e, q'.feetW.mpr (.inl rfl)⟩
    | _ => exact f.elim
  refine ⟨S.gt, S.tb, ?_, ?_, sG, by simpa using S.len, fun j u e => ?_, fun j k u u' w w' a ej ek sj sk fj fk => ?_⟩
  · exact ⟨fun b o h n => g.keep b o (by rw [cut3_ne (n0 b o h)]; exact S.sub0.keep b o h n) n, fun b ps h => by
      obtain ⟨ps', h'⟩ := S.sub0.tbl b ps h
      exact g.tbl b ps' (by rw [cut3_ne (n0 b _ h)]; exact h'), fun t => g.tabs (tabs_cut (S.sub0.tabs t) pl)⟩
  · refine ⟨S.ext.same.trans x.same, fun b o h => ?_, fun b ps h => S.ext.tab b ps (x.tab b ps h)⟩
    rcases x.new b o h with h | h
    · exact S.ext.new b o h
    · rcases cut3_none h with h | h
      · exact .inr (z0 b h)
      · exact .inr (S.sub0.free h)
  · rcases at_set e with ⟨rfl, _, rfl⟩ | ⟨hj, e⟩
    · exact ⟨v, hv, ok⟩
    · obtain ⟨w, h1, h2⟩ := S.slots j u e
      refine ⟨w, h1, h2.keep x.same (fun b o h f => ?_) (kj j u w hj e h1)⟩
      exact x.free (by rw [cut3_ne (nj j u w b hj e h1 f)]; exact h) (h2.foot f).2.1
  · rcases at_set ej with ⟨rfl, _, rfl⟩ | ⟨hj, ej⟩
    · rcases at_set ek with ⟨rfl, _, rfl⟩ | ⟨hk, ek⟩
      · rfl
      · rw [hv] at sj; cases sj
        have f := own1 k u' w' a hk ek sk fk
        obtain ⟨⟨o, ho, _⟩, _⟩ := (S.ok ek sk).foot f
        have z := nf a fj
        rw [cut3_ne (nj k u' w' a hk ek sk f), ho] at z
        cases z
    · rcases at_set ek with ⟨rfl, _, rfl⟩ | ⟨hk, ek⟩
      · rw [hv] at sk; cases sk
        have f := own1 j u w a hj ej sj fj
        obtain ⟨⟨o, ho, _⟩, _⟩ := (S.ok ej sj).foot f
        have z := nf a fk
        rw [cut3_ne (nj j u w a hj ej sj f), ho] at z
        cases z
      · exact S.apart j k u u' w w' a ej ek sj sk (own1 j u w a hj ej sj fj) (own1 k u' w' a hk ek sk fk)
/-- the object of the slot i is written -/
theorem Stt.write {i : Nat} {p : Addr} {o o' : Ob} {u : HO} (S : Stt T K H0 G0 G H σ ρ) (hi : ρ[i]? = some (.own o)) (hp : σ[i]? = some (some (.ref p))) (h : ObW K G (upd H p u) p o') :
    Stt T K H0 G0 G (upd H p u) σ (ρ.set i (.own o')) := by
  obtain ⟨p', e2, hw, g, z⟩ := S.ok hi hp
  cases e2
  have nG : ∀ b y, G b = some y → b ≠ p := fun b y e => ne_of_none e g
  refine S.chg (p := p) (q := p) (r := p) hi hp (fun b => ?_) ((grow_cut S.tabs).write (cut3_at (.inl rfl)) hw.plain) (Ext.refl _ _) (fun b y e => by rw [upd_ne (nG b y e)]; exact S.sub b y e) ⟨p, rfl, h, g, z⟩ fun a f => ?_
  · constructor
    · intro f
      have f' : some (V.ref p) = some (.ref b) := f
      cases f'
      exact .inl rfl
    · rintro (rfl | rfl | rfl) <;> rfl
  · have f' : some (V.ref p) = some (.ref a) := f
    cases f'
    exact cut3_at (.inl rfl)
/-- s says no more than t -/
inductive LessS : Slot → Slot → Prop
  | un (t : Slot) : LessS .un t
  | refl (t : Slot) : LessS t t
  | wkx (p : Addr) (w : Wk) : LessS (.wkx w) (.wlk p w)
/-- ρ' says no more than ρ -/
def Less (ρ' ρ : Rho) : Prop := ρ'.length = ρ.length ∧ ∀ (i : Nat) (s : Slot), ρ'[i]? = some s → ∃ t, ρ[i]? = some t ∧ LessS s t
theorem less_nil : Less [] [] := ⟨rfl, fun i s e => by simp at e⟩
theorem less_one {s t : Slot} {r r' : Rho} (hs : LessS s t) (h : Less r' r) : Less (s :: r') (t :: r) := ⟨by simpa using h.1, fun i u e => by
  cases i with
  | zero => simp at e; subst e; exact ⟨t, rfl, hs⟩
  | succ i => simpa using h.2 i u (by simpa using e)⟩
theorem less_cons {s : Slot} {r r' : Rho} (h : Less r' r) : Less (s :: r') (s :: r) := less_one (.refl s) h
theorem less_un {s : Slot} {r r' : Rho} (h : Less r' r) : Less (.un :: r') (s :: r) := less_one (.un s) h
theorem less_wkx {p : Addr} {w : Wk} {r r' : Rho} (h : Less r' r) : Less (.wkx w :: r') (.wlk p w :: r) := less_one (.wkx p w) h
theorem LessS.ok {v : Option V} {s t : Slot} (l : LessS s t) (h : SlotOk K H0 G H v t) : SlotOk K H0 G H v s := by
  cases l with
  | un t => trivial
  | refl t => exact h
  | wkx p w => exact ⟨p, h⟩
theorem LessS.foot {v : Option V} {s t : Slot} {a : Addr} (l : LessS s t) (h : SlotOk K H0 G H v t) (f : Foot H v a s) : Foot H v a t := by
  cases l with
  | un t => exact f.elim
  | refl t => exact f
  | wkx p w =>
    obtain ⟨p', e, f⟩ := f
    rw [h.1] at e
    cases e
    exact f
theorem Stt.less {ρ' : Rho} (S : Stt T K H0 G0 G H σ ρ) (h : Less ρ' ρ) : Stt T K H0 G0 G H σ ρ' := by
  refine ⟨S.gt, S.tb, S.sub0, S.ext, S.sub, S.len.trans h.1.symm, fun i s e => ?_, fun i j s s' v v' a e1 e2 e3 e4 f1 f2 => ?_⟩
  · obtain ⟨t, et, l⟩ := h.2 i s e
    obtain ⟨v, ev, hv⟩ := S.slots i t et
    exact ⟨v, ev, l.ok hv⟩
  · obtain ⟨t1, g1, l1⟩ := h.2 i s e1
    obtain ⟨t2, g2, l2⟩ := h.2 j s' e2
    exact S.apart i j t1 t2 v v' a g1 g2 e3 e4 (l1.foot (S.ok g1 e3) f1) (l2.foot (S.ok g2 e4) f2)
end
end Br
namespace Br
open PySem PySem.Spec PyProof.Rows L2

/-! ### the weakest readings -/
section
variable (X : Cx)
@[irreducible] def wE (e : Expr) : TE := fun σ H Q => ∀ (pins : List (Addr × Obj)) (s : Shared), Inv X pins σ H s → wpAny (model X.prog X.w) X.A (eval e X.env) (EP X pins σ Q) X.xe s
@[irreducible] def wT (e : Expr) : TT := fun σ H Q => ∀ (pins : List (Addr × Obj)) (s : Shared), Inv X pins σ H s → wpAny (model X.prog X.w) X.A (isTrue e X.env (eval e X.env)) (TP X pins σ Q) X.xe s
@[irreducible] def wW (e : Expr) : TT := fun σ H Q => ∀ (whole : Sem Value) (pins : List (Addr × Obj)) (s : Shared), Inv X pins σ H s → wpAny (model X.prog X.w) X.A (isTrue e X.env whole) (TP X pins σ Q) X.xe s
@[irreducible] def wA (es : List Expr) : TA := fun σ H Q => ∀ (pos : Pos) (pins : List (Addr × Obj)) (s : Shared), Inv X pins σ H s → wpAny (model X.prog X.w) X.A (spliced (backTo pos (starEach es X.env))) (AP X pins σ Q) X.xe s
@[irreducible] def wO (e : Option Expr) : TO := fun σ H Q => ∀ (pins : List (Addr × Obj)) (s : Shared), Inv X pins σ H s →
    wpAny (model X.prog X.w) X.A (evalPart e X.env) (fun u s' => ∃ o H', Inv X pins σ H' s' ∧ IsPart u o ∧ Q o H') X.xe s
@[irreducible] def wI (tg iter : Expr) : TI := fun σ H Rr => ∀ (pins : List (Addr × Obj)) (s : Shared), Inv X pins σ H s →
    wpAny (model X.prog X.w) X.A (eval iter X.env) (fun v s1 => wpAny (model X.prog X.w) X.A (pyIter v) (PIE X pins σ tg Rr) X.xe s1) X.xe s
@[irreducible] def wSs (st : List Stmt) : TS := fun D σ H => ∀ (pins : List (Addr × Obj)) (s : Shared), Inv X pins σ H s → wpAny (model X.prog X.w) X.A (execs st X.env) (SP X pins D) X.xe s
@[irreducible] def wS (st : Stmt) : TS := fun D σ H => ∀ (pins : List (Addr × Obj)) (s : Shared), Inv X pins σ H s → wpAny (model X.prog X.w) X.A (exec st X.env) (SP X pins D) X.xe s
end
section
variable {X : Cx}
theorem wE.pe (e : Expr) : PE X e (wE X e) := ⟨fun pins s σ H Q I h => by unfold wE at h; exact h pins s I⟩
theorem wE.of {e : Expr} {t : TE} (h : PE X e t) {σ : L2.St} {H : Hp} {Q : VK} (q : t σ H Q) : wE X e σ H Q := by unfold wE; exact fun pins s I => h.run pins s σ H Q I q
theorem wT.pt (e : Expr) : PT X e (wT X e) := ⟨fun pins s σ H Q I h => by unfold wT at h; exact h pins s I⟩
theorem wT.of {e : Expr} {t : TT} (h : PT X e t) {σ : L2.St} {H : Hp} {Q : Bool → Hp → Prop} (q : t σ H Q) : wT X e σ H Q := by unfold wT; exact fun pins s I => h.run pins s σ H Q I q
theorem wW.pw (e : Expr) : PW X e (wW X e) := ⟨fun whole pins s σ H Q I h => by unfold wW at h; exact h whole pins s I⟩
theorem wW.of {e : Expr} {t : TT} (h : PW X e t) {σ : L2.St} {H : Hp} {Q : Bool → Hp → Prop} (q : t σ H Q) : wW X e σ H Q := by unfold wW; exact fun whole pins s I => h.run whole pins s σ H Q I q
theorem wA.pa (es : List Expr) : PA X es (wA X es) := ⟨fun pos pins s σ H Q I h => by unfold wA at h; exact h pos pins s I⟩
theorem wA.of {es : List Expr} {t : TA} (h : PA X es t) {σ : L2.St} {H : Hp} {Q : List V → Hp → Prop} (q : t σ H Q) : wA X es σ H Q := by unfold wA; exact fun pos pins s I => h.run pos pins s σ H Q I q
theorem wO.po (e : Option Expr) : PO X e (wO X e) := ⟨fun pins s σ H Q I h => by unfold wO at h; exact h pins s I⟩
theorem wO.of {e : Option Expr} {t : TO} (h : PO X e t) {σ : L2.St} {H : Hp} {Q : Option Int → Hp → Prop} (q : t σ H Q) : wO X e σ H Q := by unfold wO; exact fun pins s I => h.run pins s σ H Q I q
theorem wI.pi (tg iter : Expr) : PI X tg iter (wI X tg iter) := ⟨fun pins s σ H Q I h => by unfold wI at h; exact h pins s I⟩
theorem wI.of {tg iter : Expr} {t : TI} (h : PI X tg iter t) {σ : L2.St} {H : Hp} {Q : It → Hp → Prop} (q : t σ H Q) : wI X tg iter σ H Q := by unfold wI; exact fun pins s I => h.run pins s σ H Q I q
theorem wSs.pss (st : List Stmt) : PSs X st (wSs X st) := ⟨fun pins s σ H Q I h => by unfold wSs at h; exact h pins s I⟩
theorem wSs.of {st : List Stmt} {t : TS} (h : PSs X st t) {σ : L2.St} {H : Hp} {De : Ends} (q : t De σ H) : wSs X st De σ H := by unfold wSs; exact fun pins s I => h.run pins s σ H De I q
theorem wS.ps (st : Stmt) : PS X st (wS X st) := ⟨fun pins s σ H Q I h => by unfold wS at h; exact h pins s I⟩
theorem wS.of {st : Stmt} {t : TS} (h : PS X st t) {σ : L2.St} {H : Hp} {De : Ends} (q : t De σ H) : wS X st De σ H := by unfold wS; exact fun pins s I => h.run pins s σ H De I q
end

/-! ### the judgements -/
/-- what is wanted of an exception -/
structure XW where
  T : Tb
  w : XC → L2.St → Hp → Prop
instance : CoeFun XW fun _ => XC → L2.St → Hp → Prop := ⟨XW.w⟩
abbrev EvT (β : Type) := L2.St → Hp → (β → Hp → Prop) → Prop
/-- t gives, from a state of ρ, what m tells; rep: how a value bears it -/
def Ev {α β : Type} (K : PySem.W.Frag) (E : XW) (t : EvT β) (ρ : Rho) (m : R α) (rep : Hp → Hp → β → α → Prop) : Prop :=
  ∀ (H0 G0 G H : Hp) (σ : L2.St) (Q : β → Hp → Prop), Stt E.T K H0 G0 G H σ ρ →
    m.post (fun a => ∀ (v : β) (G' H' : Hp), Grow E.T H H' → Ext G H G' → Same G' H' → rep G' H' v a → Q v H') (fun c => ∀ H', Grow E.T H H' → E c σ H') → t σ H Q
theorem Ev.use {α β γ : Type} {K : PySem.W.Frag} {E : XW} {t : EvT β} {ρ : Rho} {m : R α} {rep : Hp → Hp → β → α → Prop} (h : Ev K E t ρ m rep)
    {H0 G0 G H : Hp} {σ : L2.St} {Q : β → Hp → Prop} (S : Stt E.T K H0 G0 G H σ ρ) {f : α → R γ} {q : γ → Prop} (p : (m.bind f).post q (fun c => ∀ H', Grow E.T H H' → E c σ H'))
    (k : ∀ (a : α) (v : β) (G' H' : Hp), Grow E.T H H' → Ext G H G' → Same G' H' → Stt E.T K H0 G0 G' H' σ ρ → rep G' H' v a → (f a).post q (fun c => ∀ H'', Grow E.T H' H'' → E c σ H'') → Q v H') : t σ H Q := by
  refine h H0 G0 G H σ Q S (R.post_mono (R.post_bind p) (fun a _ pa v G' H' s1 s2 s3 r => ?_) fun c _ z => z)
  exact k a v G' H' s1 s2 s3 (S.grow s1 s2 s3) r (R.post_mono pa (fun _ _ z => z) fun c _ z H'' s => z H'' (s1.trans s))
theorem Ev.use0 {α β : Type} {K : PySem.W.Frag} {E : XW} {t : EvT β} {ρ : Rho} {m : R α} {rep : Hp → Hp → β → α → Prop} (h : Ev K E t ρ m rep)
    {H0 G0 G H : Hp} {σ : L2.St} {Q : β → Hp → Prop} (S : Stt E.T K H0 G0 G H σ ρ) {q : α → Prop} (p : m.post q (fun c => ∀ H', Grow E.T H H' → E c σ H'))
    (k : ∀ (a : α) (v : β) (G' H' : Hp), Grow E.T H H' → Ext G H G' → Same G' H' → Stt E.T K H0 G0 G' H' σ ρ → rep G' H' v a → q a → Q v H') : t σ H Q :=
  h H0 G0 G H σ Q S (R.post_mono p (fun a _ pa v G' H' s1 s2 s3 r => k a v G' H' s1 s2 s3 (S.grow s1 s2 s3) r pa) fun c _ z => z)

/-- data in G; data that may be read; an object whose items stand in G; bools -/
def repE (K : PySem.W.Frag) : Hp → Hp → V → D → Prop := fun G _ v d => Dq K G v d
def repH (K : PySem.W.Frag) : Hp → Hp → V → D → Prop := fun _ H v d => Dp K H v d
def repB (K : PySem.W.Frag) : Hp → Hp → V → Ob → Prop := fun G H v o => ∃ p, v = .ref p ∧ ObR K G H p o
def repT : Hp → Hp → Bool → Bool → Prop := fun _ _ b c => b = c
def repO : Hp → Hp → Option Int → Option Int → Prop := fun _ _ b c => b = c
/-- an argument: data, or an object that is read -/
def ArgOk (K : PySem.W.Frag) (G H : Hp) (v : V) : Slot → Prop
  | .dat d => Dq K G v d
  | .bor o => ∃ p, v = .ref p ∧ ObR K G H p o
  | .bwk p w => v = .ref p ∧ ∃ pp pl, WkAt K G H p pp pl w
  | _ => False
def repA (K : PySem.W.Frag) (n : Nat) : Hp → Hp → List V → List Slot → Prop := fun G H vs ss => Paired (fun v s => ArgOk K G H v s) vs ss ∧ ss.length = n
/-- plain data in G -/
def repD (K : PySem.W.Frag) (n : Nat) : Hp → Hp → List V → List D → Prop := fun G _ vs ds => DqAll K G vs ds ∧ ds.length = n
def repL (K : PySem.W.Frag) (n : Nat) : Hp → Hp → List V → List D → Prop := fun _ H vs ds => DpAll K H vs ds ∧ ds.length = n

abbrev JE (X : Cx) (E : XW) (e : Expr) (ρ : Rho) (m : R D) : Prop := Ev X.K E (wE X e) ρ m (repE X.K)
abbrev JH (X : Cx) (E : XW) (e : Expr) (ρ : Rho) (m : R D) : Prop := Ev X.K E (wE X e) ρ m (repH X.K)
abbrev JB (X : Cx) (E : XW) (e : Expr) (ρ : Rho) (m : R Ob) : Prop := Ev X.K E (wE X e) ρ m (repB X.K)
abbrev JT (X : Cx) (E : XW) (e : Expr) (ρ : Rho) (m : R Bool) : Prop := Ev X.K E (wT X e) ρ m repT
abbrev JW (X : Cx) (E : XW) (e : Expr) (ρ : Rho) (m : R Bool) : Prop := Ev X.K E (wW X e) ρ m repT
abbrev JA (X : Cx) (E : XW) (es : List Expr) (ρ : Rho) (m : R (List Slot)) : Prop := Ev X.K E (wA X es) ρ m (repA X.K es.length)
abbrev JD (X : Cx) (E : XW) (es : List Expr) (ρ : Rho) (m : R (List D)) : Prop := Ev X.K E (wA X es) ρ m (repD X.K es.length)
abbrev JL (X : Cx) (E : XW) (es : List Expr) (ρ : Rho) (m : R (List D)) : Prop := Ev X.K E (wA X es) ρ m (repL X.K es.length)
abbrev JO (X : Cx) (E : XW) (e : Option Expr) (ρ : Rho) (m : R (Option Int)) : Prop := Ev X.K E (wO X e) ρ m repO

mutual
theorem dpp_mono {T : Tb} {K : PySem.W.Frag} {H H' : Hp} (e : Grow T H H') : ∀ {v : V} {d : D}, Dp K H v d → Dp K H' v d
  | _, _, .non => .non
  | _, _, .bl b => .bl b
  | _, _, .int i => .int i
  | _, _, .str x => .str x
  | _, _, .lst h hs => .lst (e.seq h) (dppAll_mono e hs)
  | _, _, .tup h hs => .tup (e.tup h) (dppAll_mono e hs)
theorem dppAll_mono {T : Tb} {K : PySem.W.Frag} {H H' : Hp} (e : Grow T H H') : ∀ {v : List V} {d : List D}, DpAll K H v d → DpAll K H' v d
  | _, _, .nil => .nil
  | _, _, .cons h hs => .cons (dpp_mono e h) (dppAll_mono e hs)
end
/-! ### flat data -/
def flat : D → Bool
  | .none => true
  | .bool _ => true
  | .int _ => true
  | .str _ => true
  | _ => false
theorem dp_flat {K : PySem.W.Frag} {H G : Hp} {v : V} {d : D} (h : Dp K H v d) (f : flat d = true) : Dq K G v d := by
  cases h with
  | non => exact .non
  | bl b => exact .bl b
  | int i => exact .int i
  | str x => exact .str x
  | lst _ _ => cases f
  | tup _ _ => cases f

section
variable {X : Cx} {E : XW} {ρ : Rho} {e a b : Expr} {m ma mb : R D}
theorem JE.h (h : JE X E e ρ m) : JH X E e ρ m := fun H0 G0 G H σ Q S p =>
  h H0 G0 G H σ Q S (R.post_mono p (fun d _ z v G' H' s1 s2 s3 r => z v G' H' s1 s2 s3 (dp_mono s3 r).dp) fun _ _ z => z)
def obD : Ob → R D
  | .lst ds => .ok (.list ds)
  | .dic _ => .stuck
def dOb : D → R Ob
  | .list ds => .ok (.lst ds)
  | _ => .stuck
theorem JB.h {mo : R Ob} (h : JB X E e ρ mo) : JH X E e ρ (mo.bind obD) := fun H0 G0 G H σ Q S p => by
  refine h.use S p fun o v G' H' s1 s2 s3 S' r pa => ?_
  cases o with
  | dic kvs => exact pa.elim
  | lst ds =>
    obtain ⟨p, rfl, xs, hx, ha⟩ := r
    exact pa (.ref p) G' H' s1 s2 s3 (.lst hx (dpAll_mono s3 ha).dp)
end

/-! ### a new object -/
section
variable {G H : Hp} {p : Addr} {o : HO}
theorem same_new (hp : H p = none) : Same H (upd H p o) := fun b x e => by
  rw [upd_ne (ne_of_none e hp)]
  exact e
theorem grow_new {T : Tb} (hp : H p = none) : Grow T H (upd H p o) := (same_new hp).g
theorem ext_new (hp : H p = none) (s : Same G H) (n : nt o = true := by rfl) : Ext G H (upd G p o) := ⟨same_new (s.free hp), fun b x e => by
  by_cases hb : b = p
  · subst hb; exact .inr hp
  · rw [upd_ne hb] at e; exact .inl e, upd_tab n⟩
theorem sub_new (s : Same G H) : Same (upd G p o) (upd H p o) := fun b x e => by
  by_cases hb : b = p
  · subst hb; rw [upd_same] at e ⊢; exact e
  · rw [upd_ne hb] at e ⊢; exact s b x e
end

/-! ### names and constants -/
section
variable {X : Cx} {E : XW} {ρ : Rho} {e a b : Expr} {m ma mb : R D} {pos : Pos}
theorem je_var {i : Nat} {x : Str} {d : D} (hi : ρ[i]? = some (.dat d)) (hN : X.N[i]? = some x := by rfl) (hv : Vis X.env.scope x := by first | exact Or.inl rfl | exact Or.inr (Or.inl rfl) | exact Or.inr (Or.inr rfl)) (hd : (x == ("__debug__" : Str)) = false := by decide)
    (hcd : (x == ("__classdict__" : Str)) = false := by decide) : JE X E (.Name x pos) ρ (.ok d) := fun H0 G0 G H σ Q S p => by
  obtain ⟨v, e1, y, rfl, q⟩ := S.slots i _ hi
  exact wE.of (pe_var hN hv hd hcd) ⟨y, e1, p y G H (Grow.refl _ _) (Ext.refl _ _) S.sub q⟩
theorem jb_own {i : Nat} {x : Str} {o : Ob} (hi : ρ[i]? = some (.own o)) (hN : X.N[i]? = some x := by rfl) (hv : Vis X.env.scope x := by first | exact Or.inl rfl | exact Or.inr (Or.inl rfl) | exact Or.inr (Or.inr rfl)) (hd : (x == ("__debug__" : Str)) = false := by decide)
    (hcd : (x == ("__classdict__" : Str)) = false := by decide) : JB X E (.Name x pos) ρ (.ok o) := fun H0 G0 G H σ Q S p => by
  obtain ⟨v, e1, y, rfl, q, _⟩ := S.slots i _ hi
  exact wE.of (pe_var hN hv hd hcd) ⟨_, e1, p _ G H (Grow.refl _ _) (Ext.refl _ _) S.sub ⟨y, rfl, q.r⟩⟩
theorem jb_bor {i : Nat} {x : Str} {o : Ob} (hi : ρ[i]? = some (.bor o)) (hN : X.N[i]? = some x := by rfl) (hv : Vis X.env.scope x := by first | exact Or.inl rfl | exact Or.inr (Or.inl rfl) | exact Or.inr (Or.inr rfl)) (hd : (x == ("__debug__" : Str)) = false := by decide)
    (hcd : (x == ("__classdict__" : Str)) = false := by decide) : JB X E (.Name x pos) ρ (.ok o) := fun H0 G0 G H σ Q S p => by
  obtain ⟨v, e1, y, rfl, q⟩ := S.slots i _ hi
  exact wE.of (pe_var hN hv hd hcd) ⟨_, e1, p _ G H (Grow.refl _ _) (Ext.refl _ _) S.sub ⟨y, rfl, q.mono (Same.refl _) S.sub0⟩⟩
/-- data as an object -/
theorem JE.ob (h : JE X E e ρ m) : JB X E e ρ (m.bind dOb) := fun H0 G0 G H σ Q S p => by
  refine h.use S p fun d v G' H' s1 s2 s3 S' r pa => ?_
  cases r with
  | lst hx ha => exact pa _ G' H' s1 s2 s3 ⟨_, rfl, _, SqL.of (s3 _ _ hx), ha⟩
  | _ => exact pa.elim
theorem Ev.pure {t : TE} {v : V} {d : D} (ht : ∀ σ H Q, Q v H → t σ H Q) (f : ∀ G, Dq X.K G v d) : Ev X.K E t ρ (.ok d) (repE X.K) := fun H0 G0 G H σ Q S p =>
  ht σ H Q (p v G H (Grow.refl _ _) (Ext.refl _ _) S.sub (f G))
theorem je_int {i j pos} : JE X E (.Constant (.int i) j pos) ρ (.ok (.int i)) := Ev.pure (v := .int i) (fun _ _ _ q => wE.of pe_int q) fun _ => .int i
theorem je_bl {i j pos} : JE X E (.Constant (.bool i) j pos) ρ (.ok (.bool i)) := Ev.pure (v := .bl i) (fun _ _ _ q => wE.of pe_bl q) fun _ => .bl i
theorem je_non {j pos} : JE X E (.Constant .none j pos) ρ (.ok .none) := Ev.pure (v := .non) (fun _ _ _ q => wE.of pe_non q) fun _ => .non
theorem je_str {x j pos} : JE X E (.Constant (.str x) j pos) ρ (.ok (.str x)) := Ev.pure (v := .str x) (fun _ _ _ q => wE.of pe_str q) fun _ => .str x
theorem je_glob {x : Str} {n : Int} {t : Tok} (hm : X.mg x = some (.int n t)) (hg : Gl X x := by rfl) (hd : (x == ("__debug__" : Str)) = false := by decide) : JE X E (.Name x pos) ρ (.ok (.int n)) :=
  Ev.pure (v := .int n) (fun _ _ _ q => wE.of (pe_glob (v := .int n) hg hm ⟨_, rfl⟩ hd) q) fun _ => .int n

/-! ### operators -/
def R.opt {α : Type} : Option α → R α
  | some a => .ok a
  | none => .stuck
theorem R.opt_post {α : Type} {o : Option α} {q : α → Prop} {x : XC → Prop} (h : (R.opt o).post q x) : ∃ a, o = some a ∧ q a := by
  cases o with
  | none => exact h.elim
  | some a => exact ⟨a, rfl, h⟩
/-- a value's end -/
abbrev Endv (T : Tb) (K : PySem.W.Frag) (G H : Hp) (Q : VK) (d : D) : Prop := ∀ (v : V) (G' H' : Hp), Grow T H H' → Ext G H G' → Same G' H' → Dq K G' v d → Q v H'
theorem Endv.flat {T : Tb} {K : PySem.W.Frag} {G H : Hp} {Q : VK} {d : D} {v : V} (s : Same G H) (q : Endv T K G H Q d) (h : Dq K G v d) : Q v H := q v G H (Grow.refl _ _) (Ext.refl _ _) s h
theorem Endv.tup {T : Tb} {K : PySem.W.Frag} {G H : Hp} {Q : VK} {ds : List D} {xs : List V} {p : Addr} (s : Same G H) (q : Endv T K G H Q (.tuple ds)) (h : DqAll K G xs ds) (hp : H p = none) : Q (.ref p) (upd H p (.tup xs)) :=
  q _ _ _ (grow_new hp) (ext_new (o := .tup xs) hp s) (sub_new s) (.tup (SqT.of upd_same) (dpAll_mono (same_new (s.free hp)) h))
theorem Endv.lst {T : Tb} {K : PySem.W.Frag} {G H : Hp} {Q : VK} {ds : List D} {xs : List V} {p : Addr} (s : Same G H) (q : Endv T K G H Q (.list ds)) (h : DqAll K G xs ds) (hp : H p = none) : Q (.ref p) (upd H p (.lst xs)) :=
  q _ _ _ (grow_new hp) (ext_new (o := .lst xs) hp s) (sub_new s) (.lst upd_same (dpAll_mono (same_new (s.free hp)) h))
def OkE (K : PySem.W.Frag) (r : R2) (f : D → D → Option D) : Prop := ∀ {T : Tb} (G H : Hp) (x y : V) (d e z : D) (Q : VK), Same G H → Dq K G x d → Dq K G y e → f d e = some z → Endv T K G H Q z → r x y H Q
/-- the same where the operands are only read -/
def OkH (K : PySem.W.Frag) (r : R2) (f : D → D → Option D) : Prop := ∀ {T : Tb} (G H : Hp) (x y : V) (d e z : D) (Q : VK), Same G H → Dp K H x d → Dp K H y e → f d e = some z → Endv T K G H Q z → r x y H Q
theorem Endv.back {T : Tb} {K : PySem.W.Frag} {G H G1 H1 : Hp} {Q : VK} {d : D} (s1 : Grow T H H1) (s2 : Ext G H G1) (q : Endv T K G H Q d) : Endv T K G1 H1 Q d := fun v G' H' a b c r => q v G' H' (s1.trans a) (s2.trans s1 b) c r
theorem tOpE {ta tb : TE} {r : R2} {f : D → D → Option D} (ok : OkE X.K r f) (ha : Ev X.K E ta ρ ma (repE X.K)) (hb : Ev X.K E tb ρ mb (repE X.K)) : Ev X.K E (tOp r ta tb) ρ (ma.bind fun x => mb.bind fun y => R.opt (f x y)) (repE X.K) := fun H0 G0 G H σ Q S p => by
  refine ha.use S p fun d x G1 H1 s1 s2 s3 S1 r1 p1 => ?_
  refine hb.use S1 p1 fun d2 y G2 H2 t1 t2 t3 S2 r2 p2 => ?_
  obtain ⟨z, ez, q⟩ := R.opt_post p2
  exact ok G2 H2 x y d d2 z Q t3 (dp_mono t2.same r1) r2 ez (Endv.back (s1.trans t1) (s2.trans s1 t2) q)
theorem tOpH {ta tb : TE} {r : R2} {f : D → D → Option D} (ok : OkH X.K r f) (ha : Ev X.K E ta ρ ma (repH X.K)) (hb : Ev X.K E tb ρ mb (repH X.K)) : Ev X.K E (tOp r ta tb) ρ (ma.bind fun x => mb.bind fun y => R.opt (f x y)) (repE X.K) := fun H0 G0 G H σ Q S p => by
  refine ha.use S p fun d x G1 H1 s1 s2 s3 S1 r1 p1 => ?_
  refine hb.use S1 p1 fun d2 y G2 H2 t1 t2 t3 S2 r2 p2 => ?_
  obtain ⟨z, ez, q⟩ := R.opt_post p2
  exact ok G2 H2 x y d d2 z Q t3 (dpp_mono t1 r1) r2 ez (Endv.back (s1.trans t1) (s2.trans s1 t2) q)
theorem Ev.wE_of {t : TE} (h : PE X e t) {m : R D} {rep : Hp → Hp → V → D → Prop} (q : Ev X.K E t ρ m rep) : Ev X.K E (wE X e) ρ m rep := fun H0 G0 G H σ Q S p => wE.of h (q H0 G0 G H σ Q S p)
theorem je_bin {op : Operator} {r : R2} {f : D → D → Option D} (ho : OpR X (binaryOp op) r) (ok : OkE X.K r f) (ha : JE X E a ρ ma) (hb : JE X E b ρ mb) : JE X E (.BinOp a op b pos) ρ (ma.bind fun x => mb.bind fun y => R.opt (f x y)) :=
  Ev.wE_of (pe_op ho (wE.pe a) (wE.pe b)) (tOpE ok ha hb)
theorem je_cmp {op : CmpOp} {r : R2} {f : D → D → Option D} (ho : OpR X (compareOp op) r) (ok : OkH X.K r f) (ha : JH X E a ρ ma) (hb : JH X E b ρ mb) (hm : behindInMarks op b = false) :
    JE X E (.Compare a [op] [b] pos) ρ (ma.bind fun x => mb.bind fun y => R.opt (f x y)) :=
  Ev.wE_of (pe_cmpR ho (wE.pe a) (wE.pe b) hm) (tOpH ok ha hb)
end
/-! ### stars -/
def noStar : Expr → Bool
  | .Starred .. => false
  | _ => true
theorem star_cons {e : Expr} {es : List Expr} {env : PySem.Env} (h : noStar e = true) : starEach (e :: es) env = (false, eval e env) :: starEach es env := by
  cases e <;> first | rfl | cases h
theorem star_any {es : List Expr} {env : PySem.Env} {pos : Pos} (h : es.all noStar = true) : (backTo pos (starEach es env)).any (·.1) = false := by
  induction es with
  | nil => rfl
  | cons e es ih =>
    rw [List.all_cons, Bool.and_eq_true] at h
    rw [star_cons h.1]
    exact ih h.2
end Br
namespace Br
open PySem PySem.Spec PyProof.Rows L2

section
variable {X : Cx} {E : XW} {ρ : Rho} {e a b c : Expr} {m ma mb mc : R D} {pos : Pos}

theorem OpR.any {f : Value → Value → Sem Value} {r r' : R2} (h : OpR X f r) (h' : OpR X f r') : OpR X f (fun x y H Q => r x y H Q ∨ r' x y H Q) := OpR.or h h'
theorem Dq.int_inv {K : PySem.W.Frag} {H : Hp} {v : V} {i : Int} (h : Dq K H v (.int i)) : v = .int i := by cases h; rfl
theorem Dq.str_inv {K : PySem.W.Frag} {H : Hp} {v : V} {i : Str} (h : Dq K H v (.str i)) : v = .str i := by cases h; rfl
theorem Dq.bl_inv {K : PySem.W.Frag} {H : Hp} {v : V} {i : Bool} (h : Dq K H v (.bool i)) : v = .bl i := by cases h; rfl
theorem Dq.non_inv {K : PySem.W.Frag} {H : Hp} {v : V} (h : Dq K H v .none) : v = .non := by cases h; rfl
theorem Dq.tup_inv {K : PySem.W.Frag} {H : Hp} {v : V} {ds : List D} (h : Dq K H v (.tuple ds)) : ∃ a xs, v = .ref a ∧ SqT K H a xs ∧ DqAll K H xs ds := by cases h with | tup a b => exact ⟨_, _, rfl, a, b⟩
theorem Dq.lst_inv {K : PySem.W.Frag} {H : Hp} {v : V} {ds : List D} (h : Dq K H v (.list ds)) : ∃ a xs, v = .ref a ∧ H a = some (.lst xs) ∧ DqAll K H xs ds := by cases h with | lst a b => exact ⟨_, _, rfl, a, b⟩
theorem int_inv {K : PySem.W.Frag} {H : Hp} {v : V} {i : Int} (h : Dp K H v (.int i)) : v = .int i := by cases h; rfl
theorem str_inv {K : PySem.W.Frag} {H : Hp} {v : V} {i : Str} (h : Dp K H v (.str i)) : v = .str i := by cases h; rfl
theorem bl_inv {K : PySem.W.Frag} {H : Hp} {v : V} {i : Bool} (h : Dp K H v (.bool i)) : v = .bl i := by cases h; rfl
theorem non_inv {K : PySem.W.Frag} {H : Hp} {v : V} (h : Dp K H v .none) : v = .non := by cases h; rfl
theorem tup_inv {K : PySem.W.Frag} {H : Hp} {v : V} {ds : List D} (h : Dp K H v (.tuple ds)) : ∃ a xs, v = .ref a ∧ SqT K H a xs ∧ DpAll K H xs ds := by cases h with | tup a b => exact ⟨_, _, rfl, a, b⟩
theorem lst_inv {K : PySem.W.Frag} {H : Hp} {v : V} {ds : List D} (h : Dp K H v (.list ds)) : ∃ a xs, v = .ref a ∧ SqL K H a xs ∧ DpAll K H xs ds := by cases h with | lst a b => exact ⟨_, _, rfl, a, b⟩

/-! ### - // % * of ints -/
def pySub : D → D → Option D
  | .int i, .int j => some (.int (i - j))
  | _, _ => none
theorem ok_sub : OkE X.K (rI0 fun i j => .int (i - j)) pySub := fun G H x y d e z Q s h1 h2 ez q => by
  cases d <;> cases e <;> simp [pySub] at ez
  subst ez
  exact ⟨_, _, h1.int_inv, h2.int_inv, Endv.flat s q (.int _)⟩
theorem je_sub (ha : JE X E a ρ ma) (hb : JE X E b ρ mb) : JE X E (.BinOp a .Sub b pos) ρ (ma.bind fun x => mb.bind fun y => R.opt (pySub x y)) := je_bin op_sub ok_sub ha hb
def pyMod : D → D → Option D
  | .int i, .int j => if 0 < j then some (.int (i % j)) else none
  | _, _ => none
theorem ok_mod : OkE X.K (rI (fun _ j => 0 < j) fun i j => .int (i % j)) pyMod := fun G H x y d e z Q s h1 h2 ez q => by
  cases d <;> cases e <;> simp [pyMod] at ez
  obtain ⟨hj, rfl⟩ := ez
  exact ⟨_, _, h1.int_inv, h2.int_inv, hj, Endv.flat s q (.int _)⟩
theorem je_mod (ha : JE X E a ρ ma) (hb : JE X E b ρ mb) : JE X E (.BinOp a .Mod b pos) ρ (ma.bind fun x => mb.bind fun y => R.opt (pyMod x y)) := je_bin op_mod ok_mod ha hb
def pyDiv : D → D → Option D
  | .int i, .int j => if 0 < j ∧ j < 1073741824 then some (.int (i / j)) else none
  | _, _ => none
theorem ok_div : OkE X.K (rI CDiv fun i j => .int (i / j)) pyDiv := fun G H x y d e z Q s h1 h2 ez q => by
  cases d <;> cases e <;> simp [pyDiv] at ez
  obtain ⟨hj, rfl⟩ := ez
  exact ⟨_, _, h1.int_inv, h2.int_inv, hj, Endv.flat s q (.int _)⟩
theorem je_div (ha : JE X E a ρ ma) (hb : JE X E b ρ mb) : JE X E (.BinOp a .FloorDiv b pos) ρ (ma.bind fun x => mb.bind fun y => R.opt (pyDiv x y)) := je_bin op_fdiv ok_div ha hb
def mulOk (i j : Int) : Bool := (decide (-18446744073709551616 < i) && decide (i < 18446744073709551616)) || (decide (-18446744073709551616 < j) && decide (j < 18446744073709551616))
def pyMul : D → D → Option D
  | .int i, .int j => if mulOk i j then some (.int (i * j)) else none
  | _, _ => none
theorem ok_mul : OkE X.K (rI CMul fun i j => .int (i * j)) pyMul := fun G H x y d e z Q s h1 h2 ez q => by
  cases d <;> cases e <;> simp [pyMul] at ez
  obtain ⟨hj, rfl⟩ := ez
  refine ⟨_, _, h1.int_inv, h2.int_inv, ?_, Endv.flat s q (.int _)⟩
  simp only [mulOk, Bool.or_eq_true, Bool.and_eq_true, decide_eq_true_eq] at hj
  exact hj
theorem je_mul (ha : JE X E a ρ ma) (hb : JE X E b ρ mb) : JE X E (.BinOp a .Mult b pos) ρ (ma.bind fun x => mb.bind fun y => R.opt (pyMul x y)) := je_bin op_mul ok_mul ha hb

/-! ### + -/
def lineOk (n : Nat) : Bool := decide (n ≤ 16777216)
theorem lineOk_iff {n : Nat} : lineOk n = true ↔ n ≤ sizeLine := by rw [sizeLine_eq]; simp [lineOk]
def pyAdd : D → D → Option D
  | .int i, .int j => some (.int (i + j))
  | .str x, .str y => if lineOk (x.length + y.length) then some (.str (x ++ y)) else none
  | .list xs, .list ys => if lineOk (xs.length + ys.length) then some (.list (xs ++ ys)) else none
  | .tuple xs, .tuple ys => if lineOk (xs.length + ys.length) then some (.tuple (xs ++ ys)) else none
  | _, _ => none
def rAddD (K : PySem.W.Frag) : R2 := fun x y H Q => (∃ i j, x = .int i ∧ y = .int j ∧ Q (.int (i + j)) H) ∨ (∃ i j, x = .str i ∧ y = .str j ∧ i.length + j.length ≤ sizeLine ∧ Q (.str (i ++ j)) H) ∨ rCat x y H Q ∨ rCatA K x y H Q
theorem op_addD : OpR X (binaryOp .Add) (rAddD X.K) := OpR.or op_add (OpR.or op_add_str (OpR.or op_cat op_catA))
theorem ok_add : OkE X.K (rAddD X.K) pyAdd := fun G H x y d e z Q s h1 h2 ez q => by
  cases d <;> cases e <;> simp [pyAdd] at ez
  case int.int => subst ez; exact .inl ⟨_, _, h1.int_inv, h2.int_inv, Endv.flat s q (.int _)⟩
  case str.str => obtain ⟨hl, rfl⟩ := ez; exact .inr (.inl ⟨_, _, h1.str_inv, h2.str_inv, lineOk_iff.mp hl, Endv.flat s q (.str _)⟩)
  case list.list =>
    obtain ⟨hl, rfl⟩ := ez
    obtain ⟨a, xs, rfl, ha, da⟩ := h1.lst_inv
    obtain ⟨b, ys, rfl, hb, db⟩ := h2.lst_inv
    exact .inr (.inr (.inl ⟨a, b, xs, ys, rfl, rfl, s _ _ ha, s _ _ hb, by rw [da.len, db.len]; exact lineOk_iff.mp hl, fun p hp => Endv.lst s q (da.append db) hp⟩))
  case tuple.tuple =>
    obtain ⟨hl, rfl⟩ := ez
    obtain ⟨a, xs, rfl, ha, da⟩ := h1.tup_inv
    obtain ⟨b, ys, rfl, hb, db⟩ := h2.tup_inv
    refine .inr (.inr (.inr ⟨a, b, xs, ys, rfl, rfl, Same.tup s ha, Same.tup s hb, by rw [da.len, db.len]; exact lineOk_iff.mp hl, fun e0 => ?_, fun _ e0 => ?_, fun _ _ p hp => Endv.tup s q (da.append db) hp⟩))
    · subst e0
      cases da
      exact Endv.flat s q (.tup hb db)
    · subst e0
      cases db
      exact Endv.flat s q (.tup ha (by rw [List.append_nil]; exact da))
theorem je_add (ha : JE X E a ρ ma) (hb : JE X E b ρ mb) : JE X E (.BinOp a .Add b pos) ρ (ma.bind fun x => mb.bind fun y => R.opt (pyAdd x y)) := je_bin op_addD ok_add ha hb

/-! ### == != and the like -/
def pyEq (d e : D) : Option D := if SeqAt.shaped d && SeqAt.shaped e then some (.bool (PyData.eqv d e)) else none
def pyNe (d e : D) : Option D := if SeqAt.shaped d && SeqAt.shaped e then some (.bool (!PyData.eqv d e)) else none
theorem ok_eq : OkH X.K (rEqD X.K) pyEq := fun G H x y d e z Q s h1 h2 ez q => by
  simp only [pyEq] at ez
  split at ez
  · rename_i hs
    cases ez
    rw [Bool.and_eq_true] at hs
    exact ⟨d, e, h1, h2, hs.1, hs.2, Endv.flat s q (.bl _)⟩
  · cases ez
theorem ok_ne : OkH X.K (rNeD X.K) pyNe := fun G H x y d e z Q s h1 h2 ez q => by
  simp only [pyNe] at ez
  split at ez
  · rename_i hs
    cases ez
    rw [Bool.and_eq_true] at hs
    exact ⟨d, e, h1, h2, hs.1, hs.2, Endv.flat s q (.bl _)⟩
  · cases ez
theorem je_eq {k : Nat} (hr : Room k X.A) (ha : JH X E a ρ ma) (hb : JH X E b ρ mb) : JE X E (.Compare a [.Eq] [b] pos) ρ (ma.bind fun x => mb.bind fun y => R.opt (pyEq x y)) := je_cmp (op_eqD hr.units) ok_eq ha hb (nomark _)
theorem je_ne {k : Nat} (hr : Room k X.A) (ha : JH X E a ρ ma) (hb : JH X E b ρ mb) : JE X E (.Compare a [.NotEq] [b] pos) ρ (ma.bind fun x => mb.bind fun y => R.opt (pyNe x y)) := je_cmp (op_neD hr.units) ok_ne ha hb (nomark _)
def pyCmp (p : Int → Int → Bool) : D → D → Option D
  | .int i, .int j => some (.bool (p i j))
  | _, _ => none
theorem ok_cmp (p : Int → Int → Bool) : OkH X.K (rI0 fun i j => .bl (p i j)) (pyCmp p) := fun G H x y d e z Q s h1 h2 ez q => by
  cases d <;> cases e <;> simp [pyCmp] at ez
  subst ez
  exact ⟨_, _, int_inv h1, int_inv h2, Endv.flat s q (.bl _)⟩
abbrev pyLt := pyCmp fun i j => decide (i < j)
abbrev pyLe := pyCmp fun i j => decide (i ≤ j)
abbrev pyGt := pyCmp fun i j => decide (j < i)
abbrev pyGe := pyCmp fun i j => decide (j ≤ i)
theorem je_lt (ha : JH X E a ρ ma) (hb : JH X E b ρ mb) : JE X E (.Compare a [.Lt] [b] pos) ρ (ma.bind fun x => mb.bind fun y => R.opt (pyLt x y)) := je_cmp op_lt (ok_cmp _) ha hb (nomark _)
theorem je_le (ha : JH X E a ρ ma) (hb : JH X E b ρ mb) : JE X E (.Compare a [.LtE] [b] pos) ρ (ma.bind fun x => mb.bind fun y => R.opt (pyLe x y)) := je_cmp op_le (ok_cmp _) ha hb (nomark _)
theorem je_gt (ha : JH X E a ρ ma) (hb : JH X E b ρ mb) : JE X E (.Compare a [.Gt] [b] pos) ρ (ma.bind fun x => mb.bind fun y => R.opt (pyGt x y)) := je_cmp op_gt (ok_cmp _) ha hb (nomark _)
theorem je_ge (ha : JH X E a ρ ma) (hb : JH X E b ρ mb) : JE X E (.Compare a [.GtE] [b] pos) ρ (ma.bind fun x => mb.bind fun y => R.opt (pyGe x y)) := je_cmp op_ge (ok_cmp _) ha hb (nomark _)
end
end Br
namespace Br
open PySem PySem.Spec PyProof.Rows L2

/-! ### in, not in -/
section
open Classical in
noncomputable def eqR (h : Heap) (x : D) (u : Value) : Bool := if z : ∃ d as, Reads h u d as then PyData.eqv z.choose x else false
theorem eqR_of {h : Heap} {x d : D} {u : Value} {as : List Addr} (hl : d.canLay0 = true) (r : Reads h u d as) : eqR h x u = PyData.eqv d x := by
  have z : ∃ d as, Reads h u d as := ⟨d, as, r⟩
  unfold eqR
  rw [dif_pos z]
  obtain ⟨as', r'⟩ := z.choose_spec
  rw [SeqAt.Reads.unique d z.choose u as as' hl r r']
theorem any_eqR {h : Heap} {x : D} : ∀ {us : List Value} {ds : List D} {as : List Addr}, ReadsAll h us ds as → PyData.canLayAll0 ds = true → us.any (eqR h x) = ds.any fun d => PyData.eqv d x
  | _, _, _, .nil, _ => rfl
  | _, _, _, .cons r rs, hl => by
    simp only [PyData.canLayAll0, Bool.and_eq_true] at hl
    rw [List.any_cons, List.any_cons, eqR_of hl.1 r, any_eqR rs hl.2]
theorem mem_reads {h : Heap} : ∀ {us : List Value} {ds : List D} {as : List Addr}, ReadsAll h us ds as → ∀ u ∈ us, ∃ d ∈ ds, ∃ as, Reads h u d as
  | _, _, _, .nil, u, hu => by cases hu
  | _, _, _, .cons r rs, u, hu => by
    rcases List.mem_cons.mp hu with rfl | hu
    · exact ⟨_, List.mem_cons_self, _, r⟩
    · obtain ⟨d, hd, as, q⟩ := mem_reads rs u hu
      exact ⟨d, List.mem_cons_of_mem _ hd, as, q⟩
theorem canLayAll_mem : ∀ {ds : List D} {d : D}, PyData.canLayAll0 ds = true → d ∈ ds → d.canLay0 = true
  | [], _, _, hm => by cases hm
  | x :: xs, d, h, hm => by
    simp only [PyData.canLayAll0, Bool.and_eq_true] at h
    rcases List.mem_cons.mp hm with rfl | hm
    · exact h.1
    · exact canLayAll_mem h.2 hm
end
def rInD (K : PySem.W.Frag) (neg : Bool) : R2 := fun x y H Q => ∃ p d ds, y = .ref p ∧ Dp K H x d ∧ (Dp K H y (.list ds) ∨ Dp K H y (.tuple ds)) ∧ SeqAt.shaped d = true ∧ PyData.canLayAll0 ds = true ∧ Q (.bl (if neg then !(ds.any fun e => PyData.eqv e d) else ds.any fun e => PyData.eqv e d)) H
section
variable {X : Cx} {E : XW} {ρ : Rho} {e a b c : Expr} {m ma mb mc : R D} {pos : Pos}
theorem in_eqAt {k : Nat} {s : Shared} {pins : List (Addr × Obj)} {σ : L2.St} {H : Hp} {v : Value} {x : D} {us : List Value} {ds : List D} {as bs : List Addr} (hr : Room (k + 1) X.A) (rx : Reads s.heap v x as) (sx : SeqAt.shaped x = true) (r : ReadsAll s.heap us ds bs) (hc : PyData.canLayAll0 ds = true) :
    ∀ y, y ∈ us → SeqAt.EqAt X.A.in1 s y v (eqR s.heap x y) := fun y hy => by
  obtain ⟨d, hd, as', q⟩ := mem_reads r y hy
  have hl := canLayAll_mem hc hd
  rw [eqR_of hl q]
  refine SeqAt.eqAt_reads d x _ _ _ _ _ _ q rx hl (SeqAt.canLay_of_shaped sx) ?_
  have h1 := hr.in1.units
  have h2 := SeqAt.depth_of_shaped sx
  have h3 : min d.depth x.depth ≤ x.depth := Nat.min_le_right _ _
  omega
theorem op_inD {k : Nat} (hr : Room (k + 1) X.A) : OpR X (compareOp .In) (rInD X.K false) := by
  intro pins s σ H x y v u Q I rx ry h
  obtain ⟨p, d, ds, rfl, hx, hy, sx, sl, q⟩ := h
  cases ry
  obtain ⟨as, r1⟩ := Dp.reads I d x v hx rx
  rcases hy with hy | hy
  · obtain ⟨p', xs, ep, hq, hds⟩ := lst_inv hy
    cases ep
    obtain ⟨its, r, pl, hz⟩ := I.list hq
    obtain ⟨bs, r2⟩ := Dp.readsAll I ds xs its hds r
    refine SeqAt.in_listAt (eqR s.heap d) pl.isList (fun w hw => in_eqAt (σ := σ) (H := H) (pins := pins) hr r1 sx r2 sl w (by simpa using hw)) ⟨.bl _, H, I, rfl, ?_⟩
    rw [show its.toArray.any (eqR s.heap d) = its.any (eqR s.heap d) by simp, any_eqR r2 sl]
    exact q
  · obtain ⟨p', xs, ep, hq, hds⟩ := tup_inv hy
    cases ep
    obtain ⟨its, r, pl, hz⟩ := I.tuple hq
    obtain ⟨bs, r2⟩ := Dp.readsAll I ds xs its hds r
    refine SeqAt.in_tupleAt (eqR s.heap d) pl (fun w hw => in_eqAt (σ := σ) (H := H) (pins := pins) hr r1 sx r2 sl w (by simpa using hw)) ⟨.bl _, H, I, rfl, ?_⟩
    rw [show its.toArray.any (eqR s.heap d) = its.any (eqR s.heap d) by simp, any_eqR r2 sl]
    exact q
theorem op_notInD {k : Nat} (hr : Room (k + 1) X.A) : OpR X (compareOp .NotIn) (rInD X.K true) := by
  intro pins s σ H x y v u Q I rx ry h
  obtain ⟨p, d, ds, rfl, hx, hy, sx, sl, q⟩ := h
  cases ry
  obtain ⟨as, r1⟩ := Dp.reads I d x v hx rx
  rcases hy with hy | hy
  · obtain ⟨p', xs, ep, hq, hds⟩ := lst_inv hy
    cases ep
    obtain ⟨its, r, pl, hz⟩ := I.list hq
    obtain ⟨bs, r2⟩ := Dp.readsAll I ds xs its hds r
    refine SeqAt.notIn_listAt (eqR s.heap d) pl.isList (fun w hw => in_eqAt (σ := σ) (H := H) (pins := pins) hr r1 sx r2 sl w (by simpa using hw)) ⟨.bl _, H, I, rfl, ?_⟩
    rw [show its.toArray.any (eqR s.heap d) = its.any (eqR s.heap d) by simp, any_eqR r2 sl]
    exact q
  · obtain ⟨p', xs, ep, hq, hds⟩ := tup_inv hy
    cases ep
    obtain ⟨its, r, pl, hz⟩ := I.tuple hq
    obtain ⟨bs, r2⟩ := Dp.readsAll I ds xs its hds r
    refine SeqAt.notIn_tupleAt (eqR s.heap d) pl (fun w hw => in_eqAt (σ := σ) (H := H) (pins := pins) hr r1 sx r2 sl w (by simpa using hw)) ⟨.bl _, H, I, rfl, ?_⟩
    rw [show its.toArray.any (eqR s.heap d) = its.any (eqR s.heap d) by simp, any_eqR r2 sl]
    exact q
def inStr (x y : Str) : Bool := !(Builtin.Str.occurrences y x 0 y.length 1).isEmpty
def pyIn (neg : Bool) : D → D → Option D
  | d, .list ds => if SeqAt.shaped d && PyData.canLayAll0 ds then some (.bool (if neg then !(ds.any fun e => PyData.eqv e d) else ds.any fun e => PyData.eqv e d)) else none
  | d, .tuple ds => if SeqAt.shaped d && PyData.canLayAll0 ds then some (.bool (if neg then !(ds.any fun e => PyData.eqv e d) else ds.any fun e => PyData.eqv e d)) else none
  | .str x, .str y => some (.bool (if neg then !(inStr x y) else inStr x y))
  | _, _ => none
def rIn2 (K : PySem.W.Frag) (neg : Bool) : R2 := fun x y H Q => rInD K neg x y H Q ∨ ∃ i j, x = .str i ∧ y = .str j ∧ Q (.bl (if neg then !(inStr i j) else inStr i j)) H
theorem ok_in (neg : Bool) : OkH X.K (rIn2 X.K neg) (pyIn neg) := fun G H x y d e z Q s h1 h2 ez q => by
  cases e with
  | list ds =>
    simp only [pyIn] at ez
    split at ez
    · rename_i hs
      cases ez
      rw [Bool.and_eq_true] at hs
      obtain ⟨a, xs, rfl, _⟩ := lst_inv h2
      exact .inl ⟨a, d, ds, rfl, h1, .inl h2, hs.1, hs.2, Endv.flat s q (.bl _)⟩
    · cases ez
  | tuple ds =>
    simp only [pyIn] at ez
    split at ez
    · rename_i hs
      cases ez
      rw [Bool.and_eq_true] at hs
      obtain ⟨a, xs, rfl, _⟩ := tup_inv h2
      exact .inl ⟨a, d, ds, rfl, h1, .inr h2, hs.1, hs.2, Endv.flat s q (.bl _)⟩
    · cases ez
  | str y' =>
    cases d <;> simp [pyIn] at ez
    subst ez
    refine .inr ⟨_, _, str_inv h1, str_inv h2, Endv.flat s q ?_⟩
    cases neg <;> exact .bl _
  | _ => cases d <;> simp [pyIn] at ez
theorem op_in2 {k : Nat} (hr : Room (k + 1) X.A) : OpR X (compareOp .In) (rIn2 X.K false) := OpR.or (op_inD hr) op_in_str
theorem op_notIn2 {k : Nat} (hr : Room (k + 1) X.A) : OpR X (compareOp .NotIn) (rIn2 X.K true) := OpR.or (op_notInD hr) op_notin_str
theorem je_in {k : Nat} (hr : Room (k + 1) X.A) (ha : JH X E a ρ ma) (hb : JH X E b ρ mb) (hm : behindInMarks .In b = false := by rfl) : JE X E (.Compare a [.In] [b] pos) ρ (ma.bind fun x => mb.bind fun y => R.opt (pyIn false x y)) := je_cmp (op_in2 hr) (ok_in false) ha hb hm
theorem je_notin {k : Nat} (hr : Room (k + 1) X.A) (ha : JH X E a ρ ma) (hb : JH X E b ρ mb) (hm : behindInMarks .NotIn b = false := by rfl) : JE X E (.Compare a [.NotIn] [b] pos) ρ (ma.bind fun x => mb.bind fun y => R.opt (pyIn true x y)) := je_cmp (op_notIn2 hr) (ok_in true) ha hb hm

/-! ### is, is not -/
def isNone : D → Bool
  | .none => true
  | _ => false
theorem isNone_of {K : PySem.W.Frag} {H : Hp} {v : V} {d : D} (h : Dp K H v d) : decide (v = .non) = isNone d := by cases h <;> simp [isNone]
def pyIs : D → D → Option D
  | d, .none => some (.bool (isNone d))
  | .bool x, .bool y => some (.bool (decide (x = y)))
  | _, _ => none
def pyIsNot : D → D → Option D
  | d, .none => some (.bool (!isNone d))
  | .bool x, .bool y => some (.bool (!decide (x = y)))
  | _, _ => none
def rIs (neg : Bool) : R2 := fun x y H Q => (y = .non ∧ Q (.bl (if neg then !decide (x = .non) else decide (x = .non))) H) ∨ ∃ a b : Bool, x = .bl a ∧ y = .bl b ∧ Q (.bl (if neg then !decide (a = b) else decide (a = b))) H
theorem op_isD : OpR X (compareOp .Is) (rIs false) := OpR.or op_isN op_isBl
theorem op_isnotBl : OpR X (compareOp .IsNot) (fun x y H Q => ∃ a b : Bool, x = .bl a ∧ y = .bl b ∧ Q (.bl (!decide (a = b))) H) := by
  intro pins s σ H x y v u Q I rx ry h
  obtain ⟨a, b, rfl, rfl, q⟩ := h
  cases rx
  cases ry
  have e : (compareOp .IsNot (.bool a) (.bool b) : Sem Value) = pure (.bool (!decide (a = b))) := by
    cases a <;> cases b <;> rfl
  rw [e]
  exact wpAny_pure ⟨.bl _, H, I, rfl, q⟩
theorem op_isnotD : OpR X (compareOp .IsNot) (rIs true) := OpR.or op_notN op_isnotBl
theorem ok_is : OkH X.K (rIs false) pyIs := fun G H x y d e z Q s h1 h2 ez q => by
  cases e with
  | none =>
    have ez' : z = .bool (isNone d) := by
      cases d <;> simp [pyIs] at ez <;> exact ez.symm
    subst ez'
    refine .inl ⟨non_inv h2, ?_⟩
    rw [if_neg Bool.false_ne_true, isNone_of h1]
    exact Endv.flat s q (.bl _)
  | bool y' =>
    cases d <;> simp [pyIs] at ez
    subst ez
    exact .inr ⟨_, _, bl_inv h1, bl_inv h2, Endv.flat s q (by simpa using Dq.bl _)⟩
  | _ => cases d <;> simp [pyIs] at ez
theorem ok_isnot : OkH X.K (rIs true) pyIsNot := fun G H x y d e z Q s h1 h2 ez q => by
  cases e with
  | none =>
    have ez' : z = .bool (!isNone d) := by
      cases d <;> simp [pyIsNot] at ez <;> exact ez.symm
    subst ez'
    refine .inl ⟨non_inv h2, ?_⟩
    rw [if_pos rfl, isNone_of h1]
    exact Endv.flat s q (.bl _)
  | bool y' =>
    cases d <;> simp [pyIsNot] at ez
    subst ez
    exact .inr ⟨_, _, bl_inv h1, bl_inv h2, Endv.flat s q (by simpa using Dq.bl _)⟩
  | _ => cases d <;> simp [pyIsNot] at ez
theorem je_is (ha : JH X E a ρ ma) (hb : JH X E b ρ mb) : JE X E (.Compare a [.Is] [b] pos) ρ (ma.bind fun x => mb.bind fun y => R.opt (pyIs x y)) := je_cmp op_isD ok_is ha hb (nomark _)
theorem je_isnot (ha : JH X E a ρ ma) (hb : JH X E b ρ mb) : JE X E (.Compare a [.IsNot] [b] pos) ρ (ma.bind fun x => mb.bind fun y => R.opt (pyIsNot x y)) := je_cmp op_isnotD ok_isnot ha hb (nomark _)

/-! ### a <= b <= c -/
def asB : D → R Bool
  | .bool b => .ok b
  | _ => .stuck
def Ci (p : Int → Int → Bool) : R2 := rI0 fun i j => .bl (p i j)
theorem tChainH {ta tb tc : TE} {r r' : R2} {f f' : D → D → Option D} (ok : OkH X.K r f) (ok' : OkH X.K r' f')
    (ha : Ev X.K E ta ρ ma (repH X.K)) (hb : Ev X.K E tb ρ mb (repH X.K)) (hc : Ev X.K E tc ρ mc (repH X.K)) :
    Ev X.K E (tChain r r' ta tb tc) ρ (ma.bind fun x => mb.bind fun y => (R.opt (f x y)).bind fun z => (asB z).bind fun t => if t then mc.bind fun w => R.opt (f' y w) else .ok (.bool false)) (repE X.K) := by
  intro H0 G0 G H σ Q S p
  refine ha.use S p fun d x G1 H1 s1 s2 s3 S1 r1 p1 => ?_
  refine hb.use S1 p1 fun d2 y G2 H2 t1 t2 t3 S2 r2 p2 => ?_
  obtain ⟨z, ez, p3⟩ := R.opt_post (R.post_bind p2)
  refine ok (T := E.T) G2 H2 x y d d2 z _ t3 (dpp_mono t1 r1) r2 ez fun v G3 H3 u1 u2 u3 r3 => ?_
  cases z <;> try exact (R.post_bind p3).elim
  rename_i tb
  cases r3.bl_inv
  refine ⟨tb, rfl, ?_⟩
  cases tb with
  | false =>
    rw [if_neg Bool.false_ne_true]
    exact p3 (.bl false) G3 H3 ((s1.trans t1).trans u1) ((s2.trans s1 t2).trans (s1.trans t1) u2) u3 (.bl _)
  | true =>
    rw [if_pos rfl]
    have S3 := S2.grow u1 u2 u3
    refine hc.use S3 (R.post_mono p3 (fun _ _ z => z) fun c _ z H' s => z H' (u1.trans s)) fun d4 y4 G4 H4 w1 w2 w3 S4 r4 p4 => ?_
    obtain ⟨z4, ez4, p5⟩ := R.opt_post p4
    exact ok' G4 H4 y y4 d2 d4 z4 Q w3 (dpp_mono (u1.trans w1) r2) r4 ez4 (Endv.back (((s1.trans t1).trans u1).trans w1) (((s2.trans s1 t2).trans (s1.trans t1) u2).trans ((s1.trans t1).trans u1) w2) p5)
end
end Br
namespace Br
open PySem PySem.Spec PyProof.Rows L2

section
variable {X : Cx} {E : XW} {ρ : Rho} {e a b c : Expr} {es rest : List Expr} {m ma mb mc : R D} {mt mu : R Bool} {pos : Pos}

/-! ### comparisons as rules -/
def CR (X : Cx) (op : CmpOp) (f : D → D → Option D) : Prop := ∃ r, OpR X (compareOp op) r ∧ OkH X.K r f
theorem c_eq {k : Nat} (hr : Room k X.A) : CR X .Eq pyEq := ⟨_, op_eqD hr.units, ok_eq⟩
theorem c_ne {k : Nat} (hr : Room k X.A) : CR X .NotEq pyNe := ⟨_, op_neD hr.units, ok_ne⟩
theorem c_lt : CR X .Lt pyLt := ⟨_, op_lt, ok_cmp _⟩
theorem c_le : CR X .LtE pyLe := ⟨_, op_le, ok_cmp _⟩
theorem c_gt : CR X .Gt pyGt := ⟨_, op_gt, ok_cmp _⟩
theorem c_ge : CR X .GtE pyGe := ⟨_, op_ge, ok_cmp _⟩
theorem c_in {k : Nat} (hr : Room (k + 1) X.A) : CR X .In (pyIn false) := ⟨_, op_in2 hr, ok_in false⟩
theorem c_notin {k : Nat} (hr : Room (k + 1) X.A) : CR X .NotIn (pyIn true) := ⟨_, op_notIn2 hr, ok_in true⟩
theorem c_is : CR X .Is pyIs := ⟨_, op_isD, ok_is⟩
theorem c_isnot : CR X .IsNot pyIsNot := ⟨_, op_isnotD, ok_isnot⟩
theorem je_c {op : CmpOp} {f : D → D → Option D} (h : CR X op f) (ha : JH X E a ρ ma) (hb : JH X E b ρ mb) (hm : behindInMarks op b = false := by first | exact nomark _ | rfl) :
    JE X E (.Compare a [op] [b] pos) ρ (ma.bind fun x => mb.bind fun y => R.opt (f x y)) := let ⟨_, ho, ok⟩ := h; je_cmp ho ok ha hb hm
theorem Ev.test {t : TE} {m : R D} (h : Ev X.K E t ρ m (repE X.K)) : Ev X.K E (tTest t) ρ (m.bind asB) repT := fun H0 G0 G H σ Q S p => by
  refine h.use S p fun d v G1 H1 s1 s2 s3 S1 r p1 => ?_
  cases r with
  | bl k => exact ⟨k, rfl, p1 k G1 H1 s1 s2 s3 rfl⟩
  | _ => exact p1.elim
theorem Ev.wT_of {t : TT} (h : PT X e t) {m : R Bool} (q : Ev X.K E t ρ m repT) : JT X E e ρ m := fun H0 G0 G H σ Q S p => wT.of h (q H0 G0 G H σ Q S p)
theorem jt_c {op : CmpOp} {f : D → D → Option D} (h : CR X op f) (ha : JH X E a ρ ma) (hb : JH X E b ρ mb) (hm : behindInMarks op b = false := by first | exact nomark _ | rfl) :
    JT X E (.Compare a [op] [b] pos) ρ ((ma.bind fun x => mb.bind fun y => R.opt (f x y)).bind asB) := by
  obtain ⟨r, ho, ok⟩ := h
  exact Ev.wT_of (pt_cmpR ho (wE.pe a) (wE.pe b) hm) (Ev.test (tOpH ok ha hb))
theorem je_cc {op op' : CmpOp} {f f' : D → D → Option D} (h : CR X op f) (h' : CR X op' f') (ha : JH X E a ρ ma) (hb : JH X E b ρ mb) (hc : JH X E c ρ mc) (hm : lastMarks [op, op'] [b, c] = false := by with_unfolding_all rfl) :
    JE X E (.Compare a [op, op'] [b, c] pos) ρ (ma.bind fun x => mb.bind fun y => (R.opt (f x y)).bind fun z => (asB z).bind fun t => if t then mc.bind fun w => R.opt (f' y w) else .ok (.bool false)) := by
  obtain ⟨r, ho, ok⟩ := h
  obtain ⟨r', ho', ok'⟩ := h'
  exact Ev.wE_of (pe_chain ho ho' (wE.pe a) (wE.pe b) (wE.pe c) hm) (tChainH ok ok' ha hb hc)
theorem jt_cc {op op' : CmpOp} {f f' : D → D → Option D} (h : CR X op f) (h' : CR X op' f') (ha : JH X E a ρ ma) (hb : JH X E b ρ mb) (hc : JH X E c ρ mc) (hm : lastMarks [op, op'] [b, c] = false := by with_unfolding_all rfl) :
    JT X E (.Compare a [op, op'] [b, c] pos) ρ ((ma.bind fun x => mb.bind fun y => (R.opt (f x y)).bind fun z => (asB z).bind fun t => if t then mc.bind fun w => R.opt (f' y w) else .ok (.bool false)).bind asB) := by
  obtain ⟨r, ho, ok⟩ := h
  obtain ⟨r', ho', ok'⟩ := h'
  exact Ev.wT_of (pt_chain ho ho' (wE.pe a) (wE.pe b) (wE.pe c) hm) (Ev.test (tChainH ok ok' ha hb hc))

/-! ### tests -/
theorem jt_val (h : JE X E e ρ m) (he : ∀ whole, isTrue e X.env whole = (do let v ← whole; standAt e.pos; holding [v] (truthy v)) := by intro _; rfl) : JT X E e ρ (m.bind asB) :=
  Ev.wT_of (pt_val (wE.pe e) he) fun H0 G0 G H σ Q S p => Ev.test h H0 G0 G H σ Q S p
theorem jt_w (h : JW X E e ρ mt) : JT X E e ρ mt := Ev.wT_of (wW.pw e).pt h
theorem Ev.wW_of {t : TT} (h : PW X e t) {m : R Bool} (q : Ev X.K E t ρ m repT) : JW X E e ρ m := fun H0 G0 G H σ Q S p => wW.of h (q H0 G0 G H σ Q S p)
theorem jw_and1 (ha : JT X E a ρ mt) : JW X E (.BoolOp .And [a] pos) ρ mt := Ev.wW_of (pw_and1 (wT.pt a)) ha
theorem jw_or1 (ha : JT X E a ρ mt) : JW X E (.BoolOp .Or [a] pos) ρ mt := Ev.wW_of (pw_or1 (wT.pt a)) ha
theorem jw_and (ha : JT X E a ρ mt) (hb : JW X E (.BoolOp .And (b :: rest) pos) ρ mu) : JW X E (.BoolOp .And (a :: b :: rest) pos) ρ (mt.bind fun t => if t then mu else .ok false) :=
  Ev.wW_of (pw_and (wT.pt a) (wW.pw _)) fun H0 G0 G H σ Q S p => by
    refine ha.use S p fun t t' G1 H1 s1 s2 s3 S1 r p1 => ?_
    cases r
    cases t with
    | false => rw [if_neg Bool.false_ne_true]; exact p1 false G1 H1 s1 s2 s3 rfl
    | true => rw [if_pos rfl]; exact hb.use0 S1 p1 fun u u' G2 H2 t1 t2 t3 S2 r2 q => q u' G2 H2 (s1.trans t1) (s2.trans s1 t2) t3 r2
theorem jw_or (ha : JT X E a ρ mt) (hb : JW X E (.BoolOp .Or (b :: rest) pos) ρ mu) : JW X E (.BoolOp .Or (a :: b :: rest) pos) ρ (mt.bind fun t => if t then .ok true else mu) :=
  Ev.wW_of (pw_or (wT.pt a) (wW.pw _)) fun H0 G0 G H σ Q S p => by
    refine ha.use S p fun t t' G1 H1 s1 s2 s3 S1 r p1 => ?_
    cases r
    cases t with
    | true => rw [if_pos rfl]; exact p1 true G1 H1 s1 s2 s3 rfl
    | false => rw [if_neg Bool.false_ne_true]; exact hb.use0 S1 p1 fun u u' G2 H2 t1 t2 t3 S2 r2 q => q u' G2 H2 (s1.trans t1) (s2.trans s1 t2) t3 r2
theorem jt_not (ha : JT X E a ρ mt) : JT X E (.UnaryOp .Not a pos) ρ (mt.bind fun t => .ok (!t)) :=
  Ev.wT_of (pt_not (wT.pt a)) fun H0 G0 G H σ Q S p => by
    refine ha.use S p fun t t' G1 H1 s1 s2 s3 S1 r p1 => ?_
    cases r
    exact p1 (!t) G1 H1 s1 s2 s3 rfl
/-- .. as values -/
theorem je_one {op} (h : JE X E a ρ m) : JE X E (.BoolOp op [a] pos) ρ m := Ev.wE_of (pe_one (wE.pe a)) h
theorem je_and (ha : JE X E a ρ ma) (hb : JE X E (.BoolOp .And (b :: rest) pos) ρ mb) : JE X E (.BoolOp .And (a :: b :: rest) pos) ρ (ma.bind fun x => (asB x).bind fun t => if t then mb else .ok (.bool false)) :=
  Ev.wE_of (pe_and (wE.pe a) (wE.pe _)) fun H0 G0 G H σ Q S p => by
    refine ha.use S p fun d v G1 H1 s1 s2 s3 S1 r p1 => ?_
    cases r with
    | bl t =>
      refine ⟨t, rfl, ?_⟩
      cases t with
      | false => rw [if_neg Bool.false_ne_true]; exact p1 (.bl false) G1 H1 s1 s2 s3 (.bl _)
      | true => rw [if_pos rfl]; exact hb.use0 S1 p1 fun u u' G2 H2 t1 t2 t3 S2 r2 q => q u' G2 H2 (s1.trans t1) (s2.trans s1 t2) t3 r2
    | _ => exact p1.elim
theorem je_or (ha : JE X E a ρ ma) (hb : JE X E (.BoolOp .Or (b :: rest) pos) ρ mb) : JE X E (.BoolOp .Or (a :: b :: rest) pos) ρ (ma.bind fun x => (asB x).bind fun t => if t then .ok (.bool true) else mb) :=
  Ev.wE_of (pe_or (wE.pe a) (wE.pe _)) fun H0 G0 G H σ Q S p => by
    refine ha.use S p fun d v G1 H1 s1 s2 s3 S1 r p1 => ?_
    cases r with
    | bl t =>
      refine ⟨t, rfl, ?_⟩
      cases t with
      | true => rw [if_pos rfl]; exact p1 (.bl true) G1 H1 s1 s2 s3 (.bl _)
      | false => rw [if_neg Bool.false_ne_true]; exact hb.use0 S1 p1 fun u u' G2 H2 t1 t2 t3 S2 r2 q => q u' G2 H2 (s1.trans t1) (s2.trans s1 t2) t3 r2
    | _ => exact p1.elim
theorem je_not (ha : JE X E a ρ ma) : JE X E (.UnaryOp .Not a pos) ρ (ma.bind fun x => (asB x).bind fun t => .ok (.bool !t)) :=
  Ev.wE_of (pe_not (wE.pe a)) fun H0 G0 G H σ Q S p => by
    refine ha.use S p fun d v G1 H1 s1 s2 s3 S1 r p1 => ?_
    cases r with
    | bl t => exact ⟨t, rfl, p1 (.bl !t) G1 H1 s1 s2 s3 (.bl _)⟩
    | _ => exact p1.elim
theorem je_if (hc : JT X E c ρ mt) (ha : JE X E a ρ ma) (hb : JE X E b ρ mb) : JE X E (.IfExp c a b pos) ρ (mt.bind fun t => if t then ma else mb) :=
  Ev.wE_of (pe_ifExp (wT.pt c) (wE.pe a) (wE.pe b)) fun H0 G0 G H σ Q S p => by
    refine hc.use S p fun t t' G1 H1 s1 s2 s3 S1 r p1 => ?_
    cases r
    cases t with
    | true => rw [if_pos rfl] at p1 ⊢; exact ha.use0 S1 p1 fun u u' G2 H2 t1 t2 t3 S2 r2 q => q u' G2 H2 (s1.trans t1) (s2.trans s1 t2) t3 r2
    | false => rw [if_neg Bool.false_ne_true] at p1 ⊢; exact hb.use0 S1 p1 fun u u' G2 H2 t1 t2 t3 S2 r2 q => q u' G2 H2 (s1.trans t1) (s2.trans s1 t2) t3 r2

/-! ### lists of expressions -/
theorem Ev.wA_of {α : Type} {rep : Hp → Hp → List V → α → Prop} {t : TA} (h : PA X es t) {m : R α} (q : Ev X.K E t ρ m rep) : Ev X.K E (wA X es) ρ m rep := fun H0 G0 G H σ Q S p => wA.of h (q H0 G0 G H σ Q S p)
theorem jd_nil : JD X E [] ρ (.ok []) := Ev.wA_of pa_nil fun H0 G0 G H σ Q S p => p [] G H (Grow.refl _ _) (Ext.refl _ _) S.sub ⟨.nil, rfl⟩
theorem jd_cons {ms : R (List D)} (ha : JE X E e ρ m) (hr : JD X E es ρ ms) (hs : noStar e = true := by rfl) : JD X E (e :: es) ρ (m.bind fun x => ms.bind fun xs => .ok (x :: xs)) :=
  Ev.wA_of (pa_cons (wE.pe e) (wA.pa es) (star_cons hs)) fun H0 G0 G H σ Q S p => by
    refine ha.use S p fun d v G1 H1 s1 s2 s3 S1 r p1 => ?_
    refine hr.use S1 p1 fun ds vs G2 H2 t1 t2 t3 S2 r2 p2 => ?_
    exact p2 (v :: vs) G2 H2 (s1.trans t1) (s2.trans s1 t2) t3 ⟨.cons (dp_mono t2.same r) r2.1, congrArg (· + 1) r2.2⟩
theorem jl_nil : JL X E [] ρ (.ok []) := Ev.wA_of pa_nil fun H0 G0 G H σ Q S p => p [] G H (Grow.refl _ _) (Ext.refl _ _) S.sub ⟨.nil, rfl⟩
theorem jl_cons {ms : R (List D)} (ha : JH X E e ρ m) (hr : JL X E es ρ ms) (hs : noStar e = true := by rfl) : JL X E (e :: es) ρ (m.bind fun x => ms.bind fun xs => .ok (x :: xs)) :=
  Ev.wA_of (pa_cons (wE.pe e) (wA.pa es) (star_cons hs)) fun H0 G0 G H σ Q S p => by
    refine ha.use S p fun d v G1 H1 s1 s2 s3 S1 r p1 => ?_
    refine hr.use S1 p1 fun ds vs G2 H2 t1 t2 t3 S2 r2 p2 => ?_
    exact p2 (v :: vs) G2 H2 (s1.trans t1) (s2.trans s1 t2) t3 ⟨.cons (dpp_mono t1 r) r2.1, congrArg (· + 1) r2.2⟩
theorem ArgOk.mono {K : PySem.W.Frag} {G H G' H' : Hp} {v : V} {s : Slot} (h : ArgOk K G H v s) (g : Same G G') (k : Grow E.T H H') : ArgOk K G' H' v s := by
  cases s with
  | un => exact h
  | own o => exact h
  | ptr a => exact h
  | wlk p w => exact h
  | wkx w => exact h
  | bwk p w => obtain ⟨e, pp, pl, q⟩ := h; exact ⟨e, pp, pl, q.mono g k⟩
  | dat d => exact dp_mono g h
  | bor o => obtain ⟨p, e, q⟩ := h; exact ⟨p, e, q.mono g k⟩
theorem ja_nil : JA X E [] ρ (.ok []) := Ev.wA_of pa_nil fun H0 G0 G H σ Q S p => p [] G H (Grow.refl _ _) (Ext.refl _ _) S.sub ⟨.nil, rfl⟩
theorem ja_dat {ms : R (List Slot)} (ha : JE X E e ρ m) (hr : JA X E es ρ ms) (hs : noStar e = true := by rfl) : JA X E (e :: es) ρ (m.bind fun x => ms.bind fun xs => .ok (.dat x :: xs)) :=
  Ev.wA_of (pa_cons (wE.pe e) (wA.pa es) (star_cons hs)) fun H0 G0 G H σ Q S p => by
    refine ha.use S p fun d v G1 H1 s1 s2 s3 S1 r p1 => ?_
    refine hr.use S1 p1 fun ds vs G2 H2 t1 t2 t3 S2 r2 p2 => ?_
    exact p2 (v :: vs) G2 H2 (s1.trans t1) (s2.trans s1 t2) t3 ⟨.cons (dp_mono t2.same r) r2.1, congrArg (· + 1) r2.2⟩
theorem ja_bor {mo : R Ob} {ms : R (List Slot)} (ha : JB X E e ρ mo) (hr : JA X E es ρ ms) (hs : noStar e = true := by rfl) : JA X E (e :: es) ρ (mo.bind fun x => ms.bind fun xs => .ok (.bor x :: xs)) :=
  Ev.wA_of (pa_cons (wE.pe e) (wA.pa es) (star_cons hs)) fun H0 G0 G H σ Q S p => by
    refine ha.use S p fun d v G1 H1 s1 s2 s3 S1 r p1 => ?_
    refine hr.use S1 p1 fun ds vs G2 H2 t1 t2 t3 S2 r2 p2 => ?_
    obtain ⟨q, rfl, h⟩ := r
    exact p2 (.ref q :: vs) G2 H2 (s1.trans t1) (s2.trans s1 t2) t3 ⟨.cons ⟨q, rfl, h.mono t2.same t1⟩ r2.1, congrArg (· + 1) r2.2⟩

/-! ### new objects -/
/-- a new object, of nobody's yet -/
def EvN (K : PySem.W.Frag) (E : XW) (t : TE) (ρ : Rho) (m : R Ob) : Prop :=
  ∀ (H0 G0 G H : Hp) (σ : L2.St) (Q : VK), Stt E.T K H0 G0 G H σ ρ →
    m.post (fun o => ∀ (p : Addr) (G' H' : Hp), Grow E.T H H' → Ext G H G' → Same G' H' → H p = none → G' p = none → ObW K G' H' p o → Q (.ref p) H') (fun c => ∀ H', Grow E.T H H' → E c σ H') → t σ H Q
abbrev JN (X : Cx) (E : XW) (e : Expr) (ρ : Rho) (m : R Ob) : Prop := EvN X.K E (wE X e) ρ m
theorem EvN.wE_of {t : TE} (h : PE X e t) {m : R Ob} (q : EvN X.K E t ρ m) : JN X E e ρ m := fun H0 G0 G H σ Q S p => wE.of h (q H0 G0 G H σ Q S p)
/-- it becomes data -/
theorem JN.data {mo : R Ob} (h : JN X E e ρ mo) : JE X E e ρ (mo.bind obD) := fun H0 G0 G H σ Q S p => by
  refine h H0 G0 G H σ Q S (R.post_mono (R.post_bind p) (fun o _ pa q G' H' s1 s2 s3 np gp hw => ?_) fun c _ z => z)
  cases o with
  | dic kvs => exact pa.elim
  | lst ds =>
    obtain ⟨xs, hx, hds⟩ := hw
    refine pa (.ref q) (upd G' q (.lst xs)) H' s1 ⟨fun b o z => ?_, fun b o z => ?_, fun b ps z => s2.tab b ps (upd_tab rfl b ps z)⟩ (fun b o z => ?_) (.lst upd_same (dpAll_mono (same_new gp) hds))
    · rw [upd_ne (ne_of_none (s2.same b o z) gp)]; exact s2.same b o z
    · by_cases hb : b = q
      · subst hb; exact .inr np
      · rw [upd_ne hb] at z; exact s2.new b o z
    · by_cases hb : b = q
      · subst hb; rw [upd_same] at z; cases z; exact hx
      · rw [upd_ne hb] at z; exact s3 b o z
theorem je_tup {x1} {ms : R (List D)} (h : JD X E es ρ ms) (hl : es.length ≤ 1000 := by decide) : JE X E (.Tuple es x1 pos) ρ (ms.bind fun xs => .ok (.tuple xs)) :=
  Ev.wE_of (pe_tup (wA.pa es)) fun H0 G0 G H σ Q S p => by
    refine h.use S p fun ds vs G1 H1 s1 s2 s3 S1 r p1 => ?_
    exact ⟨by rw [r.1.len, r.2]; exact Nat.le_of_lt (small1000 hl), fun q hq => Endv.tup s3 (Endv.back s1 s2 p1) r.1 hq⟩
theorem jn_lst {ms : R (List D)} (h : JD X E es ρ ms) (hl : es.length ≤ 1000 := by decide) : JN X E (.List es pos) ρ (ms.bind fun xs => .ok (.lst xs)) :=
  EvN.wE_of (pe_lst (wA.pa es)) fun H0 G0 G H σ Q S p => by
    refine h.use S p fun ds vs G1 H1 s1 s2 s3 S1 r p1 => ?_
    refine ⟨by rw [r.1.len, r.2]; exact Nat.le_of_lt (small1000 hl), fun q hq => ?_⟩
    exact p1 q G1 _ (s1.trans (grow_new hq)) s2 (s3.trans (same_new hq)) (s1.free hq) (s3.free hq) ⟨vs, upd_same, r.1⟩
theorem jn_dict : JN X E (.Dict [] [] pos) ρ (.ok (.dic [])) :=
  EvN.wE_of pe_dnewK fun H0 G0 G H σ Q S p q hq => p q G _ (grow_new hq) (Ext.refl _ _) (S.sub.trans (same_new hq)) hq (S.sub.free hq) ⟨[], upd_same, .nil⟩
end
end Br
namespace Br
open PySem PySem.Spec PyProof.Rows L2

theorem atI_of {K : PySem.W.Frag} {G : Hp} {xs : List V} {ds : List D} {i : Int} {d : D} (h : DqAll K G xs ds) (e : atI ds i = some d) : ∃ v, atI xs i = some v ∧ Dq K G v d := by
  unfold atI at e ⊢
  rw [h.len]
  cases q : ixN ds.length i with
  | none => rw [q] at e; cases e
  | some j =>
    rw [q] at e
    exact h.get e
/-- the items of xs[lo:hi] -/
def cutD {α : Type} (xs : List α) (lo hi : Option Int) : List α := (xs.drop (HT.sIx xs.length 0 lo)).take (HT.sIx xs.length xs.length hi - HT.sIx xs.length 0 lo)
theorem cut_of {K : PySem.W.Frag} {G : Hp} {xs : List V} {ds : List D} {lo hi : Option Int} (h : DqAll K G xs ds) : DqAll K G (cutV xs lo hi) (cutD ds lo hi) := by
  unfold cutV cutD
  rw [h.len]
  exact DqAll.take _ (DqAll.drop _ h)
section
variable {X : Cx} {E : XW} {ρ : Rho} {e a b c : Expr} {es rest : List Expr} {m ma mb mc : R D} {mt mu : R Bool} {pos p2 : Pos}

/-! ### x[i] -/
def pyIx : D → D → Option D
  | .list ds, .int i => atI ds i
  | .tuple ds, .int i => atI ds i
  | .str z, .int i => if lineOk z.length then (atI z.cps.toList i).map fun c => .str ⟨#[c]⟩ else none
  | _, _ => none
theorem ok_ix : OkE X.K (rIx X.K) pyIx := fun G H x y d e z Q s h1 h2 ez q => by
  cases d <;> cases e <;> simp only [pyIx] at ez <;> try cases ez
  case str.int =>
    split at ez
    · rename_i hl
      cases hc : atI (α := Nat) _ _ with
      | none => rw [hc] at ez; cases ez
      | some c =>
        rw [hc] at ez
        cases ez
        exact .inr (.inr ⟨_, _, c, h1.str_inv, h2.int_inv, lineOk_iff.mp hl, hc, Endv.flat s q (.str _)⟩)
    · cases ez
  case list.int =>
    obtain ⟨p, xs, rfl, hx, hd⟩ := h1.lst_inv
    obtain ⟨v, hv, hq⟩ := atI_of hd ez
    exact .inl ⟨p, xs, _, v, rfl, h2.int_inv, SqL.of (s _ _ hx), hv, Endv.flat s q hq⟩
  case tuple.int =>
    obtain ⟨p, xs, rfl, hx, hd⟩ := h1.tup_inv
    obtain ⟨v, hv, hq⟩ := atI_of hd ez
    exact .inr (.inl ⟨p, xs, _, v, rfl, h2.int_inv, Same.tup s hx, hv, Endv.flat s q hq⟩)
theorem je_ix (ha : JE X E a ρ ma) (hb : JE X E b ρ mb) (hs : PlainIx b := by intro _ _; rfl) : JE X E (.Subscript a b pos) ρ (ma.bind fun x => mb.bind fun y => R.opt (pyIx x y)) :=
  Ev.wE_of (pe_ix ix_seq (wE.pe a) (wE.pe b) hs) (tOpE ok_ix ha hb)
/-- an item of a list that is read -/
def obIx : Ob → D → Option D
  | .lst ds, .int i => atI ds i
  | _, _ => none
theorem je_ixB {mo : R Ob} (ha : JB X E a ρ mo) (hb : JE X E b ρ mb) (hs : PlainIx b := by intro _ _; rfl) : JE X E (.Subscript a b pos) ρ (mo.bind fun x => mb.bind fun y => R.opt (obIx x y)) :=
  Ev.wE_of (pe_ix ix_list (wE.pe a) (wE.pe b) hs) fun H0 G0 G H σ Q S p => by
    refine ha.use S p fun o v G1 H1 s1 s2 s3 S1 r p1 => ?_
    refine hb.use S1 p1 fun d y G2 H2 t1 t2 t3 S2 r2 p2 => ?_
    obtain ⟨z, ez, q⟩ := R.opt_post p2
    cases o with
    | dic kvs => cases ez
    | lst ds =>
      obtain ⟨a', rfl, xs, hx, hd⟩ := r
      cases d <;> simp only [obIx] at ez <;> try cases ez
      obtain ⟨v, hv, hq⟩ := atI_of (dpAll_mono t2.same hd) ez
      exact ⟨a', xs, _, v, rfl, r2.int_inv, t1.seq hx, hv, q v G2 H2 (s1.trans t1) (s2.trans s1 t2) t3 hq⟩

/-! ### x[lo:hi] -/
def asI : D → R (Option Int)
  | .int i => .ok (some i)
  | _ => .stuck
theorem Ev.wO_of {e : Option Expr} {t : TO} (h : PO X e t) {m : R (Option Int)} (q : Ev X.K E t ρ m repO) : JO X E e ρ m := fun H0 G0 G H σ Q S p => wO.of h (q H0 G0 G H σ Q S p)
theorem jo_none : JO X E none ρ (.ok none) := Ev.wO_of po_none fun H0 G0 G H σ Q S p => p none G H (Grow.refl _ _) (Ext.refl _ _) S.sub rfl
theorem jo_some (h : JE X E e ρ m) : JO X E (some e) ρ (m.bind asI) := Ev.wO_of (po_some (wE.pe e)) fun H0 G0 G H σ Q S p => by
  refine h.use S p fun d v G1 H1 s1 s2 s3 S1 r p1 => ?_
  cases r with
  | int i => exact ⟨i, rfl, p1 (some i) G1 H1 s1 s2 s3 rfl⟩
  | _ => exact p1.elim
def pySl : D → Option Int → Option Int → Option D
  | .list ds, lo, hi => some (.list (cutD ds lo hi))
  | .tuple ds, lo, hi => some (.tuple (cutD ds lo hi))
  | .str z, lo, hi => if lineOk z.length then some (.str (cutS z lo hi)) else none
  | _, _, _ => none
def rSlD (K : PySem.W.Frag) : V → Option Int → Option Int → Hp → VK → Prop := fun x lo hi H Q => rSlL K x lo hi H Q ∨ (rSlA K x lo hi H Q ∨ rSlS x lo hi H Q)
theorem sl_D : SlR X (rSlD X.K) := SlR.or sl_list (SlR.or sl_tupA sl_str)
theorem je_sl {lo hi : Option Expr} {ml mh : R (Option Int)} (ha : JE X E a ρ ma) (hl : JO X E lo ρ ml) (hh : JO X E hi ρ mh) :
    JE X E (.Subscript a (.Slice lo hi none p2) pos) ρ (ma.bind fun x => ml.bind fun l => mh.bind fun h => R.opt (pySl x l h)) :=
  Ev.wE_of (pe_slice sl_D (wE.pe a) (wO.po lo) (wO.po hi)) fun H0 G0 G H σ Q S p => by
    refine ha.use S p fun d v G1 H1 s1 s2 s3 S1 r p1 => ?_
    refine hl.use S1 p1 fun l l' G2 H2 t1 t2 t3 S2 r2 p2 => ?_
    refine hh.use S2 p2 fun h h' G3 H3 u1 u2 u3 S3 r3 p3 => ?_
    cases r2
    cases r3
    obtain ⟨z, ez, q⟩ := R.opt_post p3
    have r' := dp_mono u2.same (dp_mono t2.same r)
    have q' : Endv E.T X.K G3 H3 Q z := Endv.back ((s1.trans t1).trans u1) ((s2.trans s1 t2).trans (s1.trans t1) u2) q
    cases d <;> simp only [pySl] at ez <;> try cases ez
    case str z' =>
      split at ez
      · rename_i hl
        cases ez
        exact .inr (.inr ⟨z', r'.str_inv, lineOk_iff.mp hl, Endv.flat u3 q' (.str _)⟩)
      · cases ez
    case refl.refl.list.refl ds =>
      obtain ⟨a', xs, rfl, hx, hd⟩ := r'.lst_inv
      exact .inl ⟨a', xs, rfl, SqL.of (u3 _ _ hx), fun p hp => Endv.lst u3 q' (cut_of hd) hp⟩
    case refl.refl.tuple.refl ds =>
      obtain ⟨a', xs, rfl, hx, hd⟩ := r'.tup_inv
      refine .inr (.inl ⟨a', xs, rfl, Same.tup u3 hx, fun hw => ?_, fun _ p hp => Endv.tup u3 q' (cut_of hd) hp⟩)
      have e0 : cutD ds l h = ds := by
        unfold cutD
        rw [← hd.len, hw.1, hw.2, List.drop_zero, Nat.sub_zero, hd.len, List.take_length]
      rw [e0] at q'
      exact Endv.flat u3 q' (.tup hx hd)
def obSl : Ob → Option Int → Option Int → Option Ob
  | .lst ds, lo, hi => some (.lst (cutD ds lo hi))
  | _, _, _ => none
theorem jn_slB {lo hi : Option Expr} {ml mh : R (Option Int)} {mo : R Ob} (ha : JB X E a ρ mo) (hl : JO X E lo ρ ml) (hh : JO X E hi ρ mh) :
    JN X E (.Subscript a (.Slice lo hi none p2) pos) ρ (mo.bind fun x => ml.bind fun l => mh.bind fun h => R.opt (obSl x l h)) :=
  EvN.wE_of (pe_slice sl_list (wE.pe a) (wO.po lo) (wO.po hi)) fun H0 G0 G H σ Q S p => by
    refine ha.use S p fun o v G1 H1 s1 s2 s3 S1 r p1 => ?_
    refine hl.use S1 p1 fun l l' G2 H2 t1 t2 t3 S2 r2 p2 => ?_
    refine hh.use S2 p2 fun h h' G3 H3 u1 u2 u3 S3 r3 p3 => ?_
    cases r2
    cases r3
    obtain ⟨z, ez, q⟩ := R.opt_post p3
    cases o with
    | dic kvs => cases ez
    | lst ds =>
      cases ez
      obtain ⟨a', rfl, xs, hx, hd⟩ := r
      refine ⟨a', xs, rfl, u1.seq (t1.seq hx), fun p hp => ?_⟩
      exact q p G3 _ (((s1.trans t1).trans u1).trans (grow_new hp)) ((s2.trans s1 t2).trans (s1.trans t1) u2) (u3.trans (same_new hp)) (((s1.trans t1).trans u1).free hp) (u3.free hp)
        ⟨_, upd_same, cut_of (dpAll_mono u2.same (dpAll_mono t2.same hd))⟩

/-! ### calls of built-ins -/
def CkH (K : PySem.W.Frag) (r : List V → Hp → VK → Prop) (f : List D → Option D) : Prop := ∀ {T : Tb} (G H : Hp) (xs : List V) (ds : List D) (z : D) (Q : VK), Same G H → DpAll K H xs ds → f ds = some z → Endv T K G H Q z → r xs H Q
theorem tCbH {ms : R (List D)} {r : List V → Hp → VK → Prop} {f : List D → Option D} (ok : CkH X.K r f) (h : JL X E es ρ ms) : Ev X.K E (tCB r (wA X es)) ρ (ms.bind fun xs => R.opt (f xs)) (repE X.K) := fun H0 G0 G H σ Q S p => by
  refine h.use S p fun ds vs G1 H1 s1 s2 s3 S1 r p1 => ?_
  obtain ⟨z, ez, q⟩ := R.opt_post p1
  exact ok G1 H1 vs ds z Q s3 r.1 ez (Endv.back s1 s2 q)
def CkE (K : PySem.W.Frag) (r : List V → Hp → VK → Prop) (f : List D → Option D) : Prop := ∀ {T : Tb} (G H : Hp) (xs : List V) (ds : List D) (z : D) (Q : VK), Same G H → DqAll K G xs ds → f ds = some z → Endv T K G H Q z → r xs H Q
theorem tCbE {ms : R (List D)} {r : List V → Hp → VK → Prop} {f : List D → Option D} (ok : CkE X.K r f) (h : JD X E es ρ ms) : Ev X.K E (tCB r (wA X es)) ρ (ms.bind fun xs => R.opt (f xs)) (repE X.K) := fun H0 G0 G H σ Q S p => by
  refine h.use S p fun ds vs G1 H1 s1 s2 s3 S1 r p1 => ?_
  obtain ⟨z, ez, q⟩ := R.opt_post p1
  exact ok G1 H1 vs ds z Q s3 r.1 ez (Endv.back s1 s2 q)
theorem je_cb {x : Str} {id : String} {r : List V → Hp → VK → Prop} {f : List D → Option D} {ms : R (List D)} {p : Pos} (hc : CallR X (.builtin id) r) (ok : CkH X.K r f) (hv : bootBuiltins x = some (.builtin id)) (hm : X.mg x = none) (h : JL X E (e :: es) ρ ms) (hg : Gl X x := by rfl)
    (hn : x ≠ "__name__" := by decide) (hdb : (x == ("__debug__" : Str)) = false := by decide) (he : noStar e = true := by rfl) (hpl : es.all noStar = true := by rfl) :
    JE X E (.Call (.Name x p) (e :: es) [] pos) ρ (ms.bind fun xs => R.opt (f xs)) := Ev.wE_of (pe_callB hc hg hm hv (wA.pa _) hn hdb (star_cons he) (star_any hpl)) (tCbH ok h)
theorem je_ct {x : Str} {id : String} {r : List V → Hp → VK → Prop} {f : List D → Option D} {ms : R (List D)} {p : Pos} (hc : CallR X (.type id) r) (ok : CkH X.K r f) (hv : bootBuiltins x = some (.type id)) (hm : X.mg x = none) (h : JL X E (e :: es) ρ ms) (hg : Gl X x := by rfl)
    (hn : x ≠ "__name__" := by decide) (hdb : (x == ("__debug__" : Str)) = false := by decide) (he : noStar e = true := by rfl) (hpl : es.all noStar = true := by rfl) :
    JE X E (.Call (.Name x p) (e :: es) [] pos) ρ (ms.bind fun xs => R.opt (f xs)) := Ev.wE_of (pe_callTy hc hg hm hv (wA.pa _) hn hdb (star_cons he) (star_any hpl)) (tCbH ok h)
theorem je_ctE {x : Str} {id : String} {r : List V → Hp → VK → Prop} {f : List D → Option D} {ms : R (List D)} {p : Pos} (hc : CallR X (.type id) r) (ok : CkE X.K r f) (hv : bootBuiltins x = some (.type id)) (hm : X.mg x = none) (h : JD X E (e :: es) ρ ms) (hg : Gl X x := by rfl)
    (hn : x ≠ "__name__" := by decide) (hdb : (x == ("__debug__" : Str)) = false := by decide) (he : noStar e = true := by rfl) (hpl : es.all noStar = true := by rfl) :
    JE X E (.Call (.Name x p) (e :: es) [] pos) ρ (ms.bind fun xs => R.opt (f xs)) := Ev.wE_of (pe_callTy hc hg hm hv (wA.pa _) hn hdb (star_cons he) (star_any hpl)) (tCbE ok h)
theorem DpAll.len' {K : PySem.W.Frag} {H : Hp} : ∀ {vs : List V} {ds : List D}, DpAll K H vs ds → vs.length = ds.length
  | _, _, .nil => rfl
  | _, _, .cons _ t => congrArg (· + 1) (DpAll.len' t)
/-- len -/
def pyLen : List D → Option D
  | [.list ds] => some (.int ds.length)
  | [.tuple ds] => some (.int ds.length)
  | [.str z] => if lineOk z.length then some (.int z.length) else none
  | _ => none
theorem ok_len : CkH X.K (fun xs H Q => ∃ x n, xs = [x] ∧ LenV X.K x H n ∧ Q (.int n) H) pyLen := fun G H xs ds z Q s h ez q => by
  cases h with
  | nil => cases ez
  | cons h1 h2 =>
    cases h2 with
    | cons _ _ => simp [pyLen] at ez
    | nil =>
      cases h1 with
      | str x =>
        simp only [pyLen] at ez
        split at ez
        · rename_i hl
          cases ez
          exact ⟨_, _, rfl, ⟨lineOk_iff.mp hl, rfl⟩, Endv.flat s q (.int _)⟩
        · cases ez
      | lst hx hd =>
        cases ez
        exact ⟨_, _, rfl, .inl ⟨_, hx, rfl⟩, by rw [DpAll.len' hd]; exact Endv.flat s q (.int _)⟩
      | tup hx hd =>
        cases ez
        exact ⟨_, _, rfl, .inr ⟨_, hx, rfl⟩, by rw [DpAll.len' hd]; exact Endv.flat s q (.int _)⟩
      | _ => cases ez
/-- all(a list of bools) -/
def boolsD : List D → Option (List Bool)
  | [] => some []
  | .bool b :: r => (boolsD r).map (b :: ·)
  | _ => none
theorem bools_of {K : PySem.W.Frag} {H : Hp} : ∀ {xs : List V} {ds : List D} {bs : List Bool}, DpAll K H xs ds → boolsD ds = some bs → xs = bs.map V.bl
  | _, _, bs, .nil, e => by cases e; rfl
  | _, _, bs, .cons (ds := ds) h t, e => by
    cases h <;> simp only [boolsD] at e <;> try cases e
    cases q : boolsD ds with
    | none => rw [q] at e; cases e
    | some cs => rw [q] at e; cases e; rw [bools_of t q]; rfl
def pyAll : List D → Option D
  | [.list ds] => (boolsD ds).map fun bs => .bool (bs.all id)
  | _ => none
theorem ok_all : CkH X.K (rAll X.K) pyAll := fun G H xs ds z Q s h ez q => by
  cases h with
  | nil => cases ez
  | cons h1 h2 =>
    cases h2 with
    | cons _ _ => simp [pyAll] at ez
    | nil =>
      cases h1 <;> simp only [pyAll] at ez <;> try cases ez
      rename_i a ys es hx hd
      cases e : boolsD es with
      | none => rw [e] at ez; cases ez
      | some bs =>
        rw [e] at ez
        cases ez
        have := bools_of hd e
        subst this
        exact ⟨_, bs, rfl, hx, Endv.flat s q (.bl _)⟩
/-- ints -/
def intsD : List D → Option (List Int)
  | [] => some []
  | .int b :: r => (intsD r).map (b :: ·)
  | _ => none
theorem ints_of {K : PySem.W.Frag} {H : Hp} : ∀ {xs : List V} {ds : List D} {bs : List Int}, DpAll K H xs ds → intsD ds = some bs → xs = bs.map V.int
  | _, _, bs, .nil, e => by cases e; rfl
  | _, _, bs, .cons (ds := ds) h t, e => by
    cases h <;> simp only [intsD] at e <;> try cases e
    cases q : intsD ds with
    | none => rw [q] at e; cases e
    | some cs => rw [q] at e; cases e; rw [ints_of t q]; rfl
theorem intsD_map (ns : List Int) : intsD (ns.map .int) = some ns := by
  induction ns with
  | nil => rfl
  | cons n r ih => simp only [List.map_cons, intsD, ih]; rfl
def pySum : List D → Option D
  | [.list ds] => (intsD ds).map fun bs => .int bs.sum
  | [.tuple ds] => (intsD ds).map fun bs => .int bs.sum
  | _ => none
def rSumT (K : PySem.W.Frag) : List V → Hp → VK → Prop := fun vs H Q => ∃ (a : Addr) (ns : List Int), vs = [V.ref a] ∧ SqT K H a (ns.map V.int) ∧ Q (.int ns.sum) H
theorem cr_sumT (hc : X.calm = true) : CallR X (.builtin "sum") (rSumT X.K) := by
  intro pins s σ H vs us Q I r h
  obtain ⟨a, ns, rfl, hs, q⟩ := h
  obtain ⟨its, rv, hl, _⟩ := I.tuple hs
  rw [Vals.ref1 r]
  obtain ⟨ps, e⟩ := rv.ints.allInts.items
  have en : (ps.toList.map (·.1)) = ns := by
    have z : numsOf (intItems ps).toList = ns := by rw [← e]; exact rv.ints.numsOf
    rwa [nums_intItems] at z
  have hl2 : s.heap.IsTuple a (intItems ps) := by rw [← e]; exact hl
  refine PySem.W.ktm_sumG (I.ok.hd hc) hl2 fun h' tk t' hk => ?_
  rw [preSum_eq, List.take_of_length_le (by simp), en]
  exact ⟨.int _, H, I.kept hk, ⟨_, rfl⟩, q⟩
theorem cr_sumD (hc : X.calm = true) : CallR X (.builtin "sum") (fun vs H Q => rSum X.K vs H Q ∨ rSumT X.K vs H Q) := CallR.or (cr_sum hc) (cr_sumT hc)
theorem ok_sumD : CkH X.K (fun vs H Q => rSum X.K vs H Q ∨ rSumT X.K vs H Q) pySum := fun G H xs ds z Q s h ez q => by
  cases h with
  | nil => cases ez
  | cons h1 h2 =>
    cases h2 with
    | cons _ _ => simp [pySum] at ez
    | nil =>
      cases h1 <;> simp only [pySum] at ez <;> try cases ez
      · rename_i a ys es hx hd
        cases e : intsD es with
        | none => rw [e] at ez; cases ez
        | some bs =>
          rw [e] at ez
          cases ez
          have := ints_of hd e
          subst this
          exact .inl ⟨_, bs, rfl, hx, Endv.flat s q (.int _)⟩
      · rename_i a ys es hx hd
        cases e : intsD es with
        | none => rw [e] at ez; cases ez
        | some bs =>
          rw [e] at ez
          cases ez
          have := ints_of hd e
          subst this
          exact .inr ⟨_, bs, rfl, hx, Endv.flat s q (.int _)⟩
/-- abs, max of two, min of two, int, str of an int -/
def pyAbs : List D → Option D
  | [.int i] => some (.int (if i < 0 then -i else i))
  | _ => none
theorem ok_abs : CkH X.K (fun xs H Q => ∃ i, xs = [.int i] ∧ Q (.int (if i < 0 then -i else i)) H) pyAbs := fun G H xs ds z Q s h ez q => by
  cases h with
  | nil => cases ez
  | cons h1 h2 =>
    cases h2 with
    | cons _ _ => simp [pyAbs] at ez
    | nil =>
      cases h1 <;> simp only [pyAbs] at ez <;> try cases ez
      exact ⟨_, rfl, Endv.flat s q (.int _)⟩
def pyMax2 : List D → Option D
  | [.int i, .int j] => some (.int (if j > i then j else i))
  | _ => none
theorem ok_max2 : CkH X.K (fun xs H Q => ∃ i j, xs = [.int i, .int j] ∧ Q (.int (if j > i then j else i)) H) pyMax2 := fun G H xs ds z Q s h ez q => by
  rcases ds with _ | ⟨d1, _ | ⟨d2, _ | ⟨d3, r⟩⟩⟩ <;> try (simp [pyMax2] at ez)
  · cases h with
    | cons h1 h2 =>
      cases h2 with
      | cons h2 h3 =>
        cases h3
        cases d1 <;> cases d2 <;> simp [pyMax2] at ez
        subst ez
        exact ⟨_, _, by rw [int_inv h1, int_inv h2], Endv.flat s q (.int _)⟩
def pyMin2 : List D → Option D
  | [.int i, .int j] => some (.int (if j < i then j else i))
  | _ => none
theorem ok_min2 : CkH X.K (fun xs H Q => ∃ i j, xs = [.int i, .int j] ∧ Q (.int (if j < i then j else i)) H) pyMin2 := fun G H xs ds z Q s h ez q => by
  rcases ds with _ | ⟨d1, _ | ⟨d2, _ | ⟨d3, r⟩⟩⟩ <;> try (simp [pyMin2] at ez)
  · cases h with
    | cons h1 h2 =>
      cases h2 with
      | cons h2 h3 =>
        cases h3
        cases d1 <;> cases d2 <;> simp [pyMin2] at ez
        subst ez
        exact ⟨_, _, by rw [int_inv h1, int_inv h2], Endv.flat s q (.int _)⟩
def pyInt : List D → Option D
  | [.int i] => some (.int i)
  | [.bool k] => some (.int (if k then 1 else 0))
  | _ => none
theorem ok_int : CkH X.K (fun xs H Q => (∃ i, xs = [.int i] ∧ Q (.int i) H) ∨ ∃ k, xs = [.bl k] ∧ Q (.int (if k then 1 else 0)) H) pyInt := fun G H xs ds z Q s h ez q => by
  cases h with
  | nil => cases ez
  | cons h1 h2 =>
    cases h2 with
    | cons _ _ => simp [pyInt] at ez
    | nil =>
      cases h1 <;> simp only [pyInt] at ez <;> try cases ez
      · exact .inr ⟨_, rfl, Endv.flat s q (.int _)⟩
      · exact .inl ⟨_, rfl, Endv.flat s q (.int _)⟩
/-- isinstance -/
inductive Ty5 where
  | int | bool | str | tuple | list
def Ty5.name : Ty5 → String
  | .int => "int" | .bool => "bool" | .str => "str" | .tuple => "tuple" | .list => "list"
def tyName : D → String
  | .none => "NoneType" | .bool _ => "bool" | .int _ => "int" | .str _ => "str" | .list _ => "list" | .tuple _ => "tuple" | .dict _ => "dict"
def isTy : Ty5 → D → Bool
  | .int, .int _ => true
  | .int, .bool _ => true
  | .bool, .bool _ => true
  | .str, .str _ => true
  | .tuple, .tuple _ => true
  | .list, .list _ => true
  | _, _ => false
theorem kit5 : ∀ (t : Ty5) (d : D), (∀ kvs, d ≠ .dict kvs) → kitB (tyName d) t.name = some (isTy t d)
  | .int, .none, _ => (show kitB "NoneType" "int" = some false by decide +kernel)
  | .int, .bool _, _ => (show kitB "bool" "int" = some true by decide +kernel)
  | .int, .int _, _ => (show kitB "int" "int" = some true by decide +kernel)
  | .int, .str _, _ => (show kitB "str" "int" = some false by decide +kernel)
  | .int, .list _, _ => (show kitB "list" "int" = some false by decide +kernel)
  | .int, .tuple _, _ => (show kitB "tuple" "int" = some false by decide +kernel)
  | .bool, .none, _ => (show kitB "NoneType" "bool" = some false by decide +kernel)
  | .bool, .bool _, _ => (show kitB "bool" "bool" = some true by decide +kernel)
  | .bool, .int _, _ => (show kitB "int" "bool" = some false by decide +kernel)
  | .bool, .str _, _ => (show kitB "str" "bool" = some false by decide +kernel)
  | .bool, .list _, _ => (show kitB "list" "bool" = some false by decide +kernel)
  | .bool, .tuple _, _ => (show kitB "tuple" "bool" = some false by decide +kernel)
  | .str, .none, _ => (show kitB "NoneType" "str" = some false by decide +kernel)
  | .str, .bool _, _ => (show kitB "bool" "str" = some false by decide +kernel)
  | .str, .int _, _ => (show kitB "int" "str" = some false by decide +kernel)
  | .str, .str _, _ => (show kitB "str" "str" = some true by decide +kernel)
  | .str, .list _, _ => (show kitB "list" "str" = some false by decide +kernel)
  | .str, .tuple _, _ => (show kitB "tuple" "str" = some false by decide +kernel)
  | .tuple, .none, _ => (show kitB "NoneType" "tuple" = some false by decide +kernel)
  | .tuple, .bool _, _ => (show kitB "bool" "tuple" = some false by decide +kernel)
  | .tuple, .int _, _ => (show kitB "int" "tuple" = some false by decide +kernel)
  | .tuple, .str _, _ => (show kitB "str" "tuple" = some false by decide +kernel)
  | .tuple, .list _, _ => (show kitB "list" "tuple" = some false by decide +kernel)
  | .tuple, .tuple _, _ => (show kitB "tuple" "tuple" = some true by decide +kernel)
  | .list, .none, _ => (show kitB "NoneType" "list" = some false by decide +kernel)
  | .list, .bool _, _ => (show kitB "bool" "list" = some false by decide +kernel)
  | .list, .int _, _ => (show kitB "int" "list" = some false by decide +kernel)
  | .list, .str _, _ => (show kitB "str" "list" = some false by decide +kernel)
  | .list, .list _, _ => (show kitB "list" "list" = some true by decide +kernel)
  | .list, .tuple _, _ => (show kitB "tuple" "list" = some false by decide +kernel)
  | _, .dict kvs, h => absurd rfl (h kvs)
theorem tyX_of {K : PySem.W.Frag} {H : Hp} {v : V} {d : D} (h : Dp K H v d) : TyX K H v (.type (tyName d)) := by
  cases h with
  | non => exact .base .non
  | bl b => exact .base (.bl b)
  | int i => exact .base (.int i)
  | str x => exact .base (.str x)
  | lst hx hd =>
    rcases hx with (hx | ⟨o, hx⟩) | ⟨o, its, n, hk, hc, _⟩
    · exact .base (.lst hx)
    · exact .base (.frz hx)
    · exact .kList hk hc
  | tup hx hd =>
    rcases hx with (hx | ⟨o, hx⟩) | ⟨o, its, n, hk, hc, _⟩
    · exact .base (.tup hx)
    · exact .fTuple hx
    · exact .kTuple hk hc
theorem je_isi {T : Str} {p p1 : Pos} (t : Ty5) (hT : bootBuiltins T = some (.type t.name)) (hmT : X.mg T = none) (hm : X.mg "isinstance" = none) (h : JH X E e ρ m) (hg : Gl X "isinstance" := by rfl) (hgT : Gl X T := by rfl)
    (hnT : T ≠ "__name__" := by decide) (hdT : (T == ("__debug__" : Str)) = false := by decide)
    (hs : noStar e = true := by rfl) :
    JE X E (.Call (.Name "isinstance" p) [e, .Name T p1] [] pos) ρ (m.bind fun d => .ok (.bool (isTy t d))) := by
  refine Ev.wE_of (pe_callB call_isi hg hm (by decide +kernel) (pa_cons (wE.pe e) (pa_cons (pe_bltn (v := .ty t.name) hgT hmT hT rfl hnT hdT) pa_nil) (star_cons hs)) (by decide) (by decide) (star_cons hs) (star_any rfl)) fun H0 G0 G H σ Q S p => ?_
  refine h.use S p fun d v G1 H1 s1 s2 s3 S1 r p1 => ?_
  refine ⟨v, .ty t.name, .type (tyName d), .type t.name, isTy t d, rfl, .ty _, tyX_of r, kit_ty (kit5 t d ?_), p1 (.bl _) G1 H1 s1 s2 s3 (.bl _)⟩
  intro kvs z
  subst z
  cases r
end

/-! ### calls of the text's own defs -/
/-- a def's promise: its arguments as data (or objects that are read), what it gives by F -/
def spD (T : Tb) (K : PySem.W.Frag) (CA : XC → Addr) (n : Nat) (F : List Slot → R D) : Sp := fun vs H Q E => vs.length = n ∧ LamX.Tabs T H ∧ ∃ (G : Hp) (ss : List Slot), (∀ b ps, G b ≠ some (.tbl ps)) ∧ Same G H ∧ Paired (fun v s => ArgOk K G H v s) vs ss ∧
  (F ss).post (fun d => Endv T K G H Q d) (fun c => ∀ H', Grow T H H' → E (.ref (CA c)) none H')
structure FnD (T : Tb) (P : Program) (w : World) (K : PySem.W.Frag) (mg : Str → Option Value) (base : Heap) (CA : XC → Addr) (k : Nat) (x : Str) (ps : List Str) (F : List Slot → R D) : Prop where
  ex : ∃ f fd, mg x = some (.ref f) ∧ PySem.W.keepIn K (.ref f) = true ∧ Binds K fd ps [] ∧ FnOk P w K mg base (L2.CX P w) k f fd ps (spD T K CA ps.length F)
theorem FnD.mono {T : Tb} {P : Program} {w : World} {K : PySem.W.Frag} {mg : Str → Option Value} {base : Heap} {CA : XC → Addr} {j k : Nat} {x : Str} {ps : List Str} {F : List Slot → R D} (h : FnD T P w K mg base CA j x ps F) (hk : j ≤ k) : FnD T P w K mg base CA k x ps F := by
  obtain ⟨f, fd, a, b, c, d⟩ := h.ex
  exact ⟨f, fd, a, b, c, d.mono hk⟩
/-- the wish E, as the layer takes it -/
def wOf (CA : XC → Addr) (E : XW) : WX := fun cls d σ H => d = none ∧ ∃ c, cls = .ref (CA c) ∧ E c σ H
section
variable {X : Cx} {E : XW} {ρ : Rho} {e : Expr} {es : List Expr} {pos p : Pos} {CA : XC → Addr} {k : Nat} {x : Str} {ps : List Str} {F : List Slot → R D}
theorem je_call {ms : R (List Slot)} (h : FnD E.T X.prog X.w X.K X.mg X.base CA k x ps F) (hr : Room k X.A) (tk : Takes X (wOf CA E)) (hn : ps.length = (e :: es).length) (ha : JA X E (e :: es) ρ ms) (hg : Gl X x := by rfl)
    (hdb : (x == ("__debug__" : Str)) = false := by decide) (he : noStar e = true := by rfl) (hpl : es.all noStar = true := by rfl) :
    JE X E (.Call (.Name x p) (e :: es) [] pos) ρ (ms.bind F) := by
  obtain ⟨f, fd, hm, hk, hb, hf⟩ := h.ex
  refine Ev.wE_of (pe_callS hf hr hg hm hk hb (fun σ => passAt tk σ) (wA.pa _) hdb (star_cons he) (star_any hpl)) fun H0 G0 G H σ Q S q => ?_
  refine ha H0 G0 G H σ _ S (R.post_mono (R.post_bind q) (fun ss es' q1 vs G1 H1 s1 s2 s3 r => ?_) fun c _ z => z)
  refine ⟨(Paired.length r.1).trans (r.2.trans hn.symm), s1.tabs (S.sub0.tabs S.tb), G1, ss, (S.grow s1 s2 s3).plainG, s3, r.1, R.post_mono q1 (fun d _ z => Endv.back s1 s2 z) fun c _ z H' s => ⟨rfl, c, rfl, z H' (s1.trans s)⟩⟩
end
end Br
namespace Br
open PySem PySem.Spec PyProof.Rows L2

/-! ### statements -/
inductive Out (α : Type) where
  | nx (a : α) | bk (a : α) | rt (d : D)
def Out.cont {α β : Type} (k : α → R (Out β)) : Out α → R (Out β)
  | .nx a => k a
  | .bk a => k a
  | .rt d => .ok (.rt d)
def PoS {α : Type} (T : Tb) (K : PySem.W.Frag) (H0 G0 : Hp) (fin : α → Rho) (De : Ends) (o : Out α) : Prop := match o with
  | .nx a => ∀ (G' H' : Hp) (σ' : L2.St), Stt T K H0 G0 G' H' σ' (fin a) → De.nx σ' H'
  | .bk a => ∀ (G' H' : Hp) (σ' : L2.St), Stt T K H0 G0 G' H' σ' (fin a) → De.bk σ' H'
  | .rt d => ∀ (v : V) (G' H' : Hp), Grow T H0 H' → Ext G0 H0 G' → Same G' H' → Dq K G' v d → De.rt v H'
def PoX (H0 : Hp) (E : XW) (c : XC) : Prop := ∀ (σ' : L2.St) (H' : Hp), Grow E.T H0 H' → E c σ' H'
def EvS {α : Type} (K : PySem.W.Frag) (E : XW) (t : TS) (ρ : Rho) (fin : α → Rho) (m : R (Out α)) : Prop :=
  ∀ (H0 G0 G H : Hp) (σ : L2.St) (De : Ends), Stt E.T K H0 G0 G H σ ρ → m.post (PoS E.T K H0 G0 fin De) (PoX H0 E) → t De σ H
theorem Stt.self {T : Tb} {K : PySem.W.Frag} {H0 G0 G H : Hp} {σ : L2.St} {ρ : Rho} (S : Stt T K H0 G0 G H σ ρ) : Stt T K H0 G G H σ ρ := { S with gt := S.plainG, ext := Ext.refl _ _ }
theorem Stt.down {T : Tb} {K : PySem.W.Frag} {H0 G0 G1 G H : Hp} {σ : L2.St} {ρ : Rho} (S : Stt T K H0 G1 G H σ ρ) (x : Ext G0 H0 G1) : Stt T K H0 G0 G H σ ρ := { S with gt := fun b ps e => S.gt b ps (x.same b _ e), ext := x.trans (Grow.refl T _) S.ext }
theorem PoS.down {α : Type} {T : Tb} {K : PySem.W.Frag} {H0 G0 G1 : Hp} {fin : α → Rho} {De : Ends} {o : Out α} (h : PoS T K H0 G0 fin De o) (x : Ext G0 H0 G1) : PoS T K H0 G1 fin De o := by
  cases o with
  | nx a => exact fun G' H' σ' S => h G' H' σ' (S.down x)
  | bk a => exact fun G' H' σ' S => h G' H' σ' (S.down x)
  | rt d => exact fun v G' H' s1 s2 s3 q => h v G' H' s1 (x.trans (Grow.refl T _) s2) s3 q
abbrev JK {α : Type} (X : Cx) (E : XW) (sts : List Stmt) (tR : TS) (ρ : Rho) (fin : α → Rho) (m : R (Out α)) : Prop := EvS X.K E (tSeq (wSs X sts) tR) ρ fin m

section
variable {X : Cx} {E : XW} {ρ : Rho} {e a b c : Expr} {es : List Expr} {st : Stmt} {sts rest : List Stmt} {tR : TS} {α β : Type} {fin : α → Rho} {m ma mb : R D} {mt : R Bool} {mo : R (Out α)} {pos pos' : Pos}

/-- an expression ahead of what follows -/
theorem Ev.useS {γ δ : Type} {K : PySem.W.Frag} {t : EvT δ} {m : R γ} {rep : Hp → Hp → δ → γ → Prop} (h : Ev K E t ρ m rep)
    {H0 G0 G H : Hp} {σ : L2.St} {Q : δ → Hp → Prop} (S : Stt E.T K H0 G0 G H σ ρ) {f : γ → R (Out α)} {q : Out α → Prop} (p : (m.bind f).post q (PoX H0 E))
    (k : ∀ (a : γ) (v : δ) (G' H' : Hp), Grow E.T H H' → Ext G H G' → Same G' H' → Stt E.T K H0 G0 G' H' σ ρ → rep G' H' v a → (f a).post q (PoX H0 E) → Q v H') : t σ H Q := by
  refine h H0 G0 G H σ Q S (R.post_mono (R.post_bind p) (fun a _ pa v G' H' s1 s2 s3 r => ?_) fun c _ z H' s => z σ H' (S.sub0.trans s))
  exact k a v G' H' s1 s2 s3 (S.grow s1 s2 s3) r pa
theorem EvN.useS {K : PySem.W.Frag} {t : TE} {m : R Ob} (h : EvN K E t ρ m)
    {H0 G0 G H : Hp} {σ : L2.St} {Q : VK} (S : Stt E.T K H0 G0 G H σ ρ) {f : Ob → R (Out α)} {q : Out α → Prop} (p : (m.bind f).post q (PoX H0 E))
    (k : ∀ (a : Ob) (p : Addr) (G' H' : Hp), Grow E.T H H' → Ext G H G' → Same G' H' → Stt E.T K H0 G0 G' H' σ ρ → H p = none → G' p = none → ObW K G' H' p a → (f a).post q (PoX H0 E) → Q (.ref p) H') : t σ H Q := by
  refine h H0 G0 G H σ Q S (R.post_mono (R.post_bind p) (fun a _ pa v G' H' s1 s2 s3 r1 r2 r3 => ?_) fun c _ z H' s => z σ H' (S.sub0.trans s))
  exact k a v G' H' s1 s2 s3 (S.grow s1 s2 s3) r1 r2 r3 pa

theorem jk_cons (h : EvS X.K E (fun De σ H => wS X st { De with nx := tSeq (wSs X rest) tR De } σ H) ρ fin mo) : JK X E (st :: rest) tR ρ fin mo := fun H0 G0 G H σ De S p =>
  wSs.of (pss_cons (wS.ps st) (wSs.pss rest)) (h H0 G0 G H σ De S p)
theorem jk_end {x : α} (h : Less (fin x) ρ) : JK X E [] tNext ρ fin (.ok (.nx x)) := fun H0 G0 G H σ De S p =>
  wSs.of pss_nil (p G H σ (S.less h))
theorem jk_nil (h : JK X E rest tR ρ fin mo) : JK X E [] (tSeq (wSs X rest) tR) ρ fin mo := fun H0 G0 G H σ De S p =>
  wSs.of pss_nil (h H0 G0 G H σ De S p)
theorem jk_set {i : Nat} {x : Str} {k : D → R (Out α)} (he : JE X E e ρ m) (hk : ∀ d, JK X E rest tR (ρ.set i (.dat d)) fin (k d)) (hN : X.N.Nodup) (hi : X.N[i]? = some x := by rfl) (hx : Loc X.env.scope x := by first | exact Or.inl rfl | exact Or.inr rfl)
    (hs : swapsWith e (some (.Name x pos')) pos.line X.env = pure false := by rfl) (hf : X.fn x = true ∨ X.env.scope.names.lookup x = some .local := by first | exact .inl rfl | exact .inr rfl | assumption) :
    JK X E (.Assign [.Name x pos'] e pos :: rest) tR ρ fin (m.bind k) := jk_cons fun H0 G0 G H σ De S p => by
  refine wS.of (ps_set hN hi hx (wE.pe e) hs hf) (he.useS S p fun d v G1 H1 s1 s2 s3 S1 r p1 => ?_)
  exact hk d H0 G0 G1 H1 _ De (S1.set r) p1
theorem Stt.setNew {K : PySem.W.Frag} {H0 G0 G H G' H' : Hp} {σ : L2.St} {i : Nat} {p : Addr} {o : Ob} (S : Stt E.T K H0 G0 G H σ ρ) (g : Grow E.T H H') (S' : Stt E.T K H0 G0 G' H' σ ρ) (np : H p = none) (gp : G' p = none) (hw : ObW K G' H' p o) : Stt E.T K H0 G0 G' H' (σ.set i (some (.ref p))) (ρ.set i (.own o)) := by
  refine S'.setOwn hw gp (S.sub0.free np) fun j s w hj ej ev f => ?_
  have O := S.ok ej ev
  obtain ⟨⟨u, hu, _⟩, _⟩ := O.foot (O.foot_back (fun b o _ q n => g.keep b o q n) f)
  rw [np] at hu; cases hu
theorem jk_setN {i : Nat} {x : Str} {me : R Ob} {k : Ob → R (Out α)} (he : JN X E e ρ me) (hk : ∀ d, JK X E rest tR (ρ.set i (.own d)) fin (k d)) (hN : X.N.Nodup) (hi : X.N[i]? = some x := by rfl) (hx : Loc X.env.scope x := by first | exact Or.inl rfl | exact Or.inr rfl)
    (hs : swapsWith e (some (.Name x pos')) pos.line X.env = pure false := by rfl) (hf : X.fn x = true ∨ X.env.scope.names.lookup x = some .local := by first | exact .inl rfl | exact .inr rfl | assumption) :
    JK X E (.Assign [.Name x pos'] e pos :: rest) tR ρ fin (me.bind k) := jk_cons fun H0 G0 G H σ De S p => by
  refine wS.of (ps_set hN hi hx (wE.pe e) hs hf) (he.useS S p fun o q G1 H1 s1 s2 s3 S1 np gp hw p1 => ?_)
  exact hk o H0 G0 G1 H1 _ De (S.setNew s1 S1 np gp hw) p1
theorem jk_ret (he : JE X E e ρ m) : JK X E (.Return (some e) pos :: rest) tR ρ fin (m.bind fun d => .ok (.rt d)) := jk_cons fun H0 G0 G H σ De S p => by
  refine wS.of (ps_ret (wE.pe e)) (he.useS S p fun d v G1 H1 s1 s2 s3 S1 r p1 => ?_)
  exact p1 v G1 H1 S1.sub0 S1.ext s3 r
theorem jk_retN : JK X E (.Return none pos :: rest) tR ρ fin (.ok (.rt .none)) := jk_cons fun H0 G0 G H σ De S p =>
  wS.of ps_retN (p .non G H S.sub0 S.ext S.sub .non)
/-- return of a list of one's own -/
theorem jk_retOwn {i : Nat} {x : Str} {ds : List D} (hi : ρ[i]? = some (.own (.lst ds))) (hN : X.N[i]? = some x := by rfl) (hv : Vis X.env.scope x := by first | exact Or.inl rfl | exact Or.inr (Or.inl rfl) | exact Or.inr (Or.inr rfl)) (hd : (x == ("__debug__" : Str)) = false := by decide)
    (hcd : (x == ("__classdict__" : Str)) = false := by decide) : JK X E (.Return (some (.Name x pos')) pos :: rest) tR ρ fin (.ok (.rt (.list ds))) := jk_cons fun H0 G0 G H σ De S p => by
  obtain ⟨v, e1, q, rfl, ⟨xs, hx, hds⟩, gq, zq⟩ := S.slots i _ hi
  refine wS.of (ps_ret (pe_var hN hv hd hcd)) ⟨_, e1, ?_⟩
  refine p (.ref q) (upd G q (.lst xs)) H S.sub0 ⟨fun b o z => ?_, fun b o z => ?_, fun b ps z => S.ext.tab b ps (upd_tab rfl b ps z)⟩ (fun b o z => ?_) (.lst upd_same (dpAll_mono (same_new gq) hds))
  · have g := S.ext.same b o z
    rw [upd_ne (ne_of_none g gq)]; exact g
  · by_cases hb : b = q
    · subst hb; exact .inr zq
    · rw [upd_ne hb] at z; exact S.ext.new b o z
  · by_cases hb : b = q
    · subst hb; rw [upd_same] at z; cases z; exact hx
    · rw [upd_ne hb] at z; exact S.sub b o z
theorem jk_expr {k : R (Out α)} (he : JE X E e ρ m) (hk : JK X E rest tR ρ fin k) (hs : swapsWith e none pos.line X.env = pure false := by rfl) : JK X E (.Expr e pos :: rest) tR ρ fin (m.bind fun _ => k) := jk_cons fun H0 G0 G H σ De S p => by
  refine wS.of (ps_expr (wE.pe e) hs) (he.useS S p fun d v G1 H1 s1 s2 s3 S1 r p1 => ?_)
  exact hk H0 G0 G1 H1 σ De S1 p1
theorem jk_if {A B : List Stmt} {ka kb : R (Out α)} (hc : JT X E c ρ mt) (ha : JK X E A (tSeq (wSs X rest) tR) ρ fin ka) (hb : JK X E B (tSeq (wSs X rest) tR) ρ fin kb) : JK X E (.If c A B pos :: rest) tR ρ fin (mt.bind fun t => if t then ka else kb) := jk_cons fun H0 G0 G H σ De S p => by
  refine wS.of (ps_if (wT.pt c) (wSs.pss A) (wSs.pss B)) (hc.useS S p fun t t' G1 H1 s1 s2 s3 S1 r p1 => ?_)
  cases r
  cases t with
  | true => rw [if_pos rfl] at p1 ⊢; exact ha H0 G0 G1 H1 σ De S1 p1
  | false => rw [if_neg Bool.false_ne_true] at p1 ⊢; exact hb H0 G0 G1 H1 σ De S1 p1
theorem jk_break {x : α} (h : Less (fin x) ρ) : JK X E (.Break pos :: rest) tR ρ fin (.ok (.bk x)) := jk_cons fun H0 G0 G H σ De S p =>
  wS.of ps_break (p G H σ (S.less h))
theorem jk_pass {k : R (Out α)} (hk : JK X E rest tR ρ fin k) : JK X E (.Pass pos :: rest) tR ρ fin k := jk_cons fun H0 G0 G H σ De S p =>
  wS.of ps_pass (hk H0 G0 G H σ De S p)

/-! ### raise -/
structure ExcF (K : PySem.W.Frag) (mg : Str → Option Value) (CA : XC → Addr) (c : XC) (x : Str) : Prop where
  g : mg x = some (.ref (CA c))
  x : PySem.W.excIn K (CA c) [.type "ValueError", .type "Exception", .type "BaseException", .type "object"] "ValueError.__new__" = true
  k : PySem.W.keepIn K (.ref (CA c)) = true
  b : PySem.W.subIn K (.ref (CA c)) (.type "BaseException") = some true
  t : PySem.W.typeIn K (.ref (CA c)) = some (.type "type")
theorem jk_raise {CA : XC → Addr} {c : XC} {x ms : Str} {j : Nat} {p p2 p3 : Pos} (F : ExcF X.K X.mg CA c x) (tk : Takes X (wOf CA E)) (hc : X.calm = true) (hg : Gl X x := by rfl) (hdb : (x == ("__debug__" : Str)) = false := by decide) :
    JK X E (.Raise (some (.Call (.Name x p) [.Constant (.str ms) j p2] [] p3)) none pos :: rest) tR ρ fin (.exc c) := jk_cons fun H0 G0 G H σ De S q =>
  wS.of (ps_raise hc tk (pmk_own PySem.F.excBase_ValueError F.x F.g F.k (raises_own F.b F.t) hg hdb)) ⟨rfl, c, rfl, q σ H S.sub0⟩

/-! ### lists and dicts of one's own, written -/
theorem jk_append {i : Nat} {x : Str} {ds : List D} {k : List D → R (Out α)} {p1 apos : Pos} (hi : ρ[i]? = some (.own (.lst ds))) (he : JE X E e ρ m) (hk : ∀ ds', JK X E rest tR (ρ.set i (.own (.lst ds'))) fin (k ds'))
    (hN : X.N[i]? = some x := by rfl) (hv : Vis X.env.scope x := by first | exact Or.inl rfl | exact Or.inr (Or.inl rfl) | exact Or.inr (Or.inr rfl)) (hd : (x == ("__debug__" : Str)) = false := by decide)
    (hcd : (x == ("__classdict__" : Str)) = false := by decide) (hs : swapsWith (.Call (.Attribute (.Name x p1) "append" apos) [e] [] pos') none pos.line X.env = pure false := by rfl)
    (hbase : attributeBase (.Name x p1) "append" X.env (eval (.Name x p1) X.env) = eval (.Name x p1) X.env := by rfl)
    (hfew : ((backTo pos' (starEach [e] X.env)).all (fun x => !x.1) && (backToKw pos' (keywordEach [] X.env)).all (fun x => x.1.isSome)
      && decide (([e] : List Expr).length + ([] : List Keyword).length + (if ([] : List Keyword).isEmpty then 0 else 1) < 30)) = true := by rfl)
    (hline : (apos.endLine == pos'.line) = true := by rfl) (hst : starEach [e] X.env = (false, eval e X.env) :: starEach [] X.env := by rfl) (hplain : (backTo pos' (starEach [] X.env)).any (·.1) = false := by rfl) :
    JK X E (.Expr (.Call (.Attribute (.Name x p1) "append" apos) [e] [] pos') pos :: rest) tR ρ fin (m.bind fun d => if lineOk (ds.length + 1) then k (ds ++ [d]) else .stuck) := jk_cons fun H0 G0 G H σ De S p => by
  refine wS.of (ps_expr (pe_bm PySem.F.plainAttrs_list PySem.F.slot_list_append PySem.F.type_list_append mt_append (pe_var hN hv hd hcd) (pa_cons (wE.pe e) pa_nil hst) hbase hfew hline hst hplain) hs) ?_
  obtain ⟨v, e1, q, rfl, ⟨xs, hx, hds⟩, gq, zq⟩ := S.slots i _ hi
  refine ⟨_, e1, .inl ⟨rfl, _, SqL.of hx⟩, he.useS S p fun d y G1 H1 s1 s2 s3 S1 r p1 => ?_⟩
  split at p1
  · rename_i hl
    have hl' := lineOk_iff.mp hl
    refine ⟨q, xs, y, rfl, rfl, s1 _ _ hx, by rw [hds.len]; omega, ?_⟩
    exact hk (ds ++ [d]) H0 G0 G1 _ σ De (S1.write hi e1 ⟨_, upd_same, (dpAll_mono s2.same hds).append (.one r)⟩) p1
  · exact p1.elim
end
end Br
namespace Br
open PySem PySem.Spec PyProof.Rows L2

/-! ### what is walked -/
/-- J walks ds, whatever else is written meanwhile -/
def ItOk (T : Tb) (K : PySem.W.Frag) (H0 G : Hp) (J : It) (ds : List D) : Prop := ∀ (i : Nat) (G2 H2 : Hp), Same G G2 → Same G2 H2 → Grow T H0 H2 →
  (i < ds.length → J.go i H2) ∧ (ds.length ≤ i → J.stop i H2) ∧ ∀ (x : V) (H3 : Hp), i < ds.length → J.yld i H2 x H3 → ∃ (d : D) (G3 : Hp), ds[i]? = some d ∧ Grow T H2 H3 ∧ Ext G2 H2 G3 ∧ Same G3 H3 ∧ Dq K G3 x d
def EvI (K : PySem.W.Frag) (E : XW) (t : TI) (ρ : Rho) (m : R (List D)) : Prop :=
  ∀ (H0 G0 G H : Hp) (σ : L2.St) (Q : It → Hp → Prop), Stt E.T K H0 G0 G H σ ρ →
    m.post (fun ds => ∀ (J : It) (G' H' : Hp), Grow E.T H H' → Ext G H G' → Same G' H' → ItOk E.T K H0 G' J ds → Q J H') (fun c => ∀ H', Grow E.T H H' → E c σ H') → t σ H Q
abbrev JI (X : Cx) (E : XW) (tg iter : Expr) (ρ : Rho) (m : R (List D)) : Prop := EvI X.K E (wI X tg iter) ρ m
section
variable {X : Cx} {E : XW} {ρ : Rho} {e a b c tg iter : Expr} {es : List Expr} {st : Stmt} {sts rest body : List Stmt} {tR : TS} {α β : Type} {fin : α → Rho} {m ma mb : R D} {mt : R Bool} {mi : R (List D)} {mo : R (Out α)} {pos pos' : Pos}
theorem EvI.wI_of {t : TI} (h : PI X tg iter t) {m : R (List D)} (q : EvI X.K E t ρ m) : JI X E tg iter ρ m := fun H0 G0 G H σ Q S p => wI.of h (q H0 G0 G H σ Q S p)
theorem PI.or {t u : TI} (h : PI X tg iter t) (h' : PI X tg iter u) : PI X tg iter (fun σ H Q => t σ H Q ∨ u σ H Q) := ⟨fun pins s σ H Q I q => by
  rcases q with q | q
  · exact h.run pins s σ H Q I q
  · exact h'.run pins s σ H Q I q⟩
def asSeq : D → R (List D)
  | .list ds => .ok ds
  | .tuple ds => .ok ds
  | _ => .stuck
theorem itl_ok {T : Tb} {K : PySem.W.Frag} {H0 G : Hp} {a : Addr} {xs : List V} {ds : List D} (h : ∀ H2, Same G H2 → Grow T H0 H2 → SqL K H2 a xs) (hd : DqAll K G xs ds) : ItOk T K H0 G (Itl K a) ds := fun i G2 H2 s1 s2 s0 => by
  have hq := h H2 (s1.trans s2) s0
  refine ⟨fun hi => ?_, fun hi => ⟨xs, hq, by rw [hd.len]; exact hi⟩, fun x H3 hi hy => ?_⟩
  · obtain ⟨v, hv, _⟩ := (dpAll_mono s1 hd).get (i := i) (List.getElem?_eq_getElem hi)
    exact ⟨xs, v, hq, hv⟩
  · obtain ⟨rfl, hx⟩ := hy
    obtain ⟨d, h1, h2⟩ := (dpAll_mono s1 hd).getV (hx xs hq)
    exact ⟨d, G2, h1, Grow.refl _ _, Ext.refl _ _, s2, h2⟩
theorem itt_ok {T : Tb} {K : PySem.W.Frag} {H0 G : Hp} {a : Addr} {xs : List V} {ds : List D} (h : ∀ H2, Same G H2 → Grow T H0 H2 → SqT K H2 a xs) (hd : DqAll K G xs ds) : ItOk T K H0 G (Itt K a) ds := fun i G2 H2 s1 s2 s0 => by
  have hq := h H2 (s1.trans s2) s0
  refine ⟨fun hi => ?_, fun hi => ⟨xs, hq, by rw [hd.len]; exact hi⟩, fun x H3 hi hy => ?_⟩
  · obtain ⟨v, hv, _⟩ := (dpAll_mono s1 hd).get (i := i) (List.getElem?_eq_getElem hi)
    exact ⟨xs, v, hq, hv⟩
  · obtain ⟨rfl, hx⟩ := hy
    obtain ⟨d, h1, h2⟩ := (dpAll_mono s1 hd).getV (hx xs hq)
    exact ⟨d, G2, h1, Grow.refl _ _, Ext.refl _ _, s2, h2⟩
/-- a list or a tuple of data -/
theorem ji_seq (h : JE X E iter ρ m) : JI X E tg iter ρ (m.bind asSeq) := EvI.wI_of (PI.or (pi_list (wE.pe iter)) (pi_tup (wE.pe iter))) fun H0 G0 G H σ Q S p => by
  cases e : m with
  | stuck => rw [e] at p; exact p.elim
  | exc c =>
    rw [e] at p
    exact .inl (h H0 G0 G H σ _ S (by rw [e]; exact p))
  | ok d =>
    rw [e] at p
    cases d <;> try exact p.elim
    case list ds =>
      refine .inl (h H0 G0 G H σ _ S ?_)
      rw [e]
      intro v G1 H1 s1 s2 s3 r
      obtain ⟨a', xs, rfl, hx, hd⟩ := Dq.lst_inv r
      exact ⟨a', rfl, ⟨xs, SqL.of (s3 _ _ hx)⟩, p _ G1 H1 s1 s2 s3 (itl_ok (fun H2 z _ => SqL.of (z _ _ hx)) hd)⟩
    case tuple ds =>
      refine .inr (h H0 G0 G H σ _ S ?_)
      rw [e]
      intro v G1 H1 s1 s2 s3 r
      obtain ⟨a', xs, rfl, hx, hd⟩ := Dq.tup_inv r
      exact ⟨a', rfl, ⟨xs, Same.tup s3 hx⟩, p _ G1 H1 s1 s2 s3 (itt_ok (fun H2 z _ => Same.tup z hx) hd)⟩
/-- a list that was handed in -/
theorem ji_bor {i : Nat} {x : Str} {ds : List D} (hi : ρ[i]? = some (.bor (.lst ds))) (hN : X.N[i]? = some x := by rfl) (hv : Vis X.env.scope x := by first | exact Or.inl rfl | exact Or.inr (Or.inl rfl) | exact Or.inr (Or.inr rfl)) (hd : (x == ("__debug__" : Str)) = false := by decide)
    (hcd : (x == ("__classdict__" : Str)) = false := by decide) : JI X E tg (.Name x pos) ρ (.ok ds) := EvI.wI_of (pi_list (pe_var hN hv hd hcd)) fun H0 G0 G H σ Q S p => by
  obtain ⟨v, e1, q, rfl, xs, hx, hds⟩ := S.slots i _ hi
  exact ⟨_, e1, q, rfl, ⟨xs, S.sub0.seq hx⟩, p _ G H (Grow.refl _ _) (Ext.refl _ _) S.sub (itl_ok (fun H2 _ z => z.seq hx) hds)⟩
/-- ranges -/
def rngD (lo : Int) (n : Nat) : List D := (List.range n).map fun (i : Nat) => .int (lo + i)
theorem itr_ok {T : Tb} {K : PySem.W.Frag} {H0 G : Hp} {lo : Int} {n : Nat} : ItOk T K H0 G (Itr lo n) (rngD lo n) := fun i G2 H2 s1 s2 s0 => by
  have hl : (rngD lo n).length = n := by simp [rngD]
  rw [hl]
  refine ⟨fun hi => hi, fun hi => hi, fun x H3 hi hy => ?_⟩
  obtain ⟨rfl, rfl⟩ := hy
  exact ⟨.int (lo + i), G2, by simp [rngD, hi], Grow.refl _ _, Ext.refl _ _, s2, .int _⟩
def rngOk (i : Int) : Bool := decide (-4611686018427387904 ≤ i) && decide (i < 4611686018427387904)
theorem rngOk_iff {i : Int} : rngOk i = true ↔ -(2 ^ 62) ≤ i ∧ i < 2 ^ 62 := by
  simp only [rngOk, Bool.and_eq_true, decide_eq_true_eq]
  exact Iff.rfl
def rng1 : List D → R (List D)
  | [.int j] => if rngOk j then .ok (rngD 0 j.toNat) else .stuck
  | _ => .stuck
def rng2 : List D → R (List D)
  | [.int i, .int j] => if rngOk i && rngOk j then .ok (rngD i (j - i).toNat) else .stuck
  | _ => .stuck
theorem ji_range1 {ms : R (List D)} {p : Pos} (hm : X.mg "range" = none) (h : JL X E [a] ρ ms) (hg : Gl X "range" := by rfl) (hs : noStar a = true := by rfl) : JI X E tg (.Call (.Name "range" p) [a] [] pos) ρ (ms.bind rng1) :=
  EvI.wI_of (pi_range1 hg hm (wA.pa _) (star_cons hs)) fun H0 G0 G H σ Q S p => by
    refine h.use S p fun ds vs G1 H1 s1 s2 s3 S1 r p1 => ?_
    obtain ⟨r, hl⟩ := r
    rcases ds with _ | ⟨d1, _ | ⟨d2, rr⟩⟩ <;> try exact p1.elim
    case cons.cons => cases d1 <;> exact p1.elim
    cases d1 <;> try exact p1.elim
    rename_i j
    cases r with
    | cons r1 r2 =>
      cases r2
      cases int_inv r1
      simp only [rng1] at p1
      split at p1
      · rename_i hj
        have hj' := rngOk_iff.mp hj
        exact ⟨j, rfl, hj'.1, hj'.2, p1 _ G1 H1 s1 s2 s3 itr_ok⟩
      · exact p1.elim
theorem ji_range2 {ms : R (List D)} {p : Pos} (hm : X.mg "range" = none) (h : JL X E [a, b] ρ ms) (hg : Gl X "range" := by rfl) (hs : noStar a = true := by rfl) (hs2 : noStar b = true := by rfl) : JI X E tg (.Call (.Name "range" p) [a, b] [] pos) ρ (ms.bind rng2) :=
  EvI.wI_of (pi_range2 hg hm (wA.pa _) ((star_cons hs).trans (congrArg _ (star_cons hs2))) (star_cons hs2)) fun H0 G0 G H σ Q S p => by
    refine h.use S p fun ds vs G1 H1 s1 s2 s3 S1 r p1 => ?_
    obtain ⟨r, hl⟩ := r
    rcases ds with _ | ⟨d1, _ | ⟨d2, _ | ⟨d3, rr⟩⟩⟩ <;> try exact p1.elim
    · cases d1 <;> exact p1.elim
    · cases d1 <;> try exact p1.elim
      cases d2 <;> try exact p1.elim
      rename_i i j
      cases r with
      | cons r1 r2 =>
        cases r2 with
        | cons r2 r3 =>
          cases r3
          cases int_inv r1
          cases int_inv r2
          simp only [rng2] at p1
          split at p1
          · rename_i hj
            rw [Bool.and_eq_true] at hj
            have h1 := rngOk_iff.mp hj.1
            have h2 := rngOk_iff.mp hj.2
            exact ⟨i, j, rfl, ⟨h1.1, h1.2, h2.1, h2.2⟩, p1 _ G1 H1 s1 s2 s3 itr_ok⟩
          · exact p1.elim
    · cases d1 <;> try exact p1.elim
      cases d2 <;> exact p1.elim

/-! ### targets -/
/-- how a target takes data: slots set -/
def TgOk (K : PySem.W.Frag) (g : TG) (tgm : D → R (List (Nat × D))) : Prop := ∀ {T : Tb} (H0 G0 G H : Hp) (σ : L2.St) (ρ : Rho) (v : V) (d : D) (ps : List (Nat × D)) (Q : L2.St → Hp → Prop), tgm d = .ok ps → Stt T K H0 G0 G H σ ρ → Dq K G v d →
  (∀ σ', Stt T K H0 G0 G H σ' (ps.foldl (fun r p => r.set p.1 (.dat p.2)) ρ) → (∀ vs, (∀ p ∈ ps, p.1 ∈ vs) → wipe σ' vs = wipe σ vs) → Q σ' H) → g v σ H Q
def PG1 (X : Cx) (tg : Expr) (tgm : D → R (List (Nat × D))) : Prop := ∃ g, PG X tg g ∧ TgOk X.K g tgm

/-! ### for -/
def forM {α : Type} (f : α → D → R (Out α)) : List D → α → R (Out α)
  | [], a => .ok (.nx a)
  | d :: ds, a => (f a d).bind fun o => match o with
    | .nx a' => forM f ds a'
    | .bk a' => .ok (.nx a')
    | .rt v => .ok (.rt v)
/-- a target that is a name -/
theorem jk_for1 {γ : Type} {i : Nat} {x : Str} {fl : γ → Rho} {a0 : γ} {f : γ → D → R (Out γ)} {k : γ → R (Out α)} (hi : JI X E (.Name x pos') iter ρ mi) (h0 : Less (fl a0) ρ)
    (hb : ∀ a d, JK X E body tNext ((fl a).set i (.dat d)) fl (f a d)) (hk : ∀ a, JK X E rest tR (fl a) fin (k a)) (hN : X.N.Nodup) (hc : X.calm = true) (hp : PassesOwn (model X.prog X.w) X.A X.env X.xe) (hx : X.N[i]? = some x := by rfl) (hl : Loc X.env.scope x := by first | exact Or.inl rfl | exact Or.inr rfl)
    (hf : X.fn x = true ∨ X.env.scope.names.lookup x = some .local := by first | exact .inl rfl | exact .inr rfl | assumption) (hs : ∀ x, foldedSetIterable iter X.env x = pure x := by intro _; rfl) :
    JK X E (.For (.Name x pos') iter body [] pos :: rest) tR ρ fin (mi.bind fun ds => (forM f ds a0).bind (Out.cont k)) := jk_cons fun H0 G0 G H σ De S p => by
  refine wS.of (ps_for hp hc (wI.pi _ iter) (pg_name hN hx hl hf) (wSs.pss body) hs) ?_
  refine hi H0 G0 G H σ _ S (R.post_mono (R.post_bind p) (fun ds _ p1 J G1 H1 s1 s2 s3 hJ => ?_) fun c _ z H' s => z σ H' (S.sub0.trans s))
  have S0 := S.grow s1 s2 s3
  have x1 : Ext G0 H0 G1 := S0.ext
  have S1 := (S0.less h0).self
  refine ⟨fun j n σ' H' => ∃ (a : γ) (G' : Hp), j + n = ds.length ∧ Stt E.T X.K H0 G1 G' H' σ' (fl a) ∧ ((forM f (ds.drop j) a).bind (Out.cont k)).post (PoS E.T X.K H0 G0 fin De) (PoX H0 E), ⟨ds.length, a0, G1, by omega, S1, p1⟩, fun j n σ' H' hW => ?_⟩
  obtain ⟨a, G', hn, S', pa⟩ := hW
  obtain ⟨hgo, hst, hy⟩ := hJ j G' H' S'.ext.same S'.sub S'.sub0
  by_cases hj : j < ds.length
  · refine .inr ⟨hgo hj, fun σ2 H2 => ∃ (a : γ) (G' : Hp), Stt E.T X.K H0 G1 G' H2 σ2 (fl a) ∧ ((forM f (ds.drop (j + 1)) a).bind (Out.cont k)).post (PoS E.T X.K H0 G0 fin De) (PoX H0 E), fun σ2 H2 hN => ?_, fun v H2 hv => ?_⟩
    · obtain ⟨a2, G2, z1, z2⟩ := hN
      exact ⟨n - 1, by omega, a2, G2, by omega, z1, z2⟩
    · obtain ⟨d, G2, hd, t1, t2, t3, hq⟩ := hy v H2 hj hv
      have S2 := S'.grow t1 t2 t3
      have ed : ds.drop j = d :: ds.drop (j + 1) := by
        rw [List.drop_eq_getElem_cons hj]
        rw [List.getElem?_eq_getElem hj] at hd
        cases hd
        rfl
      rw [ed] at pa
      refine hb a d H0 G1 G2 H2 _ { nx := fun σ2 H2 => ∃ (a : γ) (G' : Hp), Stt E.T X.K H0 G1 G' H2 σ2 (fl a) ∧ ((forM f (ds.drop (j + 1)) a).bind (Out.cont k)).post (PoS E.T X.K H0 G0 fin De) (PoX H0 E), rt := De.rt, bk := tSeq (wSs X rest) tR De, ct := fun σ2 H2 => ∃ (a : γ) (G' : Hp), Stt E.T X.K H0 G1 G' H2 σ2 (fl a) ∧ ((forM f (ds.drop (j + 1)) a).bind (Out.cont k)).post (PoS E.T X.K H0 G0 fin De) (PoX H0 E) } (S2.set hq) (R.post_mono (R.post_bind (R.post_bind pa)) (fun o _ po => ?_) fun _ _ z => z)
      cases o with
      | nx a' => exact fun G3 H3 σ3 S3 => ⟨a', G3, S3, R.bind_post po⟩
      | bk a' => exact fun G3 H3 σ3 S3 => hk a' H0 G0 G3 H3 σ3 De (S3.down x1) po
      | rt v => exact PoS.down (fin := fin) (De := De) (o := .rt v) po x1
  · refine .inl ⟨hst (by omega), ?_⟩
    rw [List.drop_eq_nil_of_le (by omega)] at pa
    exact hk a H0 G0 G' H' σ' De (S'.down x1) pa

/-! ### while -/
def whileM {α : Type} (c : α → R Bool) (f : α → R (Out α)) : Nat → α → R (Out α)
  | 0, _ => .stuck
  | n + 1, a => (c a).bind fun t => if t then (f a).bind fun o => (match o with
    | .nx a' => whileM c f n a'
    | .bk a' => .ok (.nx a')
    | .rt v => .ok (.rt v)) else .ok (.nx a)
theorem jk_while {γ : Type} {fuel : Nat} {fl : γ → Rho} {a0 : γ} {mc : γ → R Bool} {f : γ → R (Out γ)} {k : γ → R (Out α)} (h0 : Less (fl a0) ρ) (hc : ∀ a, JT X E c (fl a) (mc a))
    (hb : ∀ a, JK X E body tNext (fl a) fl (f a)) (hk : ∀ a, JK X E rest tR (fl a) fin (k a)) (hp : PassesOwn (model X.prog X.w) X.A X.env X.xe) :
    JK X E (.While c body [] pos :: rest) tR ρ fin ((whileM mc f fuel a0).bind (Out.cont k)) := jk_cons fun H0 G0 G H σ De S p => by
  refine wS.of (ps_while hp (wT.pt c) (wSs.pss body)) ?_
  refine ⟨fun n σ' H' => ∃ (a : γ) (G' : Hp), Stt E.T X.K H0 G0 G' H' σ' (fl a) ∧ ((whileM mc f n a).bind (Out.cont k)).post (PoS E.T X.K H0 G0 fin De) (PoX H0 E), ⟨fuel, a0, G, S.less h0, p⟩, fun n σ' H' hW => ?_⟩
  obtain ⟨a, G', S', pa⟩ := hW
  cases n with
  | zero => exact pa.elim
  | succ n =>
    refine (hc a).useS S' (f := fun t => (if t = true then (f a).bind fun o => (match o with
      | .nx a' => whileM mc f n a'
      | .bk a' => .ok (.nx a')
      | .rt v => .ok (.rt v)) else .ok (.nx a)).bind (Out.cont k)) (q := PoS E.T X.K H0 G0 fin De) (by rw [← R.bind_assoc]; exact pa) fun t t' G1 H1 s1 s2 s3 S1 r p1 => ?_
    cases r
    cases t with
    | false =>
      rw [if_neg Bool.false_ne_true] at p1 ⊢
      exact hk a H0 G0 G1 H1 σ' De S1 p1
    | true =>
      rw [if_pos rfl] at p1 ⊢
      refine ⟨fun σ2 H2 => ∃ (a : γ) (G' : Hp), Stt E.T X.K H0 G0 G' H2 σ2 (fl a) ∧ ((whileM mc f n a).bind (Out.cont k)).post (PoS E.T X.K H0 G0 fin De) (PoX H0 E), fun σ2 H2 hN => ?_, ?_⟩
      · obtain ⟨a2, G2, z1, z2⟩ := hN
        exact ⟨n, by omega, a2, G2, z1, z2⟩
      · refine hb a H0 G0 G1 H1 σ' { nx := fun σ2 H2 => ∃ (a : γ) (G' : Hp), Stt E.T X.K H0 G0 G' H2 σ2 (fl a) ∧ ((whileM mc f n a).bind (Out.cont k)).post (PoS E.T X.K H0 G0 fin De) (PoX H0 E), rt := De.rt, bk := tSeq (wSs X rest) tR De, ct := fun σ2 H2 => ∃ (a : γ) (G' : Hp), Stt E.T X.K H0 G0 G' H2 σ2 (fl a) ∧ ((whileM mc f n a).bind (Out.cont k)).post (PoS E.T X.K H0 G0 fin De) (PoX H0 E) } S1 (R.post_mono (R.post_bind (R.post_bind p1)) (fun o _ po => ?_) fun _ _ z => z)
        cases o with
        | nx a' => exact fun G3 H3 σ3 S3 => ⟨a', G3, S3, R.bind_post po⟩
        | bk a' => exact fun G3 H3 σ3 S3 => hk a' H0 G0 G3 H3 σ3 De S3 po
        | rt v => exact po

/-! ### [elt for x in iter if test] -/
def noexc {α : Type} : R α → R α
  | .ok a => .ok a
  | _ => .stuck
def compM (t : D → R Bool) (f : D → R D) : List D → R (List D)
  | [] => .ok []
  | d :: ds => (noexc (t d)).bind fun b => if b then (noexc (f d)).bind fun y => (compM t f ds).bind fun ys => .ok (y :: ys) else compM t f ds
def compL (t : D → R Bool) (f : D → R D) (ds : List D) : R Ob := if lineOk ds.length then (compM t f ds).bind fun ys => .ok (.lst ys) else .stuck
abbrev E00 (T : Tb) : XW := ⟨T, fun _ _ _ => False⟩
theorem noexc_post {α : Type} {m : R α} {q : α → Prop} {x y : XC → Prop} (h : (noexc m).post q x) : m.post q y := by
  cases m with
  | ok a => exact h
  | exc c => exact h.elim
  | stuck => exact h.elim
/-- the tests of a comprehension -/
abbrev wTs (X : Cx) (ifs : List Expr) : TT := fun σ H Q => ∀ (pins : List (Addr × Obj)) (s : Shared), Inv X pins σ H s →
    wpAny (model X.prog X.w) X.A (forIn ifs true fun c r => if r = true then do let ok ← isTrue c X.env (eval c X.env); pure (ForInStep.yield ok) else pure (ForInStep.yield r)) (TP X pins σ Q) X.xe s
theorem wTs.pts (ifs : List Expr) : PTs X ifs (wTs X ifs) := ⟨fun pins s σ H Q I h => h pins s I⟩
end
end Br
namespace Br
open PySem PySem.Spec PyProof.Rows L2

theorem Stt.wipe1 {T : Tb} {K : PySem.W.Frag} {H0 G0 G H : Hp} {σ : L2.St} {ρ : Rho} {i : Nat} {v : V} {d : D} (S : Stt T K H0 G0 G H σ ρ) (h : Dq K G v d) : Stt T K H0 G0 G H ((wipe σ [i]).set i (some v)) (ρ.set i (.dat d)) := by
  have e : (wipe σ [i]).set i (some v) = σ.set i (some v) := by
    show (σ.set i none).set i (some v) = σ.set i (some v)
    rw [List.set_set]
  rw [e]
  exact S.set h
theorem wipe1 (σ : L2.St) (i : Nat) (v : V) : wipe ((wipe σ [i]).set i (some v)) [i] = wipe σ [i] := by
  show ((σ.set i none).set i (some v)).set i none = σ.set i none
  rw [List.set_set, List.set_set]
theorem Stt.wipe2 {T : Tb} {K : PySem.W.Frag} {H0 G0 G H : Hp} {σ : L2.St} {ρ : Rho} {i j : Nat} {v w : V} {d e : D} (hij : i ≠ j) (S : Stt T K H0 G0 G H σ ρ) (h : Dq K G v d) (h' : Dq K G w e) : Stt T K H0 G0 G H (((wipe σ [i, j]).set i (some v)).set j (some w)) ((ρ.set i (.dat d)).set j (.dat e)) := by
  have e : ((wipe σ [i, j]).set i (some v)).set j (some w) = (σ.set i (some v)).set j (some w) := by
    show ((((σ.set j none).set i none).set i (some v)).set j (some w)) = _
    rw [List.set_set, List.set_comm _ _ (Ne.symm hij), List.set_set]
  rw [e]
  exact (S.set h).set h'
theorem wipe2 (σ : L2.St) (i j : Nat) (v w : V) (hij : i ≠ j) : wipe (((wipe σ [i, j]).set i (some v)).set j (some w)) [i, j] = wipe σ [i, j] := by
  show (((((σ.set j none).set i none).set i (some v)).set j (some w)).set j none).set i none = (σ.set j none).set i none
  simp only [List.set_set]
  rw [List.set_comm _ _ hij]
  simp only [List.set_set]

/-- how a comprehension's target takes an item -/
structure CTg (K : PySem.W.Frag) (g : TG) (vs : List Nat) (γ : Type) (open_ : D → R γ) (env : Rho → γ → Rho) : Prop where
  go : ∀ {T : Tb} (H0 G0 G H : Hp) (σ : L2.St) (ρ : Rho) (v : V) (d : D) (x : γ) (Q : L2.St → Hp → Prop), open_ d = .ok x → Stt T K H0 G0 G H σ ρ → Dq K G v d →
    (∀ σ', Stt T K H0 G0 G H σ' (env ρ x) → wipe σ' vs = wipe σ vs → Q σ' H) → g v (wipe σ vs) H Q
theorem ctg1 {K : PySem.W.Frag} (i : Nat) : CTg K (gName i) [i] D .ok (fun ρ d => ρ.set i (.dat d)) := ⟨fun H0 G0 G H σ ρ v d x Q e S h q => by
  cases e
  exact q _ (S.wipe1 h) (wipe1 σ i v)⟩
def open2 : D → R (D × D)
  | .tuple [a, b] => .ok (a, b)
  | _ => .stuck
theorem ctg2 {K : PySem.W.Frag} {i j : Nat} (hij : i ≠ j) : CTg K (gTup K 2 (gCons (gName i) (gCons (gName j) gNil))) [i, j] (D × D) open2 (fun ρ d => (ρ.set i (.dat d.1)).set j (.dat d.2)) := ⟨fun H0 G0 G H σ ρ v d x Q e S h q => by
  cases d <;> try cases e
  rename_i ds
  rcases ds with _ | ⟨d1, _ | ⟨d2, _ | ⟨d3, r⟩⟩⟩ <;> try cases e
  obtain ⟨a, xs, rfl, hx, hd⟩ := Dq.tup_inv h
  cases hd with
  | cons h1 hd =>
    cases hd with
    | cons h2 hd =>
      cases hd
      exact ⟨a, _, rfl, Same.tup S.sub hx, rfl, _, _, rfl, _, _, rfl, rfl, q _ (S.wipe2 hij h1 h2) (wipe2 σ i j _ _ hij)⟩⟩

def compG {γ : Type} (op : D → R γ) (t : γ → R Bool) (f : γ → R D) : List D → R (List D)
  | [] => .ok []
  | d :: ds => (noexc (op d)).bind fun x => (noexc (t x)).bind fun b => if b then (noexc (f x)).bind fun y => (compG op t f ds).bind fun ys => .ok (y :: ys) else compG op t f ds
def compO {γ : Type} (op : D → R γ) (t : γ → R Bool) (f : γ → R D) (ds : List D) : R Ob := if lineOk ds.length then (compG op t f ds).bind fun ys => .ok (.lst ys) else .stuck
theorem noexc_ok {α : Type} {m : R α} {q : α → Prop} {x : XC → Prop} (h : (noexc m).post q x) : ∃ a, m = .ok a ∧ q a := by
  cases m with
  | ok a => exact ⟨a, rfl, h⟩
  | exc c => exact h.elim
  | stuck => exact h.elim
section
variable {X : Cx} {E : XW} {ρ : Rho} {α : Type} {mi : R (List D)}
theorem evLc {γ : Type} {wi : TI} {g : TG} {tt : TT} {te : TE} {vs : List Nat} {op : D → R γ} {env : Rho → γ → Rho} {t : γ → R Bool} {f : γ → R D} (hi : EvI X.K E wi ρ mi) (hg : CTg X.K g vs γ op env)
    (ht : ∀ x, Ev X.K (E00 E.T) tt (env ρ x) (t x) repT) (he : ∀ x, Ev X.K (E00 E.T) te (env ρ x) (f x) (repE X.K)) : EvN X.K E (tLc wi g tt te vs) ρ (mi.bind (compO op t f)) := fun H0 G0 G H σ Q S p => by
  refine hi H0 G0 G H σ _ S (R.post_mono (R.post_bind p) (fun ds _ p1 J G1 H1 s1 s2 s3 hJ => ?_) fun c _ z => z)
  intro Da hDa
  unfold compO at p1
  split at p1
  case isFalse => exact p1.elim
  case isTrue hline =>
  have hl := lineOk_iff.mp hline
  have p2 := R.post_bind p1
  refine ⟨fun j n H' => ∃ (G' : Hp) (acc : List V) (ys : List D), j + n = ds.length ∧ Grow E.T H1 H' ∧ Ext G1 H1 G' ∧ Same G' H' ∧ G' Da = none ∧ H' Da = some (.lst acc) ∧ DqAll X.K G' acc ys ∧ ys.length ≤ j ∧
    (compG op t f (ds.drop j)).post (fun zs => ∀ (p : Addr) (G' H' : Hp), Grow E.T H H' → Ext G H G' → Same G' H' → H p = none → G' p = none → ObW X.K G' H' p (.lst (ys ++ zs)) → Q (.ref p) H') (fun _ => True),
    ⟨ds.length, G1, [], [], by omega, grow_new hDa, Ext.refl _ _, s3.trans (same_new hDa), s3.free hDa, upd_same, .nil, by simp, R.post_mono p2 (fun _ _ z => z) fun _ _ _ => trivial⟩, fun j n H' hW => ?_⟩
  obtain ⟨G', acc, ys, hn, sh, xg, sg, gD, hD, hds, hys, pc⟩ := hW
  have S' : Stt E.T X.K H0 G0 G' H' σ ρ := S.grow (s1.trans sh) (s2.trans s1 xg) sg
  obtain ⟨hgo, hst, hy⟩ := hJ j G' H' xg.same sg S'.sub0
  by_cases hj : j < ds.length
  · refine .inr ⟨hgo hj, fun H'' => ∃ (G' : Hp) (acc : List V) (ys : List D), Grow E.T H1 H'' ∧ Ext G1 H1 G' ∧ Same G' H'' ∧ G' Da = none ∧ H'' Da = some (.lst acc) ∧ DqAll X.K G' acc ys ∧ ys.length ≤ j + 1 ∧
      (compG op t f (ds.drop (j + 1))).post (fun zs => ∀ (p : Addr) (G' H' : Hp), Grow E.T H H' → Ext G H G' → Same G' H' → H p = none → G' p = none → ObW X.K G' H' p (.lst (ys ++ zs)) → Q (.ref p) H') (fun _ => True), fun H'' hN => ?_, fun v H2 hv => ?_⟩
    · obtain ⟨G'', acc', ys', z1, z2, z3, z4, z5, z6, z7, z8⟩ := hN
      exact ⟨n - 1, by omega, G'', acc', ys', by omega, z1, z2, z3, z4, z5, z6, z7, z8⟩
    · obtain ⟨d, G2, hd, t1, t2, t3, hq⟩ := hy v H2 hj hv
      have S2 := S'.grow t1 t2 t3
      have ed : ds.drop j = d :: ds.drop (j + 1) := by
        rw [List.drop_eq_getElem_cons hj]
        rw [List.getElem?_eq_getElem hj] at hd
        cases hd
        rfl
      rw [ed] at pc
      unfold compG at pc
      obtain ⟨x, ex, pc1⟩ := noexc_ok (R.post_bind pc)
      obtain ⟨b, eb, pc2⟩ := noexc_ok (R.post_bind pc1)
      refine hg.go H0 G0 G2 H2 σ ρ v d x _ ex S2 hq fun σ' S3 hw => ⟨hw, ?_⟩
      refine ht x H0 G0 G2 H2 σ' _ S3 ?_
      rw [eb]
      intro b' G3 H3 u1 u2 u3 hb'
      cases hb'
      have S4 := S3.grow u1 u2 u3
      have sh3 : Grow E.T H1 H3 := sh.trans (t1.trans u1)
      have xg3 : Ext G1 H1 G3 := xg.trans sh (t2.trans t1 u2)
      have gD2 : G2 Da = none := t2.free hD gD
      have gD3 : G3 Da = none := u2.free (t1 _ _ hD) gD2
      have hD3 : H3 Da = some (.lst acc) := u1 _ _ (t1 _ _ hD)
      cases b with
      | false =>
        rw [if_neg Bool.false_ne_true] at pc2 ⊢
        exact ⟨G3, acc, ys, sh3, xg3, u3, gD3, hD3, dpAll_mono u2.same (dpAll_mono t2.same hds), by omega, pc2⟩
      | true =>
        rw [if_pos rfl] at pc2 ⊢
        obtain ⟨y, ey, pc3⟩ := noexc_ok (R.post_bind pc2)
        refine he x H0 G0 G3 H3 σ' _ S4 ?_
        rw [ey]
        intro w G4 H4 w1 w2 w3 rw4
        have hD4 : H4 Da = some (.lst acc) := w1 _ _ hD3
        have gD4 : G4 Da = none := w2.free hD3 gD3
        refine ⟨acc, hD4, ?_, G4, acc ++ [w], ys ++ [y], (sh3.trans w1).write hDa ⟨_, hD4, rfl⟩, xg3.trans sh3 w2, fun b o z => ?_, gD4, upd_same, (dpAll_mono w2.same (dpAll_mono u2.same (dpAll_mono t2.same hds))).append (.one rw4), ?_, ?_⟩
        · rw [hds.len]; omega
        · rw [upd_ne (ne_of_none z gD4)]; exact w3 b o z
        · rw [List.length_append]; exact Nat.succ_le_succ hys
        · refine R.post_mono (R.post_bind pc3) (fun zs _ z => ?_) fun _ _ _ => trivial
          intro p Gp Hp' q1 q2 q3 q4 q5 q6
          rw [List.append_assoc] at q6
          exact z p Gp Hp' q1 q2 q3 q4 q5 q6
  · refine .inl ⟨hst (by omega), ?_⟩
    rw [List.drop_eq_nil_of_le (by omega)] at pc
    have pc' : ∀ (p : Addr) (G' H' : Hp), Grow E.T H H' → Ext G H G' → Same G' H' → H p = none → G' p = none → ObW X.K G' H' p (.lst (ys ++ [])) → Q (.ref p) H' := pc
    rw [List.append_nil] at pc'
    exact pc' Da G' H' (s1.trans sh) (s2.trans s1 xg) sg (s1.free hDa) gD ⟨acc, hD, hds⟩

/-! ### the comprehension's block -/
abbrev Bk (X : Cx) (s : Shared) (H : Hp) (scope : Scope) (C : Addr) (cl : List (Str × Addr)) (fp : List Addr) : Cx := X.blk s H scope (compEnvC scope cl C X.env) fp
def wEB (X : Cx) (scope : Scope) (e : Expr) : TE := fun σ H Q => ∀ (s : Shared) (H' : Hp) (C : Addr) (cl : List (Str × Addr)) (fp : List Addr), wE (Bk X s H' scope C cl fp) e σ H Q
def wTB (X : Cx) (scope : Scope) (e : Expr) : TT := fun σ H Q => ∀ (s : Shared) (H' : Hp) (C : Addr) (cl : List (Str × Addr)) (fp : List Addr), wT (Bk X s H' scope C cl fp) e σ H Q
theorem pts_ok {scope : Scope} {c : Expr} (s : Shared) (H : Hp) (C : Addr) (cl : List (Str × Addr)) (fp : List Addr) : PTs (Bk X s H scope C cl fp) [c] (wTB X scope c) := pts_one ⟨fun pins s' σ H' Q I h => (wT.pt c).run pins s' σ H' Q I (h s H C cl fp)⟩
theorem wEB.pe {scope : Scope} {e : Expr} (s : Shared) (H : Hp) (C : Addr) (cl : List (Str × Addr)) (fp : List Addr) : PE (Bk X s H scope C cl fp) e (wEB X scope e) := ⟨fun pins s' σ H' Q I h => (wE.pe e).run pins s' σ H' Q I (h s H C cl fp)⟩
theorem wEB.ev {scope : Scope} {e : Expr} {m : R D} {r : Rho} (h : ∀ (s : Shared) (H' : Hp) (C : Addr) (cl : List (Str × Addr)) (fp : List Addr), JE (Bk X s H' scope C cl fp) (E00 E.T) e r m) : Ev X.K (E00 E.T) (wEB X scope e) r m (repE X.K) := fun H0 G0 G H σ Q S p s H' C cl fp => h s H' C cl fp H0 G0 G H σ Q S p
theorem wTB.ev {scope : Scope} {e : Expr} {m : R Bool} {r : Rho} (h : ∀ (s : Shared) (H' : Hp) (C : Addr) (cl : List (Str × Addr)) (fp : List Addr), JT (Bk X s H' scope C cl fp) (E00 E.T) e r m) : Ev X.K (E00 E.T) (wTB X scope e) r m repT := fun H0 G0 G H σ Q S p s H' C cl fp => h s H' C cl fp H0 G0 G H σ Q S p
theorem tYes.ev {r : Rho} : Ev X.K (E00 E.T) tYes r (.ok true) repT := fun H0 G0 G H σ Q S p => p true G H (Grow.refl _ _) (Ext.refl _ _) S.sub rfl

variable {elt tg iter c : Expr} {scope : Scope} {pos spos py px pt : Pos} {y x x2 : Str}
/-- [elt for x in iter] -/
theorem jn_lc {i : Nat} {f : D → R D} (hi : JI X E (.Name x px) iter ρ mi) (he : ∀ d (s : Shared) (H' : Hp) (C : Addr) (cl : List (Str × Addr)) (fp : List Addr), JE (Bk X s H' scope C cl fp) (E00 E.T) elt (ρ.set i (.dat d)) (f d)) (hc : X.calm = true) (hN : X.N.Nodup)
    (ok : BlkOk X.N X.env.scope scope [(x, i)]) (hx : X.N[i]? = some x := by rfl) (hl : ∀ (s : Shared) (H' : Hp) (C : Addr) (cl : List (Str × Addr)) (fp : List Addr), L2.Loc (Bk X s H' scope C cl fp).env.scope x := by intros; first | exact Or.inl rfl | exact Or.inr rfl) (hf : ∀ (s : Shared) (H' : Hp) (C : Addr) (cl : List (Str × Addr)) (fp : List Addr), (Bk X s H' scope C cl fp).fn x = true ∨ (Bk X s H' scope C cl fp).env.scope.names.lookup x = some .local := by intros; first | exact .inr rfl | exact .inl rfl)
    (hs : ∀ x, foldedSetIterable iter X.env x = pure x := by intro _; rfl) : JN X E (.ListComp elt [⟨.Name x px, iter, [], 0⟩] scope pos) ρ (mi.bind (compO .ok (fun _ => .ok true) f)) :=
  EvN.wE_of (pe_lc (own := [(x, i)]) (g := gName i) (tt := tYes) (te := wEB X scope elt) hc hN (wI.pi _ iter) ok (fun s H C cl fp => pg_name hN hx (hl s H C cl fp) (hf s H C cl fp)) (fun _ _ _ _ _ => pts_nil) (fun s H C cl fp => wEB.pe s H C cl fp) hs)
    (evLc hi (ctg1 i) (fun _ => tYes.ev) fun d => wEB.ev (he d))
/-- [elt for x in iter if c] -/
theorem jn_lcIf {i : Nat} {f : D → R D} {t : D → R Bool} (hi : JI X E (.Name x px) iter ρ mi) (ht : ∀ d (s : Shared) (H' : Hp) (C : Addr) (cl : List (Str × Addr)) (fp : List Addr), JT (Bk X s H' scope C cl fp) (E00 E.T) c (ρ.set i (.dat d)) (t d))
    (he : ∀ d (s : Shared) (H' : Hp) (C : Addr) (cl : List (Str × Addr)) (fp : List Addr), JE (Bk X s H' scope C cl fp) (E00 E.T) elt (ρ.set i (.dat d)) (f d)) (hc : X.calm = true) (hN : X.N.Nodup)
    (ok : BlkOk X.N X.env.scope scope [(x, i)]) (hx : X.N[i]? = some x := by rfl) (hl : ∀ (s : Shared) (H' : Hp) (C : Addr) (cl : List (Str × Addr)) (fp : List Addr), L2.Loc (Bk X s H' scope C cl fp).env.scope x := by intros; first | exact Or.inl rfl | exact Or.inr rfl) (hf : ∀ (s : Shared) (H' : Hp) (C : Addr) (cl : List (Str × Addr)) (fp : List Addr), (Bk X s H' scope C cl fp).fn x = true ∨ (Bk X s H' scope C cl fp).env.scope.names.lookup x = some .local := by intros; first | exact .inr rfl | exact .inl rfl)
    (hs : ∀ x, foldedSetIterable iter X.env x = pure x := by intro _; rfl) : JN X E (.ListComp elt [⟨.Name x px, iter, [c], 0⟩] scope pos) ρ (mi.bind (compO .ok t f)) :=
  EvN.wE_of (pe_lc (own := [(x, i)]) (g := gName i) (tt := wTB X scope c) (te := wEB X scope elt) hc hN (wI.pi _ iter) ok (fun s H C cl fp => pg_name hN hx (hl s H C cl fp) (hf s H C cl fp)) (fun s H C cl fp => pts_ok s H C cl fp) (fun s H C cl fp => wEB.pe s H C cl fp) hs)
    (evLc hi (ctg1 i) (fun d => wTB.ev (ht d)) fun d => wEB.ev (he d))

/-! ### y = [elt for ..]: stored within the comprehension -/
variable {rest : List Stmt} {tR : TS} {fin : α → Rho}
theorem jk_asgN {i : Nat} {t : TE} {me : R Ob} {k : Ob → R (Out α)} (hp : PS X (.Assign [.Name y py] elt spos) (tAsg t (gName i))) (he : EvN X.K E t ρ me) (hk : ∀ d, JK X E rest tR (ρ.set i (.own d)) fin (k d)) :
    JK X E (.Assign [.Name y py] elt spos :: rest) tR ρ fin (me.bind k) := jk_cons fun H0 G0 G H σ De S p => by
  refine wS.of hp (he.useS S p fun o q G1 H1 s1 s2 s3 S1 np gp hw p1 => ?_)
  exact hk o H0 G0 G1 H1 _ De (S.setNew s1 S1 np gp hw) p1
theorem EvN.data {t : TE} {mo : R Ob} (h : EvN X.K E t ρ mo) : Ev X.K E t ρ (mo.bind obD) (repE X.K) := fun H0 G0 G H σ Q S p => by
  refine h H0 G0 G H σ Q S (R.post_mono (R.post_bind p) (fun o _ pa q G' H' s1 s2 s3 np gp hw => ?_) fun c _ z => z)
  cases o with
  | dic kvs => exact pa.elim
  | lst ds =>
    obtain ⟨xs, hx, hds⟩ := hw
    refine pa (.ref q) (upd G' q (.lst xs)) H' s1 ⟨fun b o z => ?_, fun b o z => ?_, fun b ps z => s2.tab b ps (upd_tab rfl b ps z)⟩ (fun b o z => ?_) (.lst upd_same (dpAll_mono (same_new gp) hds))
    · rw [upd_ne (ne_of_none (s2.same b o z) gp)]; exact s2.same b o z
    · by_cases hb : b = q
      · subst hb; exact .inr np
      · rw [upd_ne hb] at z; exact s2.new b o z
    · by_cases hb : b = q
      · subst hb; rw [upd_same] at z; cases z; exact hx
      · rw [upd_ne hb] at z; exact s3 b o z
theorem jk_asgD {i : Nat} {t : TE} {m : R D} {k : D → R (Out α)} (hp : PS X (.Assign [.Name y py] elt spos) (tAsg t (gName i))) (he : Ev X.K E t ρ m (repE X.K)) (hk : ∀ d, JK X E rest tR (ρ.set i (.dat d)) fin (k d)) :
    JK X E (.Assign [.Name y py] elt spos :: rest) tR ρ fin (m.bind k) := jk_cons fun H0 G0 G H σ De S p => by
  refine wS.of hp (he.useS S p fun d v G1 H1 s1 s2 s3 S1 r p1 => ?_)
  exact hk d H0 G0 G1 H1 _ De (S1.set r) p1
end

/-! ### a def keeps its promise -/
theorem paired_len {K : PySem.W.Frag} {G H : Hp} {vs : List V} {ss : List Slot} (h : Paired (fun v s => ArgOk K G H v s) vs ss) : vs.length = ss.length := Paired.length h
theorem args_at {K : PySem.W.Frag} {G H : Hp} : ∀ {vs : List V} {ss : List Slot}, Paired (fun v s => ArgOk K G H v s) vs ss → ∀ (i : Nat) (s : Slot), ss[i]? = some s → ∃ v, vs[i]? = some v ∧ ArgOk K G H v s
  | _, _, .nil, i, s, e => by simp at e
  | _, _, .cons h t, 0, s, e => by simp at e; subst e; exact ⟨_, rfl, h⟩
  | _, _, .cons h t, i + 1, s, e => by
    obtain ⟨v, h1, h2⟩ := args_at t i s (by simpa using e)
    exact ⟨v, by simpa using h1, h2⟩
theorem stt_start {T : Tb} {K : PySem.W.Frag} {G H : Hp} {vs : List V} {ss : List Slot} {N : List Str} (gt : ∀ b ps, G b ≠ some (.tbl ps)) (tb : LamX.Tabs T H) (s : Same G H) (h : Paired (fun v s => ArgOk K G H v s) vs ss) (hn : vs.length ≤ N.length) : Stt T K H G G H (L2.start N vs) (ss ++ List.replicate (N.length - ss.length) .un) := by
  have hl := paired_len h
  refine ⟨gt, tb, Grow.refl _ _, Ext.refl _ _, s, ?_, fun i t e => ?_, fun i j t t' v v' a e1 e2 _ _ f1 _ => ?_⟩
  · simp [L2.start, hl]
  · by_cases hi : i < ss.length
    · rw [List.getElem?_append_left hi] at e
      obtain ⟨v, h1, h2⟩ := args_at h i t e
      refine ⟨some v, ?_, ?_⟩
      · unfold L2.start
        rw [List.getElem?_append_left (by simp [hl, hi]), List.getElem?_map, h1]
        rfl
      · cases t with
        | un => trivial
        | dat d => exact ⟨v, rfl, h2⟩
        | bor o => obtain ⟨p, rfl, q⟩ := h2; exact ⟨p, rfl, q⟩
        | own o => exact h2.elim
        | ptr a => exact h2.elim
        | wlk p w => exact h2.elim
        | bwk p w => obtain ⟨rfl, pp, pl, q⟩ := h2; exact ⟨rfl, pp, pl, q⟩
        | wkx w => exact h2.elim
    · rw [List.getElem?_append_right (by omega)] at e
      have e' : t = .un := by
        rw [List.getElem?_replicate] at e
        split at e
        · cases e; rfl
        · cases e
      subst e'
      have hi2 : i < (L2.start N vs).length := by
        have : i < (ss ++ List.replicate (N.length - ss.length) Slot.un).length := by
          have := (List.getElem?_eq_some_iff.mp e).1
          simp at this ⊢
          omega
        simp [L2.start, hl] at this ⊢
        omega
      exact ⟨(L2.start N vs)[i], List.getElem?_eq_getElem hi2, trivial⟩
  · have no : ∀ (i : Nat) (t : Slot), (ss ++ List.replicate (N.length - ss.length) Slot.un)[i]? = some t → ∀ v, ¬ Foot H v a t := fun i t e v f => by
      by_cases hi : i < ss.length
      · rw [List.getElem?_append_left hi] at e
        obtain ⟨v, _, h2⟩ := args_at h i _ e
        cases t with
        | own o => exact h2.elim
        | wlk p w => exact h2.elim
        | wkx w => exact h2.elim
        | _ => exact f.elim
      · rw [List.getElem?_append_right (by omega), List.getElem?_replicate] at e
        split at e <;> cases e
        exact f.elim
    exact (no i t e1 v f1).elim
/-- what a body's outcome is worth -/
def outD : Out Unit → R D
  | .nx _ => .ok .none
  | .bk _ => .stuck
  | .rt d => .ok d
/-- no word of any slot -/
def unR (n : Nat) : Rho := List.replicate n .un
section
variable {P : Program} {w : World} {K : PySem.W.Frag} {mg : Str → Option Value} {base : Heap} {CA : XC → Addr}
/-- what the body may lean on -/
structure Ct (X : Cx) (CA : XC → Addr) (E : XW) (k : Nat) : Prop where
  tk : Takes X (wOf CA E)
  hr : Room k X.A
  calm : X.calm = true
  pass : PassesOwn (model X.prog X.w) X.A X.env X.xe
theorem fn_code {x qual : Str} {st : Stmt} {f : Addr} {fd : FuncData} {N ps : List Str} {k : Nat} {sp : Sp} (F : Fun K x qual st f fd) (S : FnScope N ps (defScope st)) (len : ∀ vs H Q E, sp vs H Q E → vs.length = ps.length)
    (hbody : ∀ (A : Around) (outer : List PySem.Env) (s : Shared) (H : Hp) (vs : List V) (Q : VK) (E : XK), Room k (A.deeper (envOfC qual (defScope st) s.heap.objs.size f fd.code)) → sp vs H Q E →
      ∃ t, PSs (cxOf (L2.CX P w) P w K mg base N qual (defScope st) f fd.code A outer s H E) (defBody st) t ∧ t { nx := fun _ H' => Q .non H', rt := Q } (L2.start N vs) H) : FnOk P w K mg base (L2.CX P w) (k + 1) f fd ps sp := by
  obtain ⟨oc, od, kV, doc, pm, an, cdv, ct, osl, rfl, lk, hcd⟩ := F.ex
  exact fn_of lk hcd S len fun A outer s H vs Q E hr hsp => hbody A outer s H vs Q E hr hsp
theorem fnOk {T : Tb} {x qual : Str} {stm : Stmt} {f : Addr} {fd : FuncData} {N ps : List Str} {k : Nat} {F : List Slot → R D} (Fn : Fun K x qual stm f fd) (S : FnScope N ps (defScope stm)) 
    (hbody : ∀ (cdv : Value), cdv = fd.code → ∀ (A : Around) (outer : List PySem.Env) (s : Shared) (H : Hp) (Q : VK) (E : XK) (ss : List Slot), ss.length = ps.length →
      ∀ X : Cx, X = cxOf (L2.CX P w) P w K mg base N qual (defScope stm) f cdv A outer s H E → Ct X CA ⟨T, fun c _ H' => E (.ref (CA c)) none H'⟩ k →
      ∃ m : R (Out Unit), JK X ⟨T, fun c _ H' => E (.ref (CA c)) none H'⟩ (defBody stm) tNext (ss ++ List.replicate (N.length - ss.length) .un) (fun _ => unR N.length) m ∧ F ss = m.bind outD) (hN : ps.length ≤ N.length) :
    FnOk P w K mg base (L2.CX P w) (k + 1) f fd ps (spD T K CA ps.length F) := by
  refine fn_code Fn S (fun vs H Q E h => h.1) fun A outer s H vs Q E hr h => ?_
  obtain ⟨hl, tb, G, ss, gt, sG, hp, po⟩ := h
  have hls : ss.length = ps.length := (paired_len hp).symm.trans hl
  have tk0 : Takes (cxOf (L2.CX P w) P w K mg base N qual (defScope stm) f fd.code A outer s H E) (fun cls d _ H => E cls d H) := takes_of rfl rfl rfl rfl
  obtain ⟨m, hj, em⟩ := hbody fd.code rfl A outer s H Q E ss hls _ rfl ⟨tk0.imp fun c d σ H' hw => by obtain ⟨rfl, c', rfl, q⟩ := hw; exact q, hr, rfl, passes_of (X := cxOf (L2.CX P w) P w K mg base N qual (defScope stm) f fd.code A outer s H E) rfl⟩
  refine ⟨_, wSs.pss _, ?_⟩
  have S0 : Stt T K H G G H (L2.start N vs) (ss ++ List.replicate (N.length - ss.length) .un) := stt_start gt tb sG hp (by omega)
  refine hj H G G H (L2.start N vs) { nx := fun _ H' => Q .non H', rt := Q } S0 ?_
  rw [em] at po
  refine R.post_mono (R.post_bind po) (fun o _ z => ?_) fun c _ z σ' H' s => z H' s
  cases o with
  | nx a => exact fun G' H' σ' S' => z .non G' H' S'.sub0 S'.ext S'.sub .non
  | bk a => exact z.elim
  | rt d => exact fun v G' H' s1 s2 s3 q => z v G' H' s1 s2 s3 q
end
end Br
namespace Br
open PySem PySem.Spec PyProof.Rows L2

def lstOb (ds : List D) : R Ob := .ok (.lst ds)
def lstD (ds : List D) : R D := .ok (.list ds)
def asLst : D → R (List D)
  | .list ds => .ok ds
  | _ => .stuck
section
variable {X : Cx} {E : XW} {ρ : Rho} {e a b c tg iter elt : Expr} {es : List Expr} {st : Stmt} {sts rest body : List Stmt} {tR : TS} {α β : Type} {fin : α → Rho} {m ma mb : R D} {mt : R Bool} {ml mi : R (List D)} {mo : R (Out α)} {pos pos' p2 px py spos : Pos}
theorem Ev.cong {γ δ : Type} {K : PySem.W.Frag} {t : EvT δ} {m m' : R γ} {rep : Hp → Hp → δ → γ → Prop} (h : Ev K E t ρ m rep) (e : m = m') : Ev K E t ρ m' rep := e ▸ h
theorem EvN.cong {K : PySem.W.Frag} {t : TE} {m m' : R Ob} (h : EvN K E t ρ m) (e : m = m') : EvN K E t ρ m' := e ▸ h
theorem lb_dat (h : JE X E e ρ m) : JB X E e ρ ((m.bind asLst).bind lstOb) := h.ob.cong (by cases m with | ok d => cases d <;> rfl | _ => rfl)
theorem lb_own {i : Nat} {x : Str} {ds : List D} (hi : ρ[i]? = some (.own (.lst ds))) (hN : X.N[i]? = some x := by rfl) (hv : Vis X.env.scope x := by first | exact Or.inl rfl | exact Or.inr (Or.inl rfl) | exact Or.inr (Or.inr rfl)) (hd : (x == ("__debug__" : Str)) = false := by decide)
    (hcd : (x == ("__classdict__" : Str)) = false := by decide) : JB X E (.Name x pos) ρ ((R.ok ds).bind lstOb) := jb_own hi hN hv hd hcd
theorem lb_bor {i : Nat} {x : Str} {ds : List D} (hi : ρ[i]? = some (.bor (.lst ds))) (hN : X.N[i]? = some x := by rfl) (hv : Vis X.env.scope x := by first | exact Or.inl rfl | exact Or.inr (Or.inl rfl) | exact Or.inr (Or.inr rfl)) (hd : (x == ("__debug__" : Str)) = false := by decide)
    (hcd : (x == ("__classdict__" : Str)) = false := by decide) : JB X E (.Name x pos) ρ ((R.ok ds).bind lstOb) := jb_bor hi hN hv hd hcd
theorem lh (h : JB X E e ρ (ml.bind lstOb)) : JH X E e ρ (ml.bind lstD) := h.h.cong (by cases ml <;> rfl)
theorem ln_lst (h : JD X E es ρ ml) (hl : es.length ≤ 1000 := by decide) : JN X E (.List es pos) ρ (ml.bind lstOb) := jn_lst h hl
theorem ln_data (h : JN X E e ρ (ml.bind lstOb)) : JE X E e ρ (ml.bind lstD) := h.data.cong (by cases ml <;> rfl)
theorem je_ixL (ha : JB X E a ρ (ml.bind lstOb)) (hb : JE X E b ρ mb) (hs : PlainIx b := by intro _ _; rfl) : JE X E (.Subscript a b pos) ρ (ml.bind fun ds => mb.bind fun y => R.opt (pyIx (.list ds) y)) :=
  (je_ixB ha hb hs).cong (by
    cases ml with
    | ok ds =>
      cases mb with
      | ok d => cases d <;> rfl
      | _ => rfl
    | _ => rfl)
theorem ln_slB {lo hi : Option Expr} {mlo mhi : R (Option Int)} (ha : JB X E a ρ (ml.bind lstOb)) (hl : JO X E lo ρ mlo) (hh : JO X E hi ρ mhi) :
    JN X E (.Subscript a (.Slice lo hi none p2) pos) ρ ((ml.bind fun ds => mlo.bind fun l => mhi.bind fun h => .ok (cutD ds l h)).bind lstOb) :=
  (jn_slB ha hl hh).cong (by
    cases ml with
    | ok ds =>
      cases mlo with
      | ok d => cases mhi <;> rfl
      | _ => rfl
    | _ => rfl)
theorem ja_borL {ms : R (List Slot)} (ha : JB X E e ρ (ml.bind lstOb)) (hr : JA X E es ρ ms) (hs : noStar e = true := by rfl) : JA X E (e :: es) ρ (ml.bind fun ds => ms.bind fun xs => .ok (.bor (.lst ds) :: xs)) :=
  (ja_bor ha hr hs).cong (by cases ml <;> rfl)
def compD {γ : Type} (op : D → R γ) (t : γ → R Bool) (f : γ → R D) (ds : List D) : R (List D) := if lineOk ds.length then compG op t f ds else .stuck
theorem compO_eq {γ : Type} (op : D → R γ) (t : γ → R Bool) (f : γ → R D) (mi : R (List D)) : mi.bind (compO op t f) = (mi.bind (compD op t f)).bind lstOb := by
  cases mi with
  | ok ds =>
    show compO op t f ds = (compD op t f ds).bind lstOb
    unfold compO compD
    split
    · cases compG op t f ds <;> rfl
    · rfl
  | _ => rfl
section
variable {scope : Scope} {x y : Str}
theorem ln_lc {i : Nat} {f : D → R D} (hi : JI X E (.Name x px) iter ρ mi) (he : ∀ d (s : Shared) (H' : Hp) (C : Addr) (cl : List (Str × Addr)) (fp : List Addr), JE (Bk X s H' scope C cl fp) (E00 E.T) elt (ρ.set i (.dat d)) (f d)) (hc : X.calm = true) (hN : X.N.Nodup)
    (ok : BlkOk X.N X.env.scope scope [(x, i)]) (hx : X.N[i]? = some x := by rfl) (hl : ∀ (s : Shared) (H' : Hp) (C : Addr) (cl : List (Str × Addr)) (fp : List Addr), L2.Loc (Bk X s H' scope C cl fp).env.scope x := by intros; first | exact Or.inl rfl | exact Or.inr rfl) (hf : ∀ (s : Shared) (H' : Hp) (C : Addr) (cl : List (Str × Addr)) (fp : List Addr), (Bk X s H' scope C cl fp).fn x = true ∨ (Bk X s H' scope C cl fp).env.scope.names.lookup x = some .local := by intros; first | exact .inr rfl | exact .inl rfl)
    (hs : ∀ x, foldedSetIterable iter X.env x = pure x := by intro _; rfl) : JN X E (.ListComp elt [⟨.Name x px, iter, [], 0⟩] scope pos) ρ ((mi.bind (compD .ok (fun _ => .ok true) f)).bind lstOb) :=
  EvN.cong (jn_lc hi he hc hN ok hx hl hf hs) (compO_eq _ _ _ _)
theorem ln_lcIf {i : Nat} {f : D → R D} {t : D → R Bool} (hi : JI X E (.Name x px) iter ρ mi) (ht : ∀ d (s : Shared) (H' : Hp) (C : Addr) (cl : List (Str × Addr)) (fp : List Addr), JT (Bk X s H' scope C cl fp) (E00 E.T) c (ρ.set i (.dat d)) (t d))
    (he : ∀ d (s : Shared) (H' : Hp) (C : Addr) (cl : List (Str × Addr)) (fp : List Addr), JE (Bk X s H' scope C cl fp) (E00 E.T) elt (ρ.set i (.dat d)) (f d)) (hc : X.calm = true) (hN : X.N.Nodup)
    (ok : BlkOk X.N X.env.scope scope [(x, i)]) (hx : X.N[i]? = some x := by rfl) (hl : ∀ (s : Shared) (H' : Hp) (C : Addr) (cl : List (Str × Addr)) (fp : List Addr), L2.Loc (Bk X s H' scope C cl fp).env.scope x := by intros; first | exact Or.inl rfl | exact Or.inr rfl) (hf : ∀ (s : Shared) (H' : Hp) (C : Addr) (cl : List (Str × Addr)) (fp : List Addr), (Bk X s H' scope C cl fp).fn x = true ∨ (Bk X s H' scope C cl fp).env.scope.names.lookup x = some .local := by intros; first | exact .inr rfl | exact .inl rfl)
    (hs : ∀ x, foldedSetIterable iter X.env x = pure x := by intro _; rfl) : JN X E (.ListComp elt [⟨.Name x px, iter, [c], 0⟩] scope pos) ρ ((mi.bind (compD .ok t f)).bind lstOb) :=
  EvN.cong (jn_lcIf hi ht he hc hN ok hx hl hf hs) (compO_eq _ _ _ _)
/-- y = [elt for x in iter], y a local -/
theorem jk_setLc {i j : Nat} {f : D → R D} {k : List D → R (Out α)} (hi : JI X E (.Name x px) iter ρ mi) (he : ∀ d (s : Shared) (H' : Hp) (C : Addr) (cl : List (Str × Addr)) (fp : List Addr), JE (Bk X s H' scope C cl fp) (E00 E.T) elt (ρ.set i (.dat d)) (f d))
    (hk : ∀ ds, JK X E rest tR (ρ.set j (.own (.lst ds))) fin (k ds)) (hc : X.calm = true) (hN : X.N.Nodup)
    (ok : BlkOk X.N X.env.scope scope [(x, i)]) (hsw : swapsWith (.ListComp elt [⟨.Name x px, iter, [], 0⟩] scope pos) (some (.Name y py)) spos.line X.env = pure true) (hy : X.N[j]? = some y := by rfl) (hyl : X.env.scope.names.lookup y = some .local := by rfl) (hx : X.N[i]? = some x := by rfl) (hl : ∀ (s : Shared) (H' : Hp) (C : Addr) (cl : List (Str × Addr)) (fp : List Addr), L2.Loc (Bk X s H' scope C cl fp).env.scope x := by intros; first | exact Or.inl rfl | exact Or.inr rfl) (hf : ∀ (s : Shared) (H' : Hp) (C : Addr) (cl : List (Str × Addr)) (fp : List Addr), (Bk X s H' scope C cl fp).fn x = true ∨ (Bk X s H' scope C cl fp).env.scope.names.lookup x = some .local := by intros; first | exact .inr rfl | exact .inl rfl)
    (hs : ∀ x, foldedSetIterable iter X.env x = pure x := by intro _; rfl) : JK X E (.Assign [.Name y py] (.ListComp elt [⟨.Name x px, iter, [], 0⟩] scope pos) spos :: rest) tR ρ fin ((mi.bind (compD .ok (fun _ => .ok true) f)).bind k) := by
  have h := jk_asgN (k := fun o => match o with | .lst ds => k ds | _ => .stuck) (fin := fin) (rest := rest) (tR := tR) (ps_setLc (own := [(x, i)]) (g := gName i) (tt := tYes) (te := wEB X scope elt) hc hN hy hyl hsw (wI.pi _ iter) ok (fun s H C cl fp => pg_name hN hx (hl s H C cl fp) (hf s H C cl fp)) (fun _ _ _ _ _ => pts_nil) (fun s H C cl fp => wEB.pe s H C cl fp) hs)
    (evLc hi (ctg1 i) (fun _ => tYes.ev) fun d => wEB.ev (he d)) (fun o => by
      cases o with
      | lst ds => exact hk ds
      | dic kvs => exact fun H0 G0 G H σ De S p => p.elim)
  refine fun H0 G0 G H σ De S p => h H0 G0 G H σ De S ?_
  rw [compO_eq, R.bind_assoc]
  exact p
theorem jk_setLcIf {i j : Nat} {f : D → R D} {t : D → R Bool} {k : List D → R (Out α)} (hi : JI X E (.Name x px) iter ρ mi) (ht : ∀ d (s : Shared) (H' : Hp) (C : Addr) (cl : List (Str × Addr)) (fp : List Addr), JT (Bk X s H' scope C cl fp) (E00 E.T) c (ρ.set i (.dat d)) (t d)) (he : ∀ d (s : Shared) (H' : Hp) (C : Addr) (cl : List (Str × Addr)) (fp : List Addr), JE (Bk X s H' scope C cl fp) (E00 E.T) elt (ρ.set i (.dat d)) (f d))
    (hk : ∀ ds, JK X E rest tR (ρ.set j (.own (.lst ds))) fin (k ds)) (hc : X.calm = true) (hN : X.N.Nodup)
    (ok : BlkOk X.N X.env.scope scope [(x, i)]) (hsw : swapsWith (.ListComp elt [⟨.Name x px, iter, [c], 0⟩] scope pos) (some (.Name y py)) spos.line X.env = pure true) (hy : X.N[j]? = some y := by rfl) (hyl : X.env.scope.names.lookup y = some .local := by rfl) (hx : X.N[i]? = some x := by rfl) (hl : ∀ (s : Shared) (H' : Hp) (C : Addr) (cl : List (Str × Addr)) (fp : List Addr), L2.Loc (Bk X s H' scope C cl fp).env.scope x := by intros; first | exact Or.inl rfl | exact Or.inr rfl) (hf : ∀ (s : Shared) (H' : Hp) (C : Addr) (cl : List (Str × Addr)) (fp : List Addr), (Bk X s H' scope C cl fp).fn x = true ∨ (Bk X s H' scope C cl fp).env.scope.names.lookup x = some .local := by intros; first | exact .inr rfl | exact .inl rfl)
    (hs : ∀ x, foldedSetIterable iter X.env x = pure x := by intro _; rfl) : JK X E (.Assign [.Name y py] (.ListComp elt [⟨.Name x px, iter, [c], 0⟩] scope pos) spos :: rest) tR ρ fin ((mi.bind (compD .ok t f)).bind k) := by
  have h := jk_asgN (k := fun o => match o with | .lst ds => k ds | _ => .stuck) (fin := fin) (rest := rest) (tR := tR) (ps_setLc (own := [(x, i)]) (g := gName i) (tt := wTB X scope c) (te := wEB X scope elt) hc hN hy hyl hsw (wI.pi _ iter) ok (fun s H C cl fp => pg_name hN hx (hl s H C cl fp) (hf s H C cl fp)) (fun s H C cl fp => pts_ok s H C cl fp) (fun s H C cl fp => wEB.pe s H C cl fp) hs)
    (evLc hi (ctg1 i) (fun d => wTB.ev (ht d)) fun d => wEB.ev (he d)) (fun o => by
      cases o with
      | lst ds => exact hk ds
      | dic kvs => exact fun H0 G0 G H σ De S p => p.elim)
  refine fun H0 G0 G H σ De S p => h H0 G0 G H σ De S ?_
  rw [compO_eq, R.bind_assoc]
  exact p
end
theorem jk_setL {i : Nat} {x : Str} {k : List D → R (Out α)} (he : JN X E e ρ (ml.bind lstOb)) (hk : ∀ ds, JK X E rest tR (ρ.set i (.own (.lst ds))) fin (k ds)) (hN : X.N.Nodup) (hi : X.N[i]? = some x := by rfl) (hx : L2.Loc X.env.scope x := by first | exact Or.inl rfl | exact Or.inr rfl)
    (hs : swapsWith e (some (.Name x pos')) pos.line X.env = pure false := by rfl) (hf : X.fn x = true ∨ X.env.scope.names.lookup x = some .local := by first | exact .inl rfl | exact .inr rfl | assumption) :
    JK X E (.Assign [.Name x pos'] e pos :: rest) tR ρ fin (ml.bind k) := by
  have h := jk_setN (k := fun o => match o with | .lst ds => k ds | _ => .stuck) (fin := fin) (rest := rest) (tR := tR) (pos := pos) (pos' := pos') he (fun o => by
      cases o with
      | lst ds => exact hk ds
      | dic kvs => exact fun H0 G0 G H σ De S p => p.elim) hN hi hx hs hf
  refine fun H0 G0 G H σ De S p => h H0 G0 G H σ De S ?_
  rw [R.bind_assoc]
  exact p
/-- x = {} -/
theorem jk_setD {i : Nat} {x : Str} {k : R (Out α)} (hk : JK X E rest tR (ρ.set i (.own (.dic []))) fin k) (hN : X.N.Nodup) (hi : X.N[i]? = some x := by rfl) (hx : L2.Loc X.env.scope x := by first | exact Or.inl rfl | exact Or.inr rfl)
    (hs : swapsWith (.Dict [] [] p2) (some (.Name x pos')) pos.line X.env = pure false := by rfl) (hf : X.fn x = true ∨ X.env.scope.names.lookup x = some .local := by first | exact .inl rfl | exact .inr rfl | assumption) :
    JK X E (.Assign [.Name x pos'] (.Dict [] [] p2) pos :: rest) tR ρ fin k := by
  have h := jk_setN (k := fun o => match o with | .dic [] => k | _ => .stuck) (fin := fin) (rest := rest) (tR := tR) (pos := pos) (pos' := pos') (jn_dict (pos := p2)) (fun o => by
      cases o with
      | lst ds => exact fun H0 G0 G H σ De S p => p.elim
      | dic kvs =>
        cases kvs with
        | nil => exact hk
        | cons a b => exact fun H0 G0 G H σ De S p => p.elim) hN hi hx hs hf
  exact h
theorem jk_stuck : JK X E sts tR ρ fin .stuck := fun H0 G0 G H σ De S p => p.elim
/-! ### list(x), tuple(x), -x -/
theorem ln_list {p : Pos} (hm : X.mg "list" = none) (h : JE X E e ρ m) (hg : Gl X "list" := by rfl) (he : noStar e = true := by rfl) : JN X E (.Call (.Name "list" p) [e] [] pos) ρ ((m.bind asSeq).bind lstOb) :=
  EvN.wE_of (pe_callTy call_list_of hg hm (by decide +kernel) (pa_cons (wE.pe e) pa_nil (star_cons he)) (by decide) (by decide) (star_cons he) rfl) fun H0 G0 G H σ Q S p => by
    rw [R.bind_assoc] at p
    refine h.use S p fun d v G1 H1 s1 s2 s3 S1 r p1 => ?_
    cases d <;> try exact p1.elim
    case list ds =>
      obtain ⟨a', xs, rfl, hx, hd⟩ := Dq.lst_inv r
      exact ⟨a', xs, rfl, .inl (SqL.of (s3 _ _ hx)), fun l hl => p1 l G1 _ (s1.trans (grow_new hl)) s2 (s3.trans (same_new hl)) (s1.free hl) (s3.free hl) ⟨xs, upd_same, hd⟩⟩
    case tuple ds =>
      obtain ⟨a', xs, rfl, hx, hd⟩ := Dq.tup_inv r
      exact ⟨a', xs, rfl, .inr (Same.tup s3 hx), fun l hl => p1 l G1 _ (s1.trans (grow_new hl)) s2 (s3.trans (same_new hl)) (s1.free hl) (s3.free hl) ⟨xs, upd_same, hd⟩⟩
theorem JB.useL {γ : Type} (h : JB X E e ρ (ml.bind lstOb)) {H0 G0 G H : Hp} {σ : L2.St} {Q : VK} (S : Stt E.T X.K H0 G0 G H σ ρ) {f : List D → R γ} {q : γ → Prop} (p : (ml.bind f).post q (fun c => ∀ H', Grow E.T H H' → E c σ H'))
    (k : ∀ (ds : List D) (a : Addr) (xs : List V) (G' H' : Hp), Grow E.T H H' → Ext G H G' → Same G' H' → Stt E.T X.K H0 G0 G' H' σ ρ → SqL X.K H' a xs → DqAll X.K G' xs ds → (f ds).post q (fun c => ∀ H'', Grow E.T H' H'' → E c σ H'') → Q (.ref a) H') : wE X e σ H Q := by
  refine h.use (f := fun o => match o with | .lst ds => f ds | _ => .stuck) S (by rw [R.bind_assoc]; exact p) fun o v G1 H1 s1 s2 s3 S1 r p1 => ?_
  cases o with
  | dic kvs => exact p1.elim
  | lst ds =>
    obtain ⟨a', rfl, xs, hx, hd⟩ := r
    exact k ds a' xs G1 H1 s1 s2 s3 S1 hx hd p1
theorem ln_listB {p : Pos} (hm : X.mg "list" = none) (h : JB X E e ρ (ml.bind lstOb)) (hg : Gl X "list" := by rfl) (he : noStar e = true := by rfl) : JN X E (.Call (.Name "list" p) [e] [] pos) ρ (ml.bind lstOb) :=
  EvN.wE_of (pe_callTy call_list_of hg hm (by decide +kernel) (pa_cons (wE.pe e) pa_nil (star_cons he)) (by decide) (by decide) (star_cons he) rfl) fun H0 G0 G H σ Q S p =>
    JB.useL h S p fun ds a xs G1 H1 s1 s2 s3 S1 hx hd p1 => ⟨a, xs, rfl, .inl hx, fun l hl => p1 l G1 _ (s1.trans (grow_new hl)) s2 (s3.trans (same_new hl)) (s1.free hl) (s3.free hl) ⟨xs, upd_same, hd⟩⟩
def tupD (ds : List D) : R D := .ok (.tuple ds)
theorem je_tupleB {p : Pos} (hm : X.mg "tuple" = none) (h : JB X E e ρ (ml.bind lstOb)) (hg : Gl X "tuple" := by rfl) (he : noStar e = true := by rfl) : JE X E (.Call (.Name "tuple" p) [e] [] pos) ρ (ml.bind tupD) :=
  Ev.wE_of (pe_callTy call_tuple_of hg hm (by decide +kernel) (pa_cons (wE.pe e) pa_nil (star_cons he)) (by decide) (by decide) (star_cons he) rfl) fun H0 G0 G H σ Q S p =>
    JB.useL h S p fun ds a xs G1 H1 s1 s2 s3 S1 hx hd p1 => ⟨a, xs, rfl, .inl ⟨hx, fun l hl => Endv.tup s3 (Endv.back s1 s2 p1) hd hl⟩⟩
theorem je_tuple {p : Pos} (hm : X.mg "tuple" = none) (h : JE X E e ρ m) (hg : Gl X "tuple" := by rfl) (he : noStar e = true := by rfl) : JE X E (.Call (.Name "tuple" p) [e] [] pos) ρ ((m.bind asSeq).bind tupD) :=
  Ev.wE_of (pe_callTy call_tuple_of hg hm (by decide +kernel) (pa_cons (wE.pe e) pa_nil (star_cons he)) (by decide) (by decide) (star_cons he) rfl) fun H0 G0 G H σ Q S p => by
    rw [R.bind_assoc] at p
    refine h.use S p fun d v G1 H1 s1 s2 s3 S1 r p1 => ?_
    cases d <;> try exact p1.elim
    case list ds =>
      obtain ⟨a', xs, rfl, hx, hd⟩ := Dq.lst_inv r
      exact ⟨a', xs, rfl, .inl ⟨SqL.of (s3 _ _ hx), fun l hl => Endv.tup s3 (Endv.back s1 s2 p1) hd hl⟩⟩
    case tuple ds =>
      obtain ⟨a', xs, rfl, hx, hd⟩ := Dq.tup_inv r
      exact ⟨a', xs, rfl, .inr ⟨Same.tup s3 hx, Endv.flat s3 (Endv.back s1 s2 p1) (.tup hx hd)⟩⟩
def pyNeg : D → Option D
  | .int i => some (.int (-i))
  | _ => none
theorem je_neg (ha : JE X E a ρ ma) : JE X E (.UnaryOp .USub a pos) ρ (ma.bind fun x => R.opt (pyNeg x)) := Ev.wE_of (pe_un un_neg (wE.pe a)) fun H0 G0 G H σ Q S p => by
  refine ha.use S p fun d v G1 H1 s1 s2 s3 S1 r p1 => ?_
  obtain ⟨z, ez, q⟩ := R.opt_post p1
  cases d <;> simp only [pyNeg] at ez <;> try cases ez
  exact ⟨_, r.int_inv, q (.int _) G1 H1 s1 s2 s3 (.int _)⟩
/-- the level 0: nothing is promised -/
theorem FnD.zero {T : Tb} {P : Program} {w : World} {K : PySem.W.Frag} {mg : Str → Option Value} {base : Heap} {CA : XC → Addr} {k : Nat} {x : Str} {ps : List Str} {F : List Slot → R D} {f : Addr} {fd : FuncData} (hF : ∀ ss, F ss = .stuck) (hm : mg x = some (.ref f)) (hk : PySem.W.keepIn K (.ref f) = true) (hb : Binds K fd ps []) : FnD T P w K mg base CA k x ps F := by
  have no : ∀ vs H Q E, ¬ spD T K CA ps.length F vs H Q E := fun vs H Q E h => by
    obtain ⟨_, _, G, ss, _, _, _, p⟩ := h
    rw [hF] at p
    exact p
  exact ⟨f, fd, hm, hk, hb, ⟨fun vs H Q E h => absurd h (no vs H Q E), fun A outer s H args us vs Q E _ _ _ _ h => absurd h (no vs H Q E)⟩⟩
theorem Ct.blk {CA : XC → Addr} {k : Nat} (C : Ct X CA E k) (s : Shared) (H' : Hp) (scope : Scope) (Ca : Addr) (cl : List (Str × Addr)) (fp : List Addr) : Ct (Bk X s H' scope Ca cl fp) CA (E00 E.T) k :=
  ⟨takes0.imp fun c d σ H' hw => by obtain ⟨_, _, _, q⟩ := hw; exact q, C.hr, C.calm, PassesOwn.never⟩
end
/-! ### constants -/
mutual
def constD : Expr → Option D
  | .Constant (.int i) _ _ => some (.int i)
  | .Constant (.str x) _ _ => some (.str x)
  | .Constant (.bool x) _ _ => some (.bool x)
  | .Constant .none _ _ => some .none
  | .Tuple es _ _ => if es.length ≤ 1000 then (constDs es).map .tuple else none
  | _ => none
def constDs : List Expr → Option (List D)
  | [] => some []
  | e :: es => (constD e).bind fun d => (constDs es).map (d :: ·)
end
mutual
theorem je_const' {X : Cx} {E : XW} {ρ : Rho} : ∀ (e : Expr) (d : D), constD e = some d → JE X E e ρ (.ok d) ∧ noStar e = true
  | .Constant (.int i) _ _, d, h => by simp only [constD] at h; cases h; exact ⟨je_int, rfl⟩
  | .Constant (.str i) _ _, d, h => by simp only [constD] at h; cases h; exact ⟨je_str, rfl⟩
  | .Constant (.bool i) _ _, d, h => by simp only [constD] at h; cases h; exact ⟨je_bl, rfl⟩
  | .Constant .none _ _, d, h => by simp only [constD] at h; cases h; exact ⟨je_non, rfl⟩
  | .Tuple es _ _, d, h => by
    simp only [constD] at h
    split at h
    · rename_i hl
      cases q : constDs es with
      | none => rw [q] at h; cases h
      | some ds =>
        rw [q] at h
        cases h
        exact ⟨je_tup (ms := .ok ds) (je_consts' es ds q) hl, rfl⟩
    · cases h
  | .Constant (.float ..) _ _, d, h | .Constant (.bytes ..) _ _, d, h | .Constant (.ellipsis ..) _ _, d, h | .Constant (.complex ..) _ _, d, h => by simp [constD] at h
  | .BoolOp .., d, h => by simp [constD] at h
  | .NamedExpr .., d, h => by simp [constD] at h
  | .BinOp .., d, h => by simp [constD] at h
  | .UnaryOp .., d, h => by simp [constD] at h
  | .Lambda .., d, h => by simp [constD] at h
  | .IfExp .., d, h => by simp [constD] at h
  | .Dict .., d, h => by simp [constD] at h
  | .Set .., d, h => by simp [constD] at h
  | .ListComp .., d, h => by simp [constD] at h
  | .SetComp .., d, h => by simp [constD] at h
  | .DictComp .., d, h => by simp [constD] at h
  | .GeneratorExp .., d, h => by simp [constD] at h
  | .Await .., d, h => by simp [constD] at h
  | .Yield .., d, h => by simp [constD] at h
  | .YieldFrom .., d, h => by simp [constD] at h
  | .Compare .., d, h => by simp [constD] at h
  | .Call .., d, h => by simp [constD] at h
  | .FormattedValue .., d, h => by simp [constD] at h
  | .JoinedStr .., d, h => by simp [constD] at h
  | .Attribute .., d, h => by simp [constD] at h
  | .Subscript .., d, h => by simp [constD] at h
  | .Starred .., d, h => by simp [constD] at h
  | .Name .., d, h => by simp [constD] at h
  | .List .., d, h => by simp [constD] at h
  | .Slice .., d, h => by simp [constD] at h
theorem je_consts' {X : Cx} {E : XW} {ρ : Rho} : ∀ (es : List Expr) (ds : List D), constDs es = some ds → JD X E es ρ (.ok ds)
  | [], ds, h => by simp only [constDs] at h; cases h; exact jd_nil
  | e :: es, ds, h => by
    simp only [constDs] at h
    cases q : constD e with
    | none => rw [q] at h; cases h
    | some d =>
      rw [q] at h
      cases q2 : constDs es with
      | none => rw [q2] at h; cases h
      | some r =>
        rw [q2] at h
        cases h
        have z := je_const' (X := X) (E := E) (ρ := ρ) e d q
        exact jd_cons (m := .ok d) (ms := .ok r) z.1 (je_consts' es r q2) z.2
end
theorem je_const {X : Cx} {E : XW} {ρ : Rho} {e : Expr} {d : D} (h : constD e = some d) : JE X E e ρ (.ok d) := (je_const' e d h).1
end Br
namespace Br
open PySem PySem.Spec PyProof.Rows L2

def open2l : List D → R (D × D)
  | [a, b] => .ok (a, b)
  | _ => .stuck
def open3l : List D → R (D × D × D)
  | [a, b, c] => .ok (a, b, c)
  | _ => .stuck
def open3 : D → R (D × D × D)
  | .tuple [a, b, c] => .ok (a, b, c)
  | _ => .stuck
theorem dq2 {K : PySem.W.Frag} {G : Hp} {vs : List V} {ds : List D} {z : D × D} (h : DqAll K G vs ds) (e : open2l ds = .ok z) : ∃ v w, vs = [v, w] ∧ Dq K G v z.1 ∧ Dq K G w z.2 := by
  rcases ds with _ | ⟨d1, _ | ⟨d2, _ | ⟨d3, r⟩⟩⟩ <;> try cases e
  cases h with
  | cons h1 h =>
    cases h with
    | cons h2 h => cases h; exact ⟨_, _, rfl, h1, h2⟩
theorem dq3 {K : PySem.W.Frag} {G : Hp} {vs : List V} {ds : List D} {z : D × D × D} (h : DqAll K G vs ds) (e : open3l ds = .ok z) : ∃ u v w, vs = [u, v, w] ∧ Dq K G u z.1 ∧ Dq K G v z.2.1 ∧ Dq K G w z.2.2 := by
  rcases ds with _ | ⟨d1, _ | ⟨d2, _ | ⟨d3, _ | ⟨d4, r⟩⟩⟩⟩ <;> try cases e
  cases h with
  | cons h1 h =>
    cases h with
    | cons h2 h =>
      cases h with
      | cons h3 h => cases h; exact ⟨_, _, _, rfl, h1, h2, h3⟩
theorem open2_inv {d : D} {z : D × D} (e : open2 d = .ok z) : d = .tuple [z.1, z.2] := by
  cases d <;> try cases e
  rename_i ds
  rcases ds with _ | ⟨d1, _ | ⟨d2, _ | ⟨d3, r⟩⟩⟩ <;> try cases e
  rfl
theorem open3_inv {d : D} {z : D × D × D} (e : open3 d = .ok z) : d = .tuple [z.1, z.2.1, z.2.2] := by
  cases d <;> try cases e
  rename_i ds
  rcases ds with _ | ⟨d1, _ | ⟨d2, _ | ⟨d3, _ | ⟨d4, r⟩⟩⟩⟩ <;> try cases e
  rfl
theorem R.post_ok {α : Type} {m : R α} {q : α → Prop} {x : XC → Prop} (h : m.post q x) (nx : ∀ c, m ≠ .exc c) : ∃ a, m = .ok a ∧ q a := by
  cases m with
  | ok a => exact ⟨a, rfl, h⟩
  | exc c => exact absurd rfl (nx c)
  | stuck => exact h.elim
theorem open2l_nx (l : List D) (c : XC) : open2l l ≠ .exc c := by unfold open2l; split <;> simp
theorem open3l_nx (l : List D) (c : XC) : open3l l ≠ .exc c := by unfold open3l; split <;> simp
theorem open2_nx (l : D) (c : XC) : open2 l ≠ .exc c := by unfold open2; split <;> simp
theorem open3_nx (l : D) (c : XC) : open3 l ≠ .exc c := by unfold open3; split <;> simp
section
variable {X : Cx} {E : XW} {ρ : Rho} {e a b c tg iter elt : Expr} {es : List Expr} {st : Stmt} {sts rest body : List Stmt} {tR : TS} {α β : Type} {fin : α → Rho} {m ma mb : R D} {mt : R Bool} {ml mi : R (List D)} {mo : R (Out α)} {pos pos' p2 px py pz pt spos : Pos} {x y z : Str}

theorem je_globE {x : Str} {n : Int} (hm : ∃ t, X.mg x = some (.int n t)) (hg : Gl X x := by rfl) (hd : (x == ("__debug__" : Str)) = false := by decide) : JE X E (.Name x pos) ρ (.ok (.int n)) := let ⟨_, h⟩ := hm; je_glob h hg hd
/-- a, b = e1, e2 -/
theorem jk_par2 {i1 i2 : Nat} {k : D × D → R (Out α)} {kt k2} {pt2} (he : JD X E [a, b] ρ ml) (hk : ∀ z : D × D, JK X E rest tR ((ρ.set i1 (.dat z.1)).set i2 (.dat z.2)) fin (k z)) (hN : X.N.Nodup) (hc : X.calm = true) (hi : X.N[i1]? = some x := by rfl) (hj : X.N[i2]? = some y := by rfl) (hij : i1 ≠ i2 := by decide)
    (hx : X.env.scope.names.lookup x = some .local := by rfl) (hy : X.env.scope.names.lookup y = some .local := by rfl)
    (hw : swappedStores [.Tuple [.Name x px, .Name y py] kt pt] (.Tuple [a, b] k2 pt2) X.env = pure (some [x, y]) := by rfl)
    (hs : swapsWithSole [.Tuple [.Name x px, .Name y py] kt pt] (.Tuple [a, b] k2 pt2) pos.line X.env = pure false := by rfl) :
    JK X E (.Assign [.Tuple [.Name x px, .Name y py] kt pt] (.Tuple [a, b] k2 pt2) pos :: rest) tR ρ fin ((ml.bind open2l).bind k) := jk_cons fun H0 G0 G H σ De S p => by
  rw [R.bind_assoc] at p
  refine wS.of (ps_par hc hN hi hj hij hx hy (wA.pa _) hw hs) (he.useS S p fun ds vs G1 H1 s1 s2 s3 S1 r p1 => ?_)
  obtain ⟨z, ez, p2⟩ := R.post_ok (R.post_bind p1) (open2l_nx ds)
  obtain ⟨v, w, rfl, h1, h2⟩ := dq2 r.1 ez
  exact ⟨v, w, rfl, hk z H0 G0 G1 H1 _ De ((S1.set h1).set h2) p2⟩
theorem jk_par3 {i1 i2 i3 : Nat} {k : D × D × D → R (Out α)} {kt k2} {pt2} (he : JD X E [a, b, c] ρ ml) (hk : ∀ z : D × D × D, JK X E rest tR (((ρ.set i1 (.dat z.1)).set i2 (.dat z.2.1)).set i3 (.dat z.2.2)) fin (k z)) (hN : X.N.Nodup) (hc : X.calm = true) (hi : X.N[i1]? = some x := by rfl) (hj : X.N[i2]? = some y := by rfl) (hl : X.N[i3]? = some z := by rfl) (hij : i1 ≠ i2 := by decide) (hil : i1 ≠ i3 := by decide) (hjl : i2 ≠ i3 := by decide)
    (hx : X.env.scope.names.lookup x = some .local := by rfl) (hy : X.env.scope.names.lookup y = some .local := by rfl) (hz : X.env.scope.names.lookup z = some .local := by rfl)
    (hw : swappedStores [.Tuple [.Name x px, .Name y py, .Name z pz] kt pt] (.Tuple [a, b, c] k2 pt2) X.env = pure (some [x, y, z]) := by rfl)
    (hs : swapsWithSole [.Tuple [.Name x px, .Name y py, .Name z pz] kt pt] (.Tuple [a, b, c] k2 pt2) pos.line X.env = pure false := by rfl) :
    JK X E (.Assign [.Tuple [.Name x px, .Name y py, .Name z pz] kt pt] (.Tuple [a, b, c] k2 pt2) pos :: rest) tR ρ fin ((ml.bind open3l).bind k) := jk_cons fun H0 G0 G H σ De S p => by
  rw [R.bind_assoc] at p
  refine wS.of (ps_par3 hc hN hi hj hl hij hil hjl hx hy hz (wA.pa _) hw hs) (he.useS S p fun ds vs G1 H1 s1 s2 s3 S1 r p1 => ?_)
  obtain ⟨z, ez, p2⟩ := R.post_ok (R.post_bind p1) (open3l_nx ds)
  obtain ⟨u, v, w, rfl, h1, h2, h3⟩ := dq3 r.1 ez
  exact ⟨u, v, w, rfl, hk z H0 G0 G1 H1 _ De (((S1.set h1).set h2).set h3) p2⟩
/-- a, b = e, a tuple -/
theorem jk_unp2 {i1 i2 : Nat} {k : D × D → R (Out α)} {kt} (he : JE X E e ρ m) (hk : ∀ z : D × D, JK X E rest tR ((ρ.set i1 (.dat z.1)).set i2 (.dat z.2)) fin (k z)) (hN : X.N.Nodup) (hc : X.calm = true) (hi : X.N[i1]? = some x := by rfl) (hj : X.N[i2]? = some y := by rfl)
    (hx : L2.Loc X.env.scope x := by first | exact Or.inl rfl | exact Or.inr rfl) (hy : L2.Loc X.env.scope y := by first | exact Or.inl rfl | exact Or.inr rfl) (hf : X.fn x = true ∨ X.env.scope.names.lookup x = some .local := by first | exact .inl rfl | exact .inr rfl | assumption) (hf2 : X.fn y = true ∨ X.env.scope.names.lookup y = some .local := by first | exact .inl rfl | exact .inr rfl | assumption)
    (hs : swapsWithSole [.Tuple [.Name x px, .Name y py] kt pt] e pos.line X.env = pure false := by rfl) (hw : swappedStores [.Tuple [.Name x px, .Name y py] kt pt] e X.env = pure none := by rfl) :
    JK X E (.Assign [.Tuple [.Name x px, .Name y py] kt pt] e pos :: rest) tR ρ fin ((m.bind open2).bind k) := jk_cons fun H0 G0 G H σ De S p => by
  rw [R.bind_assoc] at p
  refine wS.of (ps_asg (wE.pe e) (pg_tup hc (pgs_cons (pg_name hN hi hx hf) (pgs_cons (pg_name hN hj hy hf2) pgs_nil))) hs hw) (he.useS S p fun d v G1 H1 s1 s2 s3 S1 r p1 => ?_)
  obtain ⟨z, ez, p2⟩ := R.post_ok (R.post_bind p1) (open2_nx d)
  cases open2_inv ez
  obtain ⟨a', xs, rfl, hx', hd⟩ := Dq.tup_inv r
  obtain ⟨v, w, rfl, h1, h2⟩ := dq2 (z := z) hd rfl
  exact ⟨a', _, rfl, Same.tup s3 hx', rfl, _, _, rfl, _, _, rfl, rfl, hk z H0 G0 G1 H1 _ De ((S1.set h1).set h2) p2⟩
theorem jk_unp3 {i1 i2 i3 : Nat} {k : D × D × D → R (Out α)} {kt} (he : JE X E e ρ m) (hk : ∀ z : D × D × D, JK X E rest tR (((ρ.set i1 (.dat z.1)).set i2 (.dat z.2.1)).set i3 (.dat z.2.2)) fin (k z)) (hN : X.N.Nodup) (hc : X.calm = true) (hi : X.N[i1]? = some x := by rfl) (hj : X.N[i2]? = some y := by rfl) (hl : X.N[i3]? = some z := by rfl)
    (hx : L2.Loc X.env.scope x := by first | exact Or.inl rfl | exact Or.inr rfl) (hy : L2.Loc X.env.scope y := by first | exact Or.inl rfl | exact Or.inr rfl) (hz : L2.Loc X.env.scope z := by first | exact Or.inl rfl | exact Or.inr rfl) (hf : X.fn x = true ∨ X.env.scope.names.lookup x = some .local := by first | exact .inl rfl | exact .inr rfl | assumption) (hf2 : X.fn y = true ∨ X.env.scope.names.lookup y = some .local := by first | exact .inl rfl | exact .inr rfl | assumption) (hf3 : X.fn z = true ∨ X.env.scope.names.lookup z = some .local := by first | exact .inl rfl | exact .inr rfl | assumption)
    (hs : swapsWithSole [.Tuple [.Name x px, .Name y py, .Name z pz] kt pt] e pos.line X.env = pure false := by rfl) (hw : swappedStores [.Tuple [.Name x px, .Name y py, .Name z pz] kt pt] e X.env = pure none := by rfl) :
    JK X E (.Assign [.Tuple [.Name x px, .Name y py, .Name z pz] kt pt] e pos :: rest) tR ρ fin ((m.bind open3).bind k) := jk_cons fun H0 G0 G H σ De S p => by
  rw [R.bind_assoc] at p
  refine wS.of (ps_asg (wE.pe e) (pg_tup hc (pgs_cons (pg_name hN hi hx hf) (pgs_cons (pg_name hN hj hy hf2) (pgs_cons (pg_name hN hl hz hf3) pgs_nil)))) hs hw) (he.useS S p fun d v G1 H1 s1 s2 s3 S1 r p1 => ?_)
  obtain ⟨z, ez, p2⟩ := R.post_ok (R.post_bind p1) (open3_nx d)
  cases open3_inv ez
  obtain ⟨a', xs, rfl, hx', hd⟩ := Dq.tup_inv r
  obtain ⟨u, v, w, rfl, h1, h2, h3⟩ := dq3 (z := z) hd rfl
  exact ⟨a', _, rfl, Same.tup s3 hx', rfl, _, _, rfl, _, _, rfl, _, _, rfl, rfl, hk z H0 G0 G1 H1 _ De (((S1.set h1).set h2).set h3) p2⟩

/-! ### y = [..] as data -/
section
variable {scope : Scope}
theorem jk_datLc {i j : Nat} {f : D → R D} {k : D → R (Out α)} (hi : JI X E (.Name x px) iter ρ mi) (he : ∀ d (s : Shared) (H' : Hp) (C : Addr) (cl : List (Str × Addr)) (fp : List Addr), JE (Bk X s H' scope C cl fp) (E00 E.T) elt (ρ.set i (.dat d)) (f d))
    (hk : ∀ d, JK X E rest tR (ρ.set j (.dat d)) fin (k d)) (hc : X.calm = true) (hN : X.N.Nodup)
    (ok : BlkOk X.N X.env.scope scope [(x, i)]) (hsw : swapsWith (.ListComp elt [⟨.Name x px, iter, [], 0⟩] scope pos) (some (.Name y py)) spos.line X.env = pure true) (hy : X.N[j]? = some y := by rfl) (hyl : X.env.scope.names.lookup y = some .local := by rfl) (hx : X.N[i]? = some x := by rfl) (hl : ∀ (s : Shared) (H' : Hp) (C : Addr) (cl : List (Str × Addr)) (fp : List Addr), L2.Loc (Bk X s H' scope C cl fp).env.scope x := by intros; first | exact Or.inl rfl | exact Or.inr rfl) (hf : ∀ (s : Shared) (H' : Hp) (C : Addr) (cl : List (Str × Addr)) (fp : List Addr), (Bk X s H' scope C cl fp).fn x = true ∨ (Bk X s H' scope C cl fp).env.scope.names.lookup x = some .local := by intros; first | exact .inr rfl | exact .inl rfl)
    (hs : ∀ x, foldedSetIterable iter X.env x = pure x := by intro _; rfl) : JK X E (.Assign [.Name y py] (.ListComp elt [⟨.Name x px, iter, [], 0⟩] scope pos) spos :: rest) tR ρ fin (((mi.bind (compD .ok (fun _ => .ok true) f)).bind lstD).bind k) :=
  jk_asgD (ps_setLc (own := [(x, i)]) (g := gName i) (tt := tYes) (te := wEB X scope elt) hc hN hy hyl hsw (wI.pi _ iter) ok (fun s H C cl fp => pg_name hN hx (hl s H C cl fp) (hf s H C cl fp)) (fun _ _ _ _ _ => pts_nil) (fun s H C cl fp => wEB.pe s H C cl fp) hs)
    ((EvN.data (EvN.cong (evLc hi (ctg1 i) (fun _ => tYes.ev) fun d => wEB.ev (he d)) (compO_eq _ _ _ _))).cong (by rw [R.bind_assoc]; rfl)) hk
theorem jk_datLcIf {i j : Nat} {f : D → R D} {t : D → R Bool} {k : D → R (Out α)} (hi : JI X E (.Name x px) iter ρ mi) (ht : ∀ d (s : Shared) (H' : Hp) (C : Addr) (cl : List (Str × Addr)) (fp : List Addr), JT (Bk X s H' scope C cl fp) (E00 E.T) c (ρ.set i (.dat d)) (t d)) (he : ∀ d (s : Shared) (H' : Hp) (C : Addr) (cl : List (Str × Addr)) (fp : List Addr), JE (Bk X s H' scope C cl fp) (E00 E.T) elt (ρ.set i (.dat d)) (f d))
    (hk : ∀ d, JK X E rest tR (ρ.set j (.dat d)) fin (k d)) (hc : X.calm = true) (hN : X.N.Nodup)
    (ok : BlkOk X.N X.env.scope scope [(x, i)]) (hsw : swapsWith (.ListComp elt [⟨.Name x px, iter, [c], 0⟩] scope pos) (some (.Name y py)) spos.line X.env = pure true) (hy : X.N[j]? = some y := by rfl) (hyl : X.env.scope.names.lookup y = some .local := by rfl) (hx : X.N[i]? = some x := by rfl) (hl : ∀ (s : Shared) (H' : Hp) (C : Addr) (cl : List (Str × Addr)) (fp : List Addr), L2.Loc (Bk X s H' scope C cl fp).env.scope x := by intros; first | exact Or.inl rfl | exact Or.inr rfl) (hf : ∀ (s : Shared) (H' : Hp) (C : Addr) (cl : List (Str × Addr)) (fp : List Addr), (Bk X s H' scope C cl fp).fn x = true ∨ (Bk X s H' scope C cl fp).env.scope.names.lookup x = some .local := by intros; first | exact .inr rfl | exact .inl rfl)
    (hs : ∀ x, foldedSetIterable iter X.env x = pure x := by intro _; rfl) : JK X E (.Assign [.Name y py] (.ListComp elt [⟨.Name x px, iter, [c], 0⟩] scope pos) spos :: rest) tR ρ fin (((mi.bind (compD .ok t f)).bind lstD).bind k) :=
  jk_asgD (ps_setLc (own := [(x, i)]) (g := gName i) (tt := wTB X scope c) (te := wEB X scope elt) hc hN hy hyl hsw (wI.pi _ iter) ok (fun s H C cl fp => pg_name hN hx (hl s H C cl fp) (hf s H C cl fp)) (fun s H C cl fp => pts_ok s H C cl fp) (fun s H C cl fp => wEB.pe s H C cl fp) hs)
    ((EvN.data (EvN.cong (evLc hi (ctg1 i) (fun d => wTB.ev (ht d)) fun d => wEB.ev (he d)) (compO_eq _ _ _ _))).cong (by rw [R.bind_assoc]; rfl)) hk
end
end
/-! ### the law's end -/
def spLaw (T : Tb) (K : PySem.W.Frag) : Sp := fun vs H Q _ => ∃ (a : Addr) (ns : List Int), vs = [.ref a] ∧ LamX.Tabs T H ∧ SqL K H a (ns.map V.int) ∧ ns.length ≤ 63 ∧ ∀ H', Q (.bl true) H'
theorem ints_dq {K : PySem.W.Frag} {G : Hp} : ∀ ns : List Int, DqAll K G (ns.map V.int) (ns.map PyData.int)
  | [] => .nil
  | n :: r => .cons (.int n) (ints_dq r)
theorem imp_law {T : Tb} {K : PySem.W.Frag} {CA : XC → Addr} {F : List Slot → R D} (hT : ∀ ns : List Int, ns.length ≤ 63 → F [.bor (.lst (ns.map PyData.int))] = .ok (.bool true)) : ∀ vs H Q E, spLaw T K vs H Q E → spD T K CA 1 F vs H Q E := by
  rintro vs H Q E ⟨a, ns, rfl, tb, hS, hl, q⟩
  refine ⟨rfl, tb, fun _ => none, [.bor (.lst (ns.map PyData.int))], (fun b ps z => by cases z), fun b o z => (by cases z), .cons ⟨a, rfl, _, hS, ints_dq ns⟩ .nil, ?_⟩
  rw [hT ns hl]
  intro v G' H' _ _ _ h
  cases h.bl_inv
  exact q H'
theorem walk_ofX {l : PySem.W.OpenLaw} {k : Nat} {q : Program} {loose : List Str} {XP : (Str → Option Value) → Heap → Prop} {YP : World → Heap → Prop} {d : DefRec} {K : Params → PySem.W.Frag}
    (hn : l.most = some 63) (hdf : d.params.defaults = []) (hr : Room k callerA)
    (hY : ∀ (w : World) (h : Heap), YP w h → (K w.params).In h)
    (F : ∀ (w : World) (mg : Str → Option Value) (fa : Addr) (h : Heap), (K w.params).In h → h.Ns mainGlobals mg → XP mg h → mg d.name = some (.ref fa) →
      ∃ fd : FuncData, (∀ (s : Shared) (u : Value), BindsTo s fd ⟨[u], []⟩ [("script", u)]) ∧
        ∀ base : Heap, (K w.params).In base → base.Ns mainGlobals mg → FnOk l.prog w (K w.params) mg base (L2.CX l.prog w) k fa fd ["script"] (spLaw [] (K w.params))) :
    PySem.W.WalkO q loose XP YP l.row.toRowW d [] (fun f vs => PySem.call f vs) := by
  refine Att.attach_call hn hdf fun w s0 s1 mg mb fa o pm cd doc a vs ns G Y ho hd hcd hmg hobj hints hlen hg => ?_
  have KX := hY w _ Y
  obtain ⟨fd, hb, hF⟩ := F w mg fa _ KX G.T.g G.X hmg
  exact law_call KX G.T.g G.T.b G.T.builtins G.T.nolimit hg hobj hints (Nat.le_trans hlen (by decide)) hr hF hb (fun H hO hS => ⟨a, ns, rfl, (fun p hp => nomatch hp), hS, hlen, fun _ => rfl⟩) fun H e s' h => by
    obtain ⟨_, _, _, _, _, _, _, _, _, _, _, _, z⟩ := h
    exact z
theorem loose_int {p : Program} {lv : List (Str × PySem.W.WData)} {mg : Str → Option Value} {h : Heap} {x : Str} {i : Int} (X : PySem.W.XL p lv mg h) (hm : (x, PySem.W.WData.int i) ∈ lv) : ∃ t, mg x = some (.int i t) := by
  obtain ⟨v, e, r⟩ := X.2.val _ hm
  cases r
  exact ⟨_, e⟩
end Br
namespace Br
open PySem PySem.Spec PyProof.Rows L2

/-! ### dicts -/
def keyD : D → Option Key
  | .int i => some (.inl i)
  | .str x => some (.inr x)
  | _ => none
def valD (kvs : List (Key × D)) (k : Key) : Option D := (kvs.find? fun kv => decide (kv.1 = k)).map (·.2)
def putD (kvs : List (Key × D)) (k : Key) (v : D) : List (Key × D) :=
  if (kvs.any fun kv => decide (kv.1 = k)) = true then kvs.map (fun kv => if kv.1 = k then (kv.1, v) else kv) else kvs ++ [(k, v)]
def obGet : Ob → D → Option D
  | .dic kvs, d => (keyD d).bind (valD kvs)
  | _, _ => none
def obGet1 : Ob → D → Option D
  | .dic kvs, d => (keyD d).map fun k => (valD kvs k).getD .none
  | _, _ => none
def obGet2 : Ob → D → D → Option D
  | .dic kvs, d, x => (keyD d).map fun k => (valD kvs k).getD x
  | _, _, _ => none
def obIn (neg : Bool) : D → Ob → Option D
  | d, .dic kvs => (keyD d).map fun k => .bool (if neg then !(valD kvs k).isSome else (valD kvs k).isSome)
  | _, _ => none
def dPut (kvs : List (Key × D)) (k v : D) : R (List (Key × D)) := match keyD k with
  | some key => if lineOk (kvs.length + 1) then .ok (putD kvs key v) else .stuck
  | none => .stuck
theorem keyD_v {K : PySem.W.Frag} {H : Hp} {v : V} {d : D} {k : Key} (h : Dq K H v d) (e : keyD d = some k) : v = kV k := by
  cases h <;> simp only [keyD] at e <;> cases e <;> rfl
theorem kd_val {K : PySem.W.Frag} {G : Hp} {us : List (Key × V)} {kvs : List (Key × D)} (h : KD K G us kvs) (k : Key) : (valD kvs k = none ∧ valV us k = none) ∨ ∃ d v, valD kvs k = some d ∧ valV us k = some v ∧ Dq K G v d := by
  induction h with
  | nil => exact .inl ⟨rfl, rfl⟩
  | cons r t ih =>
    rename_i p q ps qs
    obtain ⟨e, hq⟩ := r
    by_cases hk : p.1 = k
    · refine .inr ⟨q.2, p.2, ?_, ?_, hq⟩
      · unfold valD; rw [List.find?_cons_of_pos (by rw [← e]; exact decide_eq_true hk)]; rfl
      · unfold valV; rw [List.find?_cons_of_pos (by exact decide_eq_true hk)]; rfl
    · have n1 : valD (q :: qs) k = valD qs k := by unfold valD; rw [List.find?_cons_of_neg (by rw [← e]; simpa using hk)]
      have n2 : valV (p :: ps) k = valV ps k := by unfold valV; rw [List.find?_cons_of_neg (by simpa using hk)]
      rw [n1, n2]
      exact ih
theorem kd_any {K : PySem.W.Frag} {G : Hp} {us : List (Key × V)} {kvs : List (Key × D)} (h : KD K G us kvs) (k : Key) : (us.any fun kv => decide (kv.1 = k)) = kvs.any fun kv => decide (kv.1 = k) := by
  induction h with
  | nil => rfl
  | cons r t ih => rw [List.any_cons, List.any_cons, ih, r.1]
theorem kd_map {K : PySem.W.Frag} {G : Hp} {us : List (Key × V)} {kvs : List (Key × D)} (h : KD K G us kvs) {k : Key} {v : V} {d : D} (hv : Dq K G v d) : KD K G (us.map fun kv => if kv.1 = k then (kv.1, v) else kv) (kvs.map fun kv => if kv.1 = k then (kv.1, d) else kv) := by
  induction h with
  | nil => exact .nil
  | cons r t ih =>
    rename_i p q ps qs
    refine .cons ?_ ih
    dsimp only
    by_cases hk : p.1 = k
    · rw [if_pos hk, if_pos (by rw [← r.1]; exact hk)]; exact ⟨r.1, hv⟩
    · rw [if_neg hk, if_neg (by rw [← r.1]; exact hk)]; exact r
theorem kd_append {K : PySem.W.Frag} {G : Hp} {us ws : List (Key × V)} {kvs ls : List (Key × D)} (h : KD K G us kvs) (h' : KD K G ws ls) : KD K G (us ++ ws) (kvs ++ ls) := by
  induction h with
  | nil => exact h'
  | cons r t ih => exact .cons r ih
theorem kd_put {K : PySem.W.Frag} {G : Hp} {us : List (Key × V)} {kvs : List (Key × D)} (h : KD K G us kvs) {k : Key} {v : V} {d : D} (hv : Dq K G v d) : KD K G (putK us k v) (putD kvs k d) := by
  unfold putK putD
  rw [kd_any h k]
  split
  · exact kd_map h hv
  · exact kd_append h (.cons ⟨rfl, hv⟩ .nil)
theorem kd_len {K : PySem.W.Frag} {G : Hp} {us : List (Key × V)} {kvs : List (Key × D)} (h : KD K G us kvs) : us.length = kvs.length := Paired.length h
section
variable {X : Cx} {E : XW} {ρ : Rho} {e a b c tg iter elt : Expr} {es : List Expr} {st : Stmt} {sts rest body : List Stmt} {tR : TS} {α β : Type} {fin : α → Rho} {m ma mb mc : R D} {mt : R Bool} {ml mi : R (List D)} {mb' mo' : R Ob} {mo : R (Out α)} {pos pos' p2 px py pz pt spos apos cpos : Pos} {x y z : Str} {k : Nat}
theorem JB.dicUse {kvs : List (Key × D)} (ha : JB X E a ρ (.ok (.dic kvs))) {H0 G0 G H : Hp} {σ : L2.St} {Q : VK} (S : Stt E.T X.K H0 G0 G H σ ρ)
    (h : ∀ (q : Addr) (us : List (Key × V)) (G' H' : Hp), Grow E.T H H' → Ext G H G' → Same G' H' → Stt E.T X.K H0 G0 G' H' σ ρ → H' q = some (.dK us) → KD X.K G' us kvs → Q (.ref q) H') : wE X a σ H Q :=
  ha H0 G0 G H σ Q S fun v G' H' s1 s2 s3 r => by
    obtain ⟨q, rfl, us, hu, hd⟩ := r
    exact h q us G' H' s1 s2 s3 (S.grow s1 s2 s3) hu hd
theorem lift_x {γ : Type} {m : R γ} {q : γ → Prop} {H H1 : Hp} {σ : L2.St} (s1 : Grow E.T H H1) (p : m.post q (fun c => ∀ H', Grow E.T H H' → E c σ H')) : m.post q (fun c => ∀ H', Grow E.T H1 H' → E c σ H') := R.post_mono p (fun _ _ z => z) fun c _ z H' s => z H' (s1.trans s)
/-- d[k] -/
theorem je_dget {kvs : List (Key × D)} (hr : Room k X.A) (ha : JB X E a ρ (.ok (.dic kvs))) (hb : JE X E b ρ mb) (hs : NoSl b := by intro _ _; rfl) : JE X E (.Subscript a b pos) ρ (mb.bind fun y => R.opt (obGet (.dic kvs) y)) :=
  Ev.wE_of (pe_dget (hu_of hr) (wE.pe a) (wE.pe b) hs) fun H0 G0 G H σ Q S p => by
    refine JB.dicUse ha S fun q' us G1 H1 s1 s2 s3 S1 hu hd => ?_
    refine hb.use S1 (lift_x s1 p) fun d y G2 H2 t1 t2 t3 S2 r2 p2 => ?_
    obtain ⟨z, ez, q⟩ := R.opt_post p2
    cases ek : keyD d with
    | none => simp only [obGet, ek] at ez; cases ez
    | some key =>
      simp only [obGet, ek] at ez
      cases keyD_v r2 ek
      rcases kd_val (kd_mono t2.same hd) key with ⟨n1, _⟩ | ⟨d', v', e1, e2, hq⟩
      · rw [Option.bind_some, n1] at ez; cases ez
      · rw [Option.bind_some, e1] at ez
        cases ez
        exact ⟨q', v', rfl, by rw [← e2]; exact DGet.k (t1 _ _ hu), q v' G2 H2 (s1.trans t1) (s2.trans s1 t2) t3 hq⟩
theorem tDInD {kvs : List (Key × D)} (ha : JE X E a ρ ma) (hb : JB X E b ρ (.ok (.dic kvs))) : Ev X.K E (tDIn (wE X a) (wE X b)) ρ (ma.bind fun x => R.opt (obIn false x (.dic kvs))) (repE X.K) := fun H0 G0 G H σ Q S p => by
  refine ha.use S p fun d y G1 H1 s1 s2 s3 S1 r p1 => ?_
  refine JB.dicUse hb S1 fun q' us G2 H2 t1 t2 t3 S2 hu hd => ?_
  obtain ⟨z, ez, q⟩ := R.opt_post p1
  cases ek : keyD d with
  | none => simp only [obIn, ek] at ez; cases ez
  | some key =>
    simp only [obIn, ek, Option.map_some] at ez
    cases ez
    cases keyD_v r ek
    refine ⟨q', valV us key, rfl, DGet.k hu, q (.bl _) G2 H2 (s1.trans t1) (s2.trans s1 t2) t3 ?_⟩
    rcases kd_val hd key with ⟨n1, n2⟩ | ⟨d', v', e1, e2, hq⟩
    · rw [n1, n2]; exact .bl _
    · rw [e1, e2]; exact .bl _
theorem tDNotInD {kvs : List (Key × D)} (ha : JE X E a ρ ma) (hb : JB X E b ρ (.ok (.dic kvs))) : Ev X.K E (tDNotIn (wE X a) (wE X b)) ρ (ma.bind fun x => R.opt (obIn true x (.dic kvs))) (repE X.K) := fun H0 G0 G H σ Q S p => by
  refine ha.use S p fun d y G1 H1 s1 s2 s3 S1 r p1 => ?_
  refine JB.dicUse hb S1 fun q' us G2 H2 t1 t2 t3 S2 hu hd => ?_
  obtain ⟨z, ez, q⟩ := R.opt_post p1
  cases ek : keyD d with
  | none => simp only [obIn, ek] at ez; cases ez
  | some key =>
    simp only [obIn, ek, Option.map_some] at ez
    cases ez
    cases keyD_v r ek
    refine ⟨q', valV us key, rfl, DGet.k hu, q (.bl _) G2 H2 (s1.trans t1) (s2.trans s1 t2) t3 ?_⟩
    rcases kd_val hd key with ⟨n1, n2⟩ | ⟨d', v', e1, e2, hq⟩
    · rw [n1, n2]; exact .bl _
    · rw [e1, e2]; exact .bl _
section
variable {kvs : List (Key × D)}
theorem je_din (hr : Room k X.A) (ha : JE X E a ρ ma) (hb : JB X E b ρ (.ok (.dic kvs))) (hm : behindInMarks .In b = false := by rfl) : JE X E (.Compare a [.In] [b] pos) ρ (ma.bind fun x => R.opt (obIn false x (.dic kvs))) :=
  Ev.wE_of (pe_cmp (pc_din (hu_of hr) (wE.pe a) (wE.pe b)) hm) (tDInD ha hb)
theorem je_dnotin (hr : Room k X.A) (ha : JE X E a ρ ma) (hb : JB X E b ρ (.ok (.dic kvs))) (hm : behindInMarks .NotIn b = false := by rfl) : JE X E (.Compare a [.NotIn] [b] pos) ρ (ma.bind fun x => R.opt (obIn true x (.dic kvs))) :=
  Ev.wE_of (pe_cmp (pc_dnotin (hu_of hr) (wE.pe a) (wE.pe b)) hm) (tDNotInD ha hb)
theorem jt_din (hr : Room k X.A) (ha : JE X E a ρ ma) (hb : JB X E b ρ (.ok (.dic kvs))) (hm : behindInMarks .In b = false := by rfl) : JT X E (.Compare a [.In] [b] pos) ρ ((ma.bind fun x => R.opt (obIn false x (.dic kvs))).bind asB) :=
  Ev.wT_of (pt_cmp (pc_din (hu_of hr) (wE.pe a) (wE.pe b)) hm) (Ev.test (tDInD ha hb))
theorem jt_dnotin (hr : Room k X.A) (ha : JE X E a ρ ma) (hb : JB X E b ρ (.ok (.dic kvs))) (hm : behindInMarks .NotIn b = false := by rfl) : JT X E (.Compare a [.NotIn] [b] pos) ρ ((ma.bind fun x => R.opt (obIn true x (.dic kvs))).bind asB) :=
  Ev.wT_of (pt_cmp (pc_dnotin (hu_of hr) (wE.pe a) (wE.pe b)) hm) (Ev.test (tDNotInD ha hb))
/-- d.get(k), d.get(k, x) -/
theorem je_dgetm1 (hr : Room k X.A) (ha : JB X E a ρ (.ok (.dic kvs))) (hb : JE X E b ρ mb) (hm : M1 X a "get" apos b cpos := by exact ⟨rfl, rfl, rfl, rfl⟩) : JE X E (.Call (.Attribute a "get" apos) [b] [] cpos) ρ (mb.bind fun y => R.opt (obGet1 (.dic kvs) y)) :=
  Ev.wE_of (pe_dget1 (hu_of hr) (wE.pe a) (wE.pe b) hm) fun H0 G0 G H σ Q S p => by
    refine JB.dicUse ha S fun q' us G1 H1 s1 s2 s3 S1 hu hd => ⟨q', rfl, .inl ⟨us, .inl hu⟩, ?_⟩
    refine hb.use S1 (lift_x s1 p) fun d y G2 H2 t1 t2 t3 S2 r2 p2 => ?_
    obtain ⟨z, ez, q⟩ := R.opt_post p2
    cases ek : keyD d with
    | none => simp only [obGet1, ek] at ez; cases ez
    | some key =>
      simp only [obGet1, ek, Option.map_some] at ez
      cases ez
      cases keyD_v r2 ek
      refine ⟨valV us key, DGet.k (t1 _ _ hu), ?_⟩
      rcases kd_val (kd_mono t2.same hd) key with ⟨n1, n2⟩ | ⟨d', v', e1, e2, hq⟩
      · rw [n2]
        refine q .non G2 H2 (s1.trans t1) (s2.trans s1 t2) t3 ?_
        rw [n1]; exact .non
      · rw [e2]
        refine q v' G2 H2 (s1.trans t1) (s2.trans s1 t2) t3 ?_
        rw [e1]; exact hq
theorem je_dgetm2 (hr : Room k X.A) (ha : JB X E a ρ (.ok (.dic kvs))) (hb : JE X E b ρ mb) (hc : JE X E c ρ mc) (hm : M2 X a "get" apos b c cpos := by exact ⟨rfl, rfl, rfl, rfl⟩) : JE X E (.Call (.Attribute a "get" apos) [b, c] [] cpos) ρ (mb.bind fun y => mc.bind fun z => R.opt (obGet2 (.dic kvs) y z)) :=
  Ev.wE_of (pe_dget2 (hu_of hr) (wE.pe a) (wE.pe b) (wE.pe c) hm) fun H0 G0 G H σ Q S p => by
    refine JB.dicUse ha S fun q' us G1 H1 s1 s2 s3 S1 hu hd => ⟨q', rfl, .inl ⟨us, .inl hu⟩, ?_⟩
    refine hb.use S1 (lift_x s1 p) fun d y G2 H2 t1 t2 t3 S2 r2 p2 => ?_
    refine hc.use S2 p2 fun d3 y3 G3 H3 u1 u2 u3 S3 r3 p3 => ?_
    obtain ⟨z, ez, q⟩ := R.opt_post p3
    cases ek : keyD d with
    | none => simp only [obGet2, ek] at ez; cases ez
    | some key =>
      simp only [obGet2, ek, Option.map_some] at ez
      cases ez
      cases keyD_v r2 ek
      refine ⟨valV us key, DGet.k (u1 _ _ (t1 _ _ hu)), ?_⟩
      have sH := (s1.trans t1).trans u1
      have sG : Ext G H G3 := (s2.trans s1 t2).trans (s1.trans t1) u2
      rcases kd_val (kd_mono u2.same (kd_mono t2.same hd)) key with ⟨n1, n2⟩ | ⟨d', v', e1, e2, hq⟩
      · rw [n2]
        refine q y3 G3 H3 sH sG u3 ?_
        rw [n1]; exact r3
      · rw [e2]
        refine q v' G3 H3 sH sG u3 ?_
        rw [e1]; exact hq
/-- d[k] = v, d one's own -/
theorem jk_dput {i : Nat} {kk : List (Key × D) → R (Out α)} {p1 : Pos} (hi : ρ[i]? = some (.own (.dic kvs))) (hr : Room k X.A) (hv : JE X E c ρ mc) (hb : JE X E b ρ mb) (hk : ∀ l, JK X E rest tR (ρ.set i (.own (.dic l))) fin (kk l))
    (hN : X.N[i]? = some x := by rfl) (hvis : Vis X.env.scope x := by first | exact Or.inl rfl | exact Or.inr (Or.inl rfl) | exact Or.inr (Or.inr rfl)) (hd : (x == ("__debug__" : Str)) = false := by decide)
    (hcd : (x == ("__classdict__" : Str)) = false := by decide) (hs : swapsWith c (some (.Subscript (.Name x p1) b pos')) pos.line X.env = pure false := by rfl) :
    JK X E (.Assign [.Subscript (.Name x p1) b pos'] c pos :: rest) tR ρ fin (mc.bind fun d => mb.bind fun y => (dPut kvs y d).bind kk) := jk_cons fun H0 G0 G H σ De S p => by
  refine wS.of (ps_dput (hu_of hr) (pe_var hN hvis hd hcd) (wE.pe b) (wE.pe c) hs) ?_
  refine hv.useS S p fun d v G1 H1 s1 s2 s3 S1 r p1 => ?_
  obtain ⟨w', e1, q, e2, ⟨us, hu, hds⟩, gq, zq⟩ := S1.slots i _ hi
  subst e2
  refine ⟨_, e1, ?_⟩
  refine hb.useS S1 p1 fun d2 y G2 H2 t1 t2 t3 S2 r2 p2 => ?_
  unfold dPut at p2
  cases ek : keyD d2 with
  | none => rw [ek] at p2; exact p2.elim
  | some key =>
    rw [ek] at p2
    cases keyD_v r2 ek
    dsimp only at p2
    split at p2
    · rename_i hl
      have hl' := lineOk_iff.mp hl
      refine ⟨q, _, rfl, DPut.k (t1 _ _ hu) (by rw [kd_len hds]; omega), ?_⟩
      exact hk _ H0 G0 G2 _ σ De (S2.write hi e1 ⟨_, upd_same, kd_put (kd_mono t2.same hds) (dp_mono t2.same r)⟩) p2
    · exact p2.elim
end

/-! ### sorted(d), ints -/
def insI (a : Int) : List Int → List Int
  | [] => [a]
  | b :: r => if a ≤ b then a :: b :: r else b :: insI a r
def sortI : List Int → List Int
  | [] => []
  | a :: r => insI a (sortI r)
theorem insI_perm (a : Int) : ∀ l, (insI a l).Perm (a :: l)
  | [] => .refl _
  | b :: r => by
    unfold insI
    split
    · exact .refl _
    · exact ((insI_perm a r).cons b).trans (List.Perm.swap a b r)
theorem sortI_perm : ∀ l, (sortI l).Perm l
  | [] => .refl _
  | a :: r => (insI_perm a _).trans ((sortI_perm r).cons a)
theorem insI_sorted (a : Int) : ∀ l, l.Pairwise (· ≤ ·) → (insI a l).Pairwise (· ≤ ·)
  | [], _ => by simp [insI]
  | b :: r, h => by
    unfold insI
    split
    · rename_i hab
      refine List.pairwise_cons.mpr ⟨fun c hc => ?_, h⟩
      rcases List.mem_cons.mp hc with rfl | hc
      · exact hab
      · exact Int.le_trans hab ((List.pairwise_cons.mp h).1 c hc)
    · rename_i hab
      refine List.pairwise_cons.mpr ⟨fun c hc => ?_, insI_sorted a r (List.pairwise_cons.mp h).2⟩
      rcases List.mem_cons.mp ((insI_perm a r).mem_iff.mp hc) with rfl | hc
      · omega
      · exact (List.pairwise_cons.mp h).1 c hc
theorem sortI_sorted : ∀ l, (sortI l).Pairwise (· ≤ ·)
  | [] => .nil
  | a :: r => insI_sorted a _ (sortI_sorted r)
theorem sorted_unique : ∀ {l l' : List Int}, l.Perm l' → l.Pairwise (· ≤ ·) → l'.Pairwise (· ≤ ·) → l = l'
  | [], l', h, _, _ => by simpa using h.symm
  | a :: r, l', h, s1, s2 => by
    cases l' with
    | nil => simpa using h
    | cons b r' =>
      have ha : a ∈ b :: r' := h.mem_iff.mp List.mem_cons_self
      have hb : b ∈ a :: r := h.mem_iff.mpr List.mem_cons_self
      have e : a = b := by
        rcases List.mem_cons.mp ha with e | ha
        · exact e
        · rcases List.mem_cons.mp hb with e | hb
          · exact e.symm
          · exact Int.le_antisymm ((List.pairwise_cons.mp s1).1 b hb) ((List.pairwise_cons.mp s2).1 a ha)
      subst e
      rw [sorted_unique (List.Perm.cons_inv h) (List.pairwise_cons.mp s1).2 (List.pairwise_cons.mp s2).2]
def intKeys : List (Key × D) → Option (List Int)
  | [] => some []
  | (.inl i, _) :: r => (intKeys r).map (i :: ·)
  | _ => none
theorem intKeys_of {K : PySem.W.Frag} {G : Hp} : ∀ {us : List (Key × V)} {kvs : List (Key × D)} {ks : List Int}, KD K G us kvs → intKeys kvs = some ks → us.map (·.1) = ks.map Sum.inl
  | _, _, ks, .nil, e => by cases e; rfl
  | (k1, v1) :: us, (k2, d2) :: kvs, ks, .cons r t, e => by
    obtain ⟨e1, _⟩ := r
    dsimp only at e1
    subst e1
    cases k1 with
    | inr x => cases e
    | inl i =>
      simp only [intKeys] at e
      cases q : intKeys kvs with
      | none => rw [q] at e; cases e
      | some ks' =>
        rw [q] at e
        cases e
        rw [List.map_cons, intKeys_of t q]
        rfl
def sortKeys (kvs : List (Key × D)) : R (List D) := match intKeys kvs with
  | some ks => if ks.length < 64 then .ok ((sortI ks).map .int) else .stuck
  | none => .stuck
theorem ln_sortedD {kvs : List (Key × D)} {p : Pos} (hm : X.mg "sorted" = none) (hc : X.calm = true) (h : JB X E e ρ (.ok (.dic kvs))) (hg : Gl X "sorted" := by rfl) (he : noStar e = true := by rfl) : JN X E (.Call (.Name "sorted" p) [e] [] pos) ρ ((sortKeys kvs).bind lstOb) :=
  EvN.wE_of (pe_callB (call_sortedDI hc) hg hm (by decide +kernel) (pa_cons (wE.pe e) pa_nil (star_cons he)) (by decide) (by decide) (star_cons he) rfl) fun H0 G0 G H σ Q S p => by
    refine JB.dicUse h S fun q' us G1 H1 s1 s2 s3 S1 hu hd => ?_
    unfold sortKeys at p
    cases ek : intKeys kvs with
    | none => rw [ek] at p; exact p.elim
    | some ks =>
      rw [ek] at p
      dsimp only at p
      split at p
      · rename_i hl
        refine ⟨q', us, ks, rfl, .inl hu, intKeys_of hd ek, hl, fun ys l hp hs hl => ?_⟩
        have ey : ys = sortI ks := sorted_unique (hp.trans (sortI_perm ks).symm) hs (sortI_sorted ks)
        subst ey
        exact p l G1 _ (s1.trans (grow_new hl)) s2 (s3.trans (same_new hl)) (s1.free hl) (s3.free hl) ⟨_, upd_same, ints_dq _⟩
      · exact p.elim
end
end Br
namespace Br
open PySem PySem.Spec PyProof.Rows L2
section
variable {X : Cx} {E : XW} {ρ : Rho} {e a b c tg iter elt : Expr} {es : List Expr} {st : Stmt} {sts rest body : List Stmt} {tR : TS} {α β : Type} {fin : α → Rho} {m ma mb mc : R D} {mt : R Bool} {ml mi : R (List D)} {mo : R (Out α)} {pos pos' p2 px py pz pt spos apos cpos : Pos} {x y z : Str} {k : Nat}

/-! ### int(x), str(x) -/
def pyIntD : List D → Option D
  | [.int i] => some (.int i)
  | [.bool k] => some (.int (if k then 1 else 0))
  | [.str a] => if decide (a.length ≤ 640) then (PySem.intText? a).map .int else none
  | _ => none
def rIntD : List V → Hp → VK → Prop := fun xs H Q => ((∃ i, xs = [.int i] ∧ Q (.int i) H) ∨ ∃ k, xs = [.bl k] ∧ Q (.int (if k then 1 else 0)) H) ∨ ∃ a n, xs = [.str a] ∧ PySem.intText? a = some n ∧ a.length ≤ 640 ∧ Q (.int n) H
theorem call_intD : CallR X (.type "int") rIntD := CallR.or call_int1 call_int_str
theorem ok_intD : CkH X.K rIntD pyIntD := fun G H xs ds z Q s h ez q => by
  cases h with
  | nil => cases ez
  | cons h1 h2 =>
    cases h2 with
    | cons _ _ => simp [pyIntD] at ez
    | nil =>
      cases h1 <;> simp only [pyIntD] at ez <;> try cases ez
      · exact .inl (.inr ⟨_, rfl, Endv.flat s q (.int _)⟩)
      · exact .inl (.inl ⟨_, rfl, Endv.flat s q (.int _)⟩)
      · rename_i x
        split at ez
        · rename_i hl
          cases e : PySem.intText? x with
          | none => rw [e] at ez; cases ez
          | some n =>
            rw [e] at ez
            cases ez
            exact .inr ⟨x, n, rfl, e, of_decide_eq_true hl, Endv.flat s q (.int _)⟩
        · cases ez
def pyStrD : List D → Option D
  | [.int i] => if decide (i.natAbs.log2 < 1920) then some (.str (toString i)) else none
  | _ => none
theorem ok_strD : CkH X.K (fun xs H Q => ∃ i, xs = [.int i] ∧ i.natAbs.log2 < 1920 ∧ Q (.str (toString i)) H) pyStrD := fun G H xs ds z Q s h ez q => by
  cases h with
  | nil => cases ez
  | cons h1 h2 =>
    cases h2 with
    | cons _ _ => simp [pyStrD] at ez
    | nil =>
      cases h1 <;> simp only [pyStrD] at ez <;> try cases ez
      split at ez
      · rename_i hl
        cases ez
        exact ⟨_, rfl, of_decide_eq_true hl, Endv.flat s q (.str _)⟩
      · cases ez
theorem call_strD : CallR X (.type "str") (fun xs H Q => ∃ i, xs = [.int i] ∧ i.natAbs.log2 < 1920 ∧ Q (.str (toString i)) H) := call_str_int
/-! ### max, min of a list of ints -/
def maxI : List Int → Int
  | [] => 0
  | [a] => a
  | a :: r => if maxI r ≤ a then a else maxI r
theorem maxI_mem : ∀ l : List Int, l ≠ [] → maxI l ∈ l ∧ ∀ y ∈ l, y ≤ maxI l
  | [], h => absurd rfl h
  | [a], _ => ⟨List.mem_cons_self, fun y hy => by rw [List.mem_singleton.mp hy]; exact Int.le_refl _⟩
  | a :: b :: r, _ => by
    have ih := maxI_mem (b :: r) (by simp)
    have e : maxI (a :: b :: r) = if maxI (b :: r) ≤ a then a else maxI (b :: r) := rfl
    rw [e]
    split
    · rename_i h
      refine ⟨List.mem_cons_self, fun y hy => ?_⟩
      rcases List.mem_cons.mp hy with rfl | hy
      · exact Int.le_refl _
      · exact Int.le_trans (ih.2 y hy) h
    · rename_i h
      refine ⟨List.mem_cons_of_mem _ ih.1, fun y hy => ?_⟩
      rcases List.mem_cons.mp hy with rfl | hy
      · omega
      · exact ih.2 y hy
def minI (l : List Int) : Int := -(maxI (l.map (fun i => -i)))
theorem minI_mem (l : List Int) (h : l ≠ []) : minI l ∈ l ∧ ∀ y ∈ l, minI l ≤ y := by
  have ih := maxI_mem (l.map (fun i => -i)) (by simpa using h)
  obtain ⟨h1, h2⟩ := ih
  obtain ⟨z, hz, ez⟩ := List.mem_map.mp h1
  have e : minI l = z := by unfold minI; omega
  rw [e]
  refine ⟨hz, fun y hy => ?_⟩
  have := h2 (-y) (List.mem_map_of_mem hy)
  omega
def pyMax : List D → Option D
  | [.list ds] => (intsD ds).bind fun ns => if ns.isEmpty then none else some (.int (maxI ns))
  | _ => none
def pyMin : List D → Option D
  | [.list ds] => (intsD ds).bind fun ns => if ns.isEmpty then none else some (.int (minI ns))
  | _ => none
theorem ok_max : CkH X.K (rMax X.K) pyMax := fun G H xs ds z Q s h ez q => by
  cases h with
  | nil => cases ez
  | cons h1 h2 =>
    cases h2 with
    | cons _ _ => simp [pyMax] at ez
    | nil =>
      cases h1 <;> simp only [pyMax] at ez <;> try cases ez
      rename_i a ys es hx hd
      cases e : intsD es with
      | none => rw [e] at ez; cases ez
      | some ns =>
        rw [e, Option.bind_some] at ez
        split at ez
        · cases ez
        · rename_i hne
          cases ez
          have := ints_of hd e
          subst this
          have hn : ns ≠ [] := by simpa using hne
          have hm := maxI_mem ns hn
          refine ⟨_, ns, rfl, hx, List.length_pos_iff.mpr hn, fun m h1 h2 => ?_⟩
          have : m = maxI ns := Int.le_antisymm (hm.2 m h1) (h2 _ hm.1)
          subst this
          exact Endv.flat s q (.int _)
theorem ok_min : CkH X.K (rMin X.K) pyMin := fun G H xs ds z Q s h ez q => by
  cases h with
  | nil => cases ez
  | cons h1 h2 =>
    cases h2 with
    | cons _ _ => simp [pyMin] at ez
    | nil =>
      cases h1 <;> simp only [pyMin] at ez <;> try cases ez
      rename_i a ys es hx hd
      cases e : intsD es with
      | none => rw [e] at ez; cases ez
      | some ns =>
        rw [e, Option.bind_some] at ez
        split at ez
        · cases ez
        · rename_i hne
          cases ez
          have := ints_of hd e
          subst this
          have hn : ns ≠ [] := by simpa using hne
          have hm := minI_mem ns hn
          refine ⟨_, ns, rfl, hx, List.length_pos_iff.mpr hn, fun m h1 h2 => ?_⟩
          have : m = minI ns := Int.le_antisymm (h2 _ hm.1) (hm.2 m h1)
          subst this
          exact Endv.flat s q (.int _)
/-! ### sep.join(xs), s.split(sep) -/
def strsD : List D → Option (List Str)
  | [] => some []
  | .str b :: r => (strsD r).map (b :: ·)
  | _ => none
theorem strs_of {K : PySem.W.Frag} {H : Hp} : ∀ {xs : List V} {ds : List D} {bs : List Str}, DpAll K H xs ds → strsD ds = some bs → xs = bs.map V.str
  | _, _, bs, .nil, e => by cases e; rfl
  | _, _, bs, .cons (ds := ds) h t, e => by
    cases h <;> simp only [strsD] at e <;> try cases e
    cases q : strsD ds with
    | none => rw [q] at e; cases e
    | some cs => rw [q] at e; cases e; rw [strs_of t q]; rfl
def asS : D → R Str
  | .str a => .ok a
  | _ => .stuck
def pyJoin (a : Str) : D → Option D
  | .list ds => (strsD ds).bind fun ys => if decide ((ys.map (·.length)).sum + ys.length * a.length ≤ 16777216) then some (.str (Txt.join a ys)) else none
  | _ => none
theorem je_join (ha : JE X E a ρ ma) (hb : JH X E b ρ mb) (hs : noStar b = true := by rfl) (hbase : attributeBase a "join" X.env (eval a X.env) = eval a X.env := by rfl) (hline : (apos.endLine == pos.line) = true := by rfl) :
    JE X E (.Call (.Attribute a "join" apos) [b] [] pos) ρ ((ma.bind asS).bind fun x => mb.bind fun y => R.opt (pyJoin x y)) :=
  Ev.wE_of (pe_join (wE.pe a) (wE.pe b) (star_cons hs) hbase hline) fun H0 G0 G H σ Q S p => by
    rw [R.bind_assoc] at p
    refine ha.use S p fun d v G1 H1 s1 s2 s3 S1 r p1 => ?_
    cases d <;> try exact p1.elim
    rename_i sa
    cases r.str_inv
    refine ⟨⟨_, rfl⟩, hb.use S1 p1 fun d2 w G2 H2 t1 t2 t3 S2 r2 p2 => ?_⟩
    obtain ⟨z, ez, q⟩ := R.opt_post p2
    cases d2 <;> simp only [pyJoin] at ez <;> try cases ez
    rename_i ds
    obtain ⟨q', xs, rfl, hx, hd⟩ := lst_inv r2
    cases e : strsD ds with
    | none => rw [e] at ez; cases ez
    | some ys =>
      rw [e, Option.bind_some] at ez
      split at ez
      · rename_i hl
        cases ez
        cases strs_of hd e
        exact ⟨sa, q', ys, rfl, rfl, .inl hx, of_decide_eq_true hl, q (.str _) G2 H2 (s1.trans t1) (s2.trans s1 t2) t3 (.str _)⟩
      · cases ez
def pySplit (a : Str) : D → Option D
  | .str b => if !(b.length == 0) && lineOk (a.length + 2) then some (.list ((Txt.split a b).map .str)) else none
  | _ => none
theorem strs_dq {K : PySem.W.Frag} {G : Hp} : ∀ ns : List Str, DqAll K G (ns.map V.str) (ns.map PyData.str)
  | [] => .nil
  | n :: r => .cons (.str n) (strs_dq r)
theorem je_split (ha : JE X E a ρ ma) (hb : JE X E b ρ mb) (hs : noStar b = true := by rfl) (hbase : attributeBase a "split" X.env (eval a X.env) = eval a X.env := by rfl) (hline : (apos.endLine == pos.line) = true := by rfl) :
    JE X E (.Call (.Attribute a "split" apos) [b] [] pos) ρ ((ma.bind asS).bind fun x => mb.bind fun y => R.opt (pySplit x y)) :=
  Ev.wE_of (pe_split (wE.pe a) (wE.pe b) (star_cons hs) hbase hline) fun H0 G0 G H σ Q S p => by
    rw [R.bind_assoc] at p
    refine ha.use S p fun d v G1 H1 s1 s2 s3 S1 r p1 => ?_
    cases d <;> try exact p1.elim
    rename_i sa
    cases r.str_inv
    refine ⟨⟨_, rfl⟩, hb.use S1 p1 fun d2 w G2 H2 t1 t2 t3 S2 r2 p2 => ?_⟩
    obtain ⟨z, ez, q⟩ := R.opt_post p2
    cases d2 <;> simp only [pySplit] at ez <;> try cases ez
    rename_i sb
    split at ez
    · rename_i hl
      cases ez
      rw [Bool.and_eq_true] at hl
      cases r2.str_inv
      exact ⟨sa, sb, rfl, rfl, by simpa using hl.1, lineOk_iff.mp hl.2, fun l hl => Endv.lst t3 (Endv.back (s1.trans t1) (s2.trans s1 t2) q) (strs_dq _) hl⟩
    · cases ez

/-! ### xs * n, new lists -/
def i63 (i : Int) : Bool := decide (-9223372036854775808 ≤ i) && decide (i < 9223372036854775808)
theorem i63_iff {i : Int} : i63 i = true ↔ -(2 ^ 63) ≤ i ∧ i < 2 ^ 63 := by
  simp only [i63, Bool.and_eq_true, decide_eq_true_eq]
  exact Iff.rfl
def pyRepL : D → D → R (List D)
  | .list xs, .int k => if i63 k && lineOk (xs.length * k.toNat) then .ok (List.replicate k.toNat xs).flatten else .stuck
  | _, _ => .stuck
theorem rep_dq {K : PySem.W.Frag} {G : Hp} {xs : List V} {ds : List D} (h : DqAll K G xs ds) : ∀ n : Nat, DqAll K G (List.replicate n xs).flatten (List.replicate n ds).flatten
  | 0 => .nil
  | n + 1 => by
    rw [List.replicate_succ, List.replicate_succ, List.flatten_cons, List.flatten_cons]
    exact h.append (rep_dq h n)
theorem ln_rep (ha : JE X E a ρ ma) (hb : JE X E b ρ mb) : JN X E (.BinOp a .Mult b pos) ρ ((ma.bind fun x => mb.bind fun y => pyRepL x y).bind lstOb) :=
  EvN.wE_of (pe_op op_rep (wE.pe a) (wE.pe b)) fun H0 G0 G H σ Q S p => by
    rw [R.bind_assoc] at p
    refine ha.use S p fun d v G1 H1 s1 s2 s3 S1 r p1 => ?_
    rw [R.bind_assoc] at p1
    refine hb.use S1 p1 fun d2 w G2 H2 t1 t2 t3 S2 r2 p2 => ?_
    cases d <;> try exact p2.elim
    cases d2 <;> try exact p2.elim
    rename_i ds k
    simp only [pyRepL] at p2
    split at p2
    · rename_i hl
      rw [Bool.and_eq_true] at hl
      have h1 := i63_iff.mp hl.1
      obtain ⟨q', xs, rfl, hx, hd⟩ := Dq.lst_inv r
      cases r2.int_inv
      refine ⟨q', k, xs, rfl, rfl, t1 _ _ (s3 _ _ hx), h1.1, h1.2, by rw [hd.len]; exact lineOk_iff.mp hl.2, fun l hl => ?_⟩
      exact p2 l G2 _ ((s1.trans t1).trans (grow_new hl)) (s2.trans s1 t2) (t3.trans (same_new hl)) ((s1.trans t1).free hl) (t3.free hl) ⟨_, upd_same, rep_dq (dpAll_mono t2.same hd) _⟩
    · exact p2.elim

/-! ### enumerate, zip -/
def enumFrom : Nat → List D → List D
  | _, [] => []
  | n, d :: ds => .tuple [.int n, d] :: enumFrom (n + 1) ds
theorem enum_len : ∀ (n : Nat) (ds : List D), (enumFrom n ds).length = ds.length
  | _, [] => rfl
  | n, _ :: ds => congrArg (· + 1) (enum_len (n + 1) ds)
theorem enum_get : ∀ (n : Nat) (ds : List D) (i : Nat) (d : D), ds[i]? = some d → (enumFrom n ds)[i]? = some (.tuple [.int ((n + i : Nat) : Int), d])
  | _, [], i, d, h => by simp at h
  | n, a :: ds, 0, d, h => by simp at h; subst h; rfl
  | n, a :: ds, i + 1, d, h => by
    have := enum_get (n + 1) ds i d (by simpa using h)
    show (enumFrom (n + 1) ds)[i]? = _
    rw [this, show n + 1 + i = n + (i + 1) by omega]
def enumD (ds : List D) : R (List D) := .ok (enumFrom 0 ds)
theorem ji_enum {elts : List Expr} {kk : Nat} {tpos p : Pos} (hm : X.mg "enumerate" = none) (h : JE X E a ρ m) (hg : Gl X "enumerate" := by rfl) (hs : noStar a = true := by rfl) :
    JI X E (.Tuple elts kk tpos) (.Call (.Name "enumerate" p) [a] [] pos) ρ ((m.bind asLst).bind enumD) := EvI.wI_of (pi_enum hg hm (pa_cons (wE.pe a) pa_nil (star_cons hs)) (star_cons hs)) fun H0 G0 G H σ Q S p => by
  rw [R.bind_assoc] at p
  refine h.use S p fun d v G1 H1 s1 s2 s3 S1 r p1 => ?_
  cases d <;> try exact p1.elim
  rename_i ds
  obtain ⟨q', xs, rfl, hx, hd⟩ := Dq.lst_inv r
  refine ⟨q', xs, rfl, SqL.of (s3 _ _ hx), p1 _ G1 H1 s1 s2 s3 fun i G2 H2 u1 u2 u0 => ?_⟩
  have hq : SqL X.K H2 q' xs := SqL.of (u2 _ _ (u1 _ _ hx))
  rw [enum_len]
  refine ⟨fun hi => ?_, fun hi => ⟨xs, hq, by rw [hd.len]; exact hi⟩, fun w H3 hi hy => ?_⟩
  · obtain ⟨v, hv, _⟩ := hd.get (i := i) (List.getElem?_eq_getElem hi)
    exact ⟨xs, v, hq, hv⟩
  · obtain ⟨T, w', rfl, nT, rfl, hw⟩ := hy
    obtain ⟨d', h1, h2⟩ := (dpAll_mono u1 hd).getV (hw xs hq)
    refine ⟨_, upd G2 T (.tup [.int (i : Nat), w']), enum_get 0 ds i d' h1, grow_new nT, ext_new nT u2, sub_new u2, ?_⟩
    rw [Nat.zero_add]
    exact .tup (SqT.of upd_same) (dpAll_mono (same_new (u2.free nT)) (.cons (.int _) (.one h2)))
def zipTup : List D → List D → List D
  | a :: r, b :: s => .tuple [a, b] :: zipTup r s
  | _, _ => []
theorem zip_get : ∀ (xs ys : List D) (i : Nat) (a b : D), xs[i]? = some a → ys[i]? = some b → (zipTup xs ys)[i]? = some (.tuple [a, b])
  | [], _, i, a, b, h, _ => by simp at h
  | _ :: _, [], i, a, b, _, h => by simp at h
  | x :: xs, y :: ys, 0, a, b, h, h' => by simp at h h'; subst h h'; rfl
  | x :: xs, y :: ys, i + 1, a, b, h, h' => zip_get xs ys i a b (by simpa using h) (by simpa using h')
theorem zip_len : ∀ xs ys : List D, (zipTup xs ys).length = min xs.length ys.length
  | [], _ => by simp [zipTup]
  | _ :: _, [] => by simp [zipTup]
  | x :: xs, y :: ys => by simp [zipTup, zip_len xs ys]
def zipD : D → D → R (List D)
  | .list xs, .list ys => .ok (zipTup xs ys)
  | .tuple xs, .tuple ys => .ok (zipTup xs ys)
  | _, _ => .stuck
theorem zip_ok {T : Tb} {K : PySem.W.Frag} {H0 G : Hp} {a b : Addr} {xs ys : List V} {ds es : List D} (hx : G a = some (.lst xs)) (hy : G b = some (.lst ys)) (hd : DqAll K G xs ds) (he : DqAll K G ys es) : ItOk T K H0 G (Itz K a b) (zipTup ds es) := fun i G3 H3 u1 u2 u0 => by
  have hq : SqL K H3 a xs := SqL.of (u2 _ _ (u1 _ _ hx))
  have hq2 : SqL K H3 b ys := SqL.of (u2 _ _ (u1 _ _ hy))
  rw [zip_len]
  refine ⟨fun hi => ?_, fun hi => ⟨xs, ys, hq, hq2, by rw [hd.len, he.len]; omega⟩, fun w H4 hi hyl => ?_⟩
  · obtain ⟨v, hv, _⟩ := hd.get (i := i) (List.getElem?_eq_getElem (by omega))
    obtain ⟨v', hv', _⟩ := he.get (i := i) (List.getElem?_eq_getElem (by omega))
    exact ⟨xs, ys, v, v', hq, hq2, hv, hv'⟩
  · obtain ⟨T, w1, w2, rfl, nT, rfl, hw1, hw2⟩ := hyl
    obtain ⟨d', h1, h2⟩ := (dpAll_mono u1 hd).getV (hw1 xs hq)
    obtain ⟨e', h3, h4⟩ := (dpAll_mono u1 he).getV (hw2 ys hq2)
    exact ⟨_, upd G3 T (.tup [w1, w2]), zip_get _ _ _ _ _ h1 h3, grow_new nT, ext_new nT u2, sub_new u2, .tup (SqT.of upd_same) (dpAll_mono (same_new (u2.free nT)) (.cons h2 (.one h4)))⟩
theorem zip_okT {T : Tb} {K : PySem.W.Frag} {H0 G : Hp} {a b : Addr} {xs ys : List V} {ds es : List D} (hx : SqT K G a xs) (hy : SqT K G b ys) (hd : DqAll K G xs ds) (he : DqAll K G ys es) : ItOk T K H0 G (RZ.ItzT K a b) (zipTup ds es) := fun i G3 H3 u1 u2 u0 => by
  have hq : SqT K H3 a xs := Same.tup (u1.trans u2) hx
  have hq2 : SqT K H3 b ys := Same.tup (u1.trans u2) hy
  rw [zip_len]
  refine ⟨fun hi => ?_, fun hi => ⟨xs, ys, hq, hq2, by rw [hd.len, he.len]; omega⟩, fun w H4 hi hyl => ?_⟩
  · obtain ⟨v, hv, _⟩ := hd.get (i := i) (List.getElem?_eq_getElem (by omega))
    obtain ⟨v', hv', _⟩ := he.get (i := i) (List.getElem?_eq_getElem (by omega))
    exact ⟨xs, ys, v, v', hq, hq2, hv, hv'⟩
  · obtain ⟨T, w1, w2, rfl, nT, rfl, hw1, hw2⟩ := hyl
    obtain ⟨d', h1, h2⟩ := (dpAll_mono u1 hd).getV (hw1 xs hq)
    obtain ⟨e', h3, h4⟩ := (dpAll_mono u1 he).getV (hw2 ys hq2)
    exact ⟨_, upd G3 T (.tup [w1, w2]), zip_get _ _ _ _ _ h1 h3, grow_new nT, ext_new nT u2, sub_new u2, .tup (SqT.of upd_same) (dpAll_mono (same_new (u2.free nT)) (.cons h2 (.one h4)))⟩
theorem ji_zip {elts : List Expr} {kk : Nat} {tpos p : Pos} (hm : X.mg "zip" = none) (ha : JE X E a ρ ma) (hb : JE X E b ρ mb) (hg : Gl X "zip" := by rfl) (hs : noStar a = true := by rfl) (hs2 : noStar b = true := by rfl) :
    JI X E (.Tuple elts kk tpos) (.Call (.Name "zip" p) [a, b] [] pos) ρ (ma.bind fun x => mb.bind fun y => zipD x y) := EvI.wI_of (RZ.pi_zipA hg hm (pa_cons (wE.pe a) (pa_cons (wE.pe b) pa_nil (star_cons hs2)) (star_cons hs)) (star_cons hs) (star_any (by simp [hs2]))) fun H0 G0 G H σ Q S p => by
  refine ha.use S p fun d v G1 H1 s1 s2 s3 S1 r p1 => ?_
  refine hb.use S1 p1 fun d2 v2 G2 H2 t1 t2 t3 S2 r2 p2 => ?_
  cases d <;> try exact p2.elim
  · cases d2 <;> try exact p2.elim
    rename_i ds es
    obtain ⟨q', xs, rfl, hx, hd⟩ := Dq.lst_inv r
    obtain ⟨q2, ys, rfl, hy, he⟩ := Dq.lst_inv r2
    have hx2 := t2.same _ _ hx
    have hd2 := dpAll_mono t2.same hd
    exact ⟨q', q2, xs, ys, rfl, .inl ⟨SqL.of (t3 _ _ hx2), SqL.of (t3 _ _ hy), p2 _ G2 H2 (s1.trans t1) (s2.trans s1 t2) t3 (zip_ok hx2 hy hd2 he)⟩⟩
  · cases d2 <;> try exact p2.elim
    rename_i ds es
    obtain ⟨q', xs, rfl, hx, hd⟩ := Dq.tup_inv r
    obtain ⟨q2, ys, rfl, hy, he⟩ := Dq.tup_inv r2
    have hx2 := Same.tup t2.same hx
    have hd2 := dpAll_mono t2.same hd
    exact ⟨q', q2, xs, ys, rfl, .inr ⟨Same.tup t3 hx2, Same.tup t3 hy, p2 _ G2 H2 (s1.trans t1) (s2.trans s1 t2) t3 (zip_okT hx2 hy hd2 he)⟩⟩
end
end Br
namespace Br
open PySem PySem.Spec PyProof.Rows L2
section
variable {X : Cx} {E : XW} {ρ : Rho} {e a b c tg iter elt : Expr} {es : List Expr} {st : Stmt} {sts rest body : List Stmt} {tR : TS} {α β : Type} {fin : α → Rho} {m ma mb mc : R D} {mt : R Bool} {ml mi : R (List D)} {mo : R (Out α)} {pos pos' p2 px py pz pt spos apos cpos : Pos} {x y z : Str} {k : Nat}

/-! ### for a, b in .. -/
def forM2 {α : Type} (f : α → D × D → R (Out α)) (ds : List D) (a : α) : R (Out α) := forM (fun a d => (open2 d).bind fun p => f a p) ds a
theorem jk_for2 {γ : Type} {i i2 : Nat} {fl : γ → Rho} {a0 : γ} {f : γ → D × D → R (Out γ)} {k : γ → R (Out α)} {kt : Nat} (hi : JI X E (.Tuple [.Name x px, .Name y py] kt pt) iter ρ mi) (h0 : Less (fl a0) ρ)
    (hb : ∀ a (d : D × D), JK X E body tNext (((fl a).set i (.dat d.1)).set i2 (.dat d.2)) fl (f a d)) (hk : ∀ a, JK X E rest tR (fl a) fin (k a)) (hN : X.N.Nodup) (hc : X.calm = true) (hp : PassesOwn (model X.prog X.w) X.A X.env X.xe) (hij : i ≠ i2) (hx : X.N[i]? = some x := by rfl) (hy : X.N[i2]? = some y := by rfl) (hl : L2.Loc X.env.scope x := by first | exact Or.inl rfl | exact Or.inr rfl) (hl2 : L2.Loc X.env.scope y := by first | exact Or.inl rfl | exact Or.inr rfl)
    (hf : X.fn x = true ∨ X.env.scope.names.lookup x = some .local := by first | exact .inl rfl | exact .inr rfl | assumption) (hf2 : X.fn y = true ∨ X.env.scope.names.lookup y = some .local := by first | exact .inl rfl | exact .inr rfl | assumption) (hs : ∀ x, foldedSetIterable iter X.env x = pure x := by intro _; rfl) :
    JK X E (.For (.Tuple [.Name x px, .Name y py] kt pt) iter body [] pos :: rest) tR ρ fin (mi.bind fun ds => (forM2 f ds a0).bind (Out.cont k)) := jk_cons fun H0 G0 G H σ De S p => by
  refine wS.of (ps_for hp hc (wI.pi _ iter) (pg_tup hc (pgs_cons (pg_name hN hx hl hf) (pgs_cons (pg_name hN hy hl2 hf2) pgs_nil))) (wSs.pss body) hs) ?_
  refine hi H0 G0 G H σ _ S (R.post_mono (R.post_bind p) (fun ds _ p1 J G1 H1 s1 s2 s3 hJ => ?_) fun c _ z H' s => z σ H' (S.sub0.trans s))
  have S0 := S.grow s1 s2 s3
  have x1 : Ext G0 H0 G1 := S0.ext
  have S1 := (S0.less h0).self
  refine ⟨fun j n σ' H' => ∃ (a : γ) (G' : Hp), j + n = ds.length ∧ Stt E.T X.K H0 G1 G' H' σ' (fl a) ∧ ((forM2 f (ds.drop j) a).bind (Out.cont k)).post (PoS E.T X.K H0 G0 fin De) (PoX H0 E), ⟨ds.length, a0, G1, by omega, S1, p1⟩, fun j n σ' H' hW => ?_⟩
  obtain ⟨a, G', hn, S', pa⟩ := hW
  obtain ⟨hgo, hst, hy⟩ := hJ j G' H' S'.ext.same S'.sub S'.sub0
  by_cases hj : j < ds.length
  · refine .inr ⟨hgo hj, fun σ2 H2 => ∃ (a : γ) (G' : Hp), Stt E.T X.K H0 G1 G' H2 σ2 (fl a) ∧ ((forM2 f (ds.drop (j + 1)) a).bind (Out.cont k)).post (PoS E.T X.K H0 G0 fin De) (PoX H0 E), fun σ2 H2 hN => ?_, fun v H2 hv => ?_⟩
    · obtain ⟨a2, G2, z1, z2⟩ := hN
      exact ⟨n - 1, by omega, a2, G2, by omega, z1, z2⟩
    · obtain ⟨d, G2, hd, t1, t2, t3, hq⟩ := hy v H2 hj hv
      have S2 := S'.grow t1 t2 t3
      have ed : ds.drop j = d :: ds.drop (j + 1) := by
        rw [List.drop_eq_getElem_cons hj]
        rw [List.getElem?_eq_getElem hj] at hd
        cases hd
        rfl
      rw [ed] at pa
      unfold forM2 forM at pa
      have pb := R.post_bind (R.post_bind pa)
      obtain ⟨z, ez, pz⟩ := R.post_ok (R.post_bind pb) (open2_nx d)
      cases open2_inv ez
      obtain ⟨a', xs, rfl, hx', hd'⟩ := Dq.tup_inv hq
      obtain ⟨v, w, rfl, h1, h2⟩ := dq2 (z := z) hd' rfl
      refine ⟨a', _, rfl, Same.tup t3 hx', rfl, _, _, rfl, _, _, rfl, rfl, ?_⟩
      refine hb a z H0 G1 G2 H2 _ { nx := fun σ2 H2 => ∃ (a : γ) (G' : Hp), Stt E.T X.K H0 G1 G' H2 σ2 (fl a) ∧ ((forM2 f (ds.drop (j + 1)) a).bind (Out.cont k)).post (PoS E.T X.K H0 G0 fin De) (PoX H0 E), rt := De.rt, bk := tSeq (wSs X rest) tR De, ct := fun σ2 H2 => ∃ (a : γ) (G' : Hp), Stt E.T X.K H0 G1 G' H2 σ2 (fl a) ∧ ((forM2 f (ds.drop (j + 1)) a).bind (Out.cont k)).post (PoS E.T X.K H0 G0 fin De) (PoX H0 E) } ((S2.set h1).set h2) (R.post_mono pz (fun o _ po => ?_) fun _ _ z => z)
      cases o with
      | nx a' => exact fun G3 H3 σ3 S3 => ⟨a', G3, S3, R.bind_post po⟩
      | bk a' => exact fun G3 H3 σ3 S3 => hk a' H0 G0 G3 H3 σ3 De (S3.down x1) po
      | rt v => exact PoS.down (fin := fin) (De := De) (o := .rt v) po x1
  · refine .inl ⟨hst (by omega), ?_⟩
    rw [List.drop_eq_nil_of_le (by omega)] at pa
    exact hk a H0 G0 G' H' σ' De (S'.down x1) pa

/-! ### xs.extend(ys), xs[i] = v -/
theorem jk_extend {i : Nat} {ds : List D} {k : List D → R (Out α)} {p1 : Pos} (hi : ρ[i]? = some (.own (.lst ds))) (he : JE X E e ρ m) (hk : ∀ ds', JK X E rest tR (ρ.set i (.own (.lst ds'))) fin (k ds'))
    (hN : X.N[i]? = some x := by rfl) (hv : Vis X.env.scope x := by first | exact Or.inl rfl | exact Or.inr (Or.inl rfl) | exact Or.inr (Or.inr rfl)) (hd : (x == ("__debug__" : Str)) = false := by decide)
    (hcd : (x == ("__classdict__" : Str)) = false := by decide) (hs : swapsWith (.Call (.Attribute (.Name x p1) "extend" apos) [e] [] pos') none pos.line X.env = pure false := by rfl)
    (hbase : attributeBase (.Name x p1) "extend" X.env (eval (.Name x p1) X.env) = eval (.Name x p1) X.env := by rfl)
    (hfew : ((backTo pos' (starEach [e] X.env)).all (fun x => !x.1) && (backToKw pos' (keywordEach [] X.env)).all (fun x => x.1.isSome)
      && decide (([e] : List Expr).length + ([] : List Keyword).length + (if ([] : List Keyword).isEmpty then 0 else 1) < 30)) = true := by rfl)
    (hline : (apos.endLine == pos'.line) = true := by rfl) (hst : noStar e = true := by rfl) :
    JK X E (.Expr (.Call (.Attribute (.Name x p1) "extend" apos) [e] [] pos') pos :: rest) tR ρ fin ((m.bind asLst).bind fun d => if lineOk (ds.length + d.length) then k (ds ++ d) else .stuck) := jk_cons fun H0 G0 G H σ De S p => by
  rw [R.bind_assoc] at p
  refine wS.of (ps_expr (pe_bm PySem.F.plainAttrs_list PySem.F.slot_list_extend PySem.F.type_list_extend mt_extend (pe_var hN hv hd hcd) (pa_cons (wE.pe e) pa_nil (star_cons hst)) hbase hfew hline (star_cons hst) rfl) hs) ?_
  obtain ⟨v, e1, q, rfl, ⟨xs, hx, hds⟩, gq, zq⟩ := S.slots i _ hi
  refine ⟨_, e1, .inl ⟨rfl, _, SqL.of hx⟩, he.useS S p fun d y G1 H1 s1 s2 s3 S1 r p1 => ?_⟩
  cases d <;> try exact p1.elim
  rename_i es
  obtain ⟨q', ys, rfl, hy, he'⟩ := Dq.lst_inv r
  replace p1 : (if lineOk (ds.length + es.length) = true then k (ds ++ es) else R.stuck).post (PoS E.T X.K H0 G0 fin De) (PoX H0 E) := p1
  split at p1
  · rename_i hl
    have hl' := lineOk_iff.mp hl
    refine ⟨q, q', xs, ys, rfl, rfl, s1 _ _ hx, s3 _ _ hy, by rw [hds.len, he'.len]; exact hl', ?_⟩
    exact hk (ds ++ es) H0 G0 G1 _ σ De (S1.write hi e1 ⟨_, upd_same, (dpAll_mono s2.same hds).append he'⟩) p1
  · exact p1.elim
def lPut (ds : List D) : D → D → R (List D)
  | .int k, d => match ixN ds.length k with
    | some j => .ok (ds.set j d)
    | none => .stuck
  | _, _ => .stuck
theorem DqAll.set {K : PySem.W.Frag} {G : Hp} {v : V} {d : D} (h : Dq K G v d) : ∀ {xs : List V} {ds : List D} (j : Nat), DqAll K G xs ds → DqAll K G (xs.set j v) (ds.set j d)
  | _, _, _, .nil => .nil
  | _, _, 0, .cons _ t => .cons h t
  | _, _, j + 1, .cons q t => .cons q (DqAll.set h j t)
theorem jk_lput {i : Nat} {ds : List D} {k : List D → R (Out α)} {p1 : Pos} (hi : ρ[i]? = some (.own (.lst ds))) (hv : JE X E c ρ mc) (hb : JE X E b ρ mb) (hk : ∀ l, JK X E rest tR (ρ.set i (.own (.lst l))) fin (k l))
    (hN : X.N[i]? = some x := by rfl) (hvis : Vis X.env.scope x := by first | exact Or.inl rfl | exact Or.inr (Or.inl rfl) | exact Or.inr (Or.inr rfl)) (hd : (x == ("__debug__" : Str)) = false := by decide)
    (hcd : (x == ("__classdict__" : Str)) = false := by decide) (hs : swapsWithSole [.Subscript (.Name x p1) b pos'] c pos.line X.env = pure false := by rfl) (hw : swappedStores [.Subscript (.Name x p1) b pos'] c X.env = pure none := by rfl)
    (ha : ∀ v, assign (.Subscript (.Name x p1) b pos') X.env v = (do
      let ov ← holding [v] (eval (.Name x p1) X.env)
      let iv ← holding [v, ov] (eval b X.env)
      standAt pos'
      holding [v, ov, iv] (setItem ov iv v)
      release [v, ov, iv] []) := by intro _; rfl) :
    JK X E (.Assign [.Subscript (.Name x p1) b pos'] c pos :: rest) tR ρ fin (mc.bind fun d => mb.bind fun y => (lPut ds y d).bind k) := jk_cons fun H0 G0 G H σ De S p => by
  refine wS.of (ps_asg (wE.pe c) (pg_sub (pe_var hN hvis hd hcd) (wE.pe b) set_list ha) hs hw) ?_
  refine hv.useS S p fun d v G1 H1 s1 s2 s3 S1 r p1 => ?_
  obtain ⟨w', e1, q, e2, ⟨xs, hu, hds⟩, gq, zq⟩ := S1.slots i _ hi
  subst e2
  refine ⟨_, e1, ?_⟩
  refine hb.useS S1 p1 fun d2 y G2 H2 t1 t2 t3 S2 r2 p2 => ?_
  cases d2 <;> try exact p2.elim
  rename_i kk
  simp only [lPut] at p2
  cases ej : ixN ds.length kk with
  | none => rw [ej] at p2; exact p2.elim
  | some j =>
    rw [ej] at p2
    cases r2.int_inv
    refine ⟨q, xs, kk, j, rfl, rfl, t1 _ _ hu, by rw [hds.len]; exact ej, ?_⟩
    exact hk _ H0 G0 G2 _ σ De (S2.write hi e1 ⟨_, upd_same, DqAll.set (dp_mono t2.same r) j (dpAll_mono t2.same hds)⟩) p2
/-! ### comprehensions over pairs -/
section
variable {scope : Scope} {x2 : Str} {kt : Nat}
abbrev Own2 (X : Cx) (scope : Scope) (x x2 : Str) : Prop := ∀ (s : Shared) (H' : Hp) (C : Addr) (cl : List (Str × Addr)) (fp : List Addr), (L2.Loc (Bk X s H' scope C cl fp).env.scope x ∧ L2.Loc (Bk X s H' scope C cl fp).env.scope x2) ∧ ((Bk X s H' scope C cl fp).fn x = true ∨ (Bk X s H' scope C cl fp).env.scope.names.lookup x = some .local) ∧ ((Bk X s H' scope C cl fp).fn x2 = true ∨ (Bk X s H' scope C cl fp).env.scope.names.lookup x2 = some .local)
theorem ln_lc2 {i j : Nat} {f : D × D → R D} (hi : JI X E (.Tuple [.Name x px, .Name x2 py] kt pt) iter ρ mi) (he : ∀ (d : D × D) (s : Shared) (H' : Hp) (C : Addr) (cl : List (Str × Addr)) (fp : List Addr), JE (Bk X s H' scope C cl fp) (E00 E.T) elt ((ρ.set i (.dat d.1)).set j (.dat d.2)) (f d)) (hc : X.calm = true) (hN : X.N.Nodup)
    (ok : BlkOk X.N X.env.scope scope [(x, i), (x2, j)]) (hij : i ≠ j) (hx : X.N[i]? = some x := by rfl) (hx2 : X.N[j]? = some x2 := by rfl) (ho : Own2 X scope x x2 := by intro _ _ _ _ _; exact ⟨⟨Or.inl rfl, Or.inl rfl⟩, Or.inr rfl, Or.inr rfl⟩)
    (hs : ∀ x, foldedSetIterable iter X.env x = pure x := by intro _; rfl) : JN X E (.ListComp elt [⟨.Tuple [.Name x px, .Name x2 py] kt pt, iter, [], 0⟩] scope pos) ρ ((mi.bind (compD open2 (fun _ => .ok true) f)).bind lstOb) :=
  EvN.cong (EvN.wE_of (pe_lc (own := [(x, i), (x2, j)]) (g := gTup X.K 2 (gCons (gName i) (gCons (gName j) gNil))) (tt := tYes) (te := wEB X scope elt) hc hN (wI.pi _ iter) ok (fun s H C cl fp => pg_tup hc (pgs_cons (pg_name hN hx (ho s H C cl fp).1.1 (ho s H C cl fp).2.1) (pgs_cons (pg_name hN hx2 (ho s H C cl fp).1.2 (ho s H C cl fp).2.2) pgs_nil))) (fun _ _ _ _ _ => pts_nil) (fun s H C cl fp => wEB.pe s H C cl fp) hs)
    (evLc hi (ctg2 hij) (fun _ => tYes.ev) fun d => wEB.ev (he d))) (compO_eq _ _ _ _)
theorem ln_lc2If {i j : Nat} {f : D × D → R D} {t : D × D → R Bool} (hi : JI X E (.Tuple [.Name x px, .Name x2 py] kt pt) iter ρ mi) (ht : ∀ (d : D × D) (s : Shared) (H' : Hp) (C : Addr) (cl : List (Str × Addr)) (fp : List Addr), JT (Bk X s H' scope C cl fp) (E00 E.T) c ((ρ.set i (.dat d.1)).set j (.dat d.2)) (t d)) (he : ∀ (d : D × D) (s : Shared) (H' : Hp) (C : Addr) (cl : List (Str × Addr)) (fp : List Addr), JE (Bk X s H' scope C cl fp) (E00 E.T) elt ((ρ.set i (.dat d.1)).set j (.dat d.2)) (f d)) (hc : X.calm = true) (hN : X.N.Nodup)
    (ok : BlkOk X.N X.env.scope scope [(x, i), (x2, j)]) (hij : i ≠ j) (hx : X.N[i]? = some x := by rfl) (hx2 : X.N[j]? = some x2 := by rfl) (ho : Own2 X scope x x2 := by intro _ _ _ _ _; exact ⟨⟨Or.inl rfl, Or.inl rfl⟩, Or.inr rfl, Or.inr rfl⟩)
    (hs : ∀ x, foldedSetIterable iter X.env x = pure x := by intro _; rfl) : JN X E (.ListComp elt [⟨.Tuple [.Name x px, .Name x2 py] kt pt, iter, [c], 0⟩] scope pos) ρ ((mi.bind (compD open2 t f)).bind lstOb) :=
  EvN.cong (EvN.wE_of (pe_lc (own := [(x, i), (x2, j)]) (g := gTup X.K 2 (gCons (gName i) (gCons (gName j) gNil))) (tt := wTB X scope c) (te := wEB X scope elt) hc hN (wI.pi _ iter) ok (fun s H C cl fp => pg_tup hc (pgs_cons (pg_name hN hx (ho s H C cl fp).1.1 (ho s H C cl fp).2.1) (pgs_cons (pg_name hN hx2 (ho s H C cl fp).1.2 (ho s H C cl fp).2.2) pgs_nil))) (fun s H C cl fp => pts_ok s H C cl fp) (fun s H C cl fp => wEB.pe s H C cl fp) hs)
    (evLc hi (ctg2 hij) (fun d => wTB.ev (ht d)) fun d => wEB.ev (he d))) (compO_eq _ _ _ _)
theorem jk_datLc2 {i i2 j : Nat} {f : D × D → R D} {k : D → R (Out α)} (hi : JI X E (.Tuple [.Name x px, .Name x2 py] kt pt) iter ρ mi) (he : ∀ (d : D × D) (s : Shared) (H' : Hp) (C : Addr) (cl : List (Str × Addr)) (fp : List Addr), JE (Bk X s H' scope C cl fp) (E00 E.T) elt ((ρ.set i (.dat d.1)).set i2 (.dat d.2)) (f d))
    (hk : ∀ d, JK X E rest tR (ρ.set j (.dat d)) fin (k d)) (hc : X.calm = true) (hN : X.N.Nodup)
    (ok : BlkOk X.N X.env.scope scope [(x, i), (x2, i2)]) (hsw : swapsWith (.ListComp elt [⟨.Tuple [.Name x px, .Name x2 py] kt pt, iter, [], 0⟩] scope pos) (some (.Name y pz)) spos.line X.env = pure true) (hij : i ≠ i2) (hy : X.N[j]? = some y := by rfl) (hyl : X.env.scope.names.lookup y = some .local := by rfl) (hx : X.N[i]? = some x := by rfl) (hx2 : X.N[i2]? = some x2 := by rfl) (ho : Own2 X scope x x2 := by intro _ _ _ _ _; exact ⟨⟨Or.inl rfl, Or.inl rfl⟩, Or.inr rfl, Or.inr rfl⟩)
    (hs : ∀ x, foldedSetIterable iter X.env x = pure x := by intro _; rfl) : JK X E (.Assign [.Name y pz] (.ListComp elt [⟨.Tuple [.Name x px, .Name x2 py] kt pt, iter, [], 0⟩] scope pos) spos :: rest) tR ρ fin (((mi.bind (compD open2 (fun _ => .ok true) f)).bind lstD).bind k) :=
  jk_asgD (ps_setLc (own := [(x, i), (x2, i2)]) (g := gTup X.K 2 (gCons (gName i) (gCons (gName i2) gNil))) (tt := tYes) (te := wEB X scope elt) hc hN hy hyl hsw (wI.pi _ iter) ok (fun s H C cl fp => pg_tup hc (pgs_cons (pg_name hN hx (ho s H C cl fp).1.1 (ho s H C cl fp).2.1) (pgs_cons (pg_name hN hx2 (ho s H C cl fp).1.2 (ho s H C cl fp).2.2) pgs_nil))) (fun _ _ _ _ _ => pts_nil) (fun s H C cl fp => wEB.pe s H C cl fp) hs)
    ((EvN.data (EvN.cong (evLc hi (ctg2 hij) (fun _ => tYes.ev) fun d => wEB.ev (he d)) (compO_eq _ _ _ _))).cong (by rw [R.bind_assoc]; rfl)) hk
theorem jk_datLc2If {i i2 j : Nat} {f : D × D → R D} {t : D × D → R Bool} {k : D → R (Out α)} (hi : JI X E (.Tuple [.Name x px, .Name x2 py] kt pt) iter ρ mi) (ht : ∀ (d : D × D) (s : Shared) (H' : Hp) (C : Addr) (cl : List (Str × Addr)) (fp : List Addr), JT (Bk X s H' scope C cl fp) (E00 E.T) c ((ρ.set i (.dat d.1)).set i2 (.dat d.2)) (t d)) (he : ∀ (d : D × D) (s : Shared) (H' : Hp) (C : Addr) (cl : List (Str × Addr)) (fp : List Addr), JE (Bk X s H' scope C cl fp) (E00 E.T) elt ((ρ.set i (.dat d.1)).set i2 (.dat d.2)) (f d))
    (hk : ∀ d, JK X E rest tR (ρ.set j (.dat d)) fin (k d)) (hc : X.calm = true) (hN : X.N.Nodup)
    (ok : BlkOk X.N X.env.scope scope [(x, i), (x2, i2)]) (hsw : swapsWith (.ListComp elt [⟨.Tuple [.Name x px, .Name x2 py] kt pt, iter, [c], 0⟩] scope pos) (some (.Name y pz)) spos.line X.env = pure true) (hij : i ≠ i2) (hy : X.N[j]? = some y := by rfl) (hyl : X.env.scope.names.lookup y = some .local := by rfl) (hx : X.N[i]? = some x := by rfl) (hx2 : X.N[i2]? = some x2 := by rfl) (ho : Own2 X scope x x2 := by intro _ _ _ _ _; exact ⟨⟨Or.inl rfl, Or.inl rfl⟩, Or.inr rfl, Or.inr rfl⟩)
    (hs : ∀ x, foldedSetIterable iter X.env x = pure x := by intro _; rfl) : JK X E (.Assign [.Name y pz] (.ListComp elt [⟨.Tuple [.Name x px, .Name x2 py] kt pt, iter, [c], 0⟩] scope pos) spos :: rest) tR ρ fin (((mi.bind (compD open2 t f)).bind lstD).bind k) :=
  jk_asgD (ps_setLc (own := [(x, i), (x2, i2)]) (g := gTup X.K 2 (gCons (gName i) (gCons (gName i2) gNil))) (tt := wTB X scope c) (te := wEB X scope elt) hc hN hy hyl hsw (wI.pi _ iter) ok (fun s H C cl fp => pg_tup hc (pgs_cons (pg_name hN hx (ho s H C cl fp).1.1 (ho s H C cl fp).2.1) (pgs_cons (pg_name hN hx2 (ho s H C cl fp).1.2 (ho s H C cl fp).2.2) pgs_nil))) (fun s H C cl fp => pts_ok s H C cl fp) (fun s H C cl fp => wEB.pe s H C cl fp) hs)
    ((EvN.data (EvN.cong (evLc hi (ctg2 hij) (fun d => wTB.ev (ht d)) fun d => wEB.ev (he d)) (compO_eq _ _ _ _))).cong (by rw [R.bind_assoc]; rfl)) hk
end
/-! ### f() -/
theorem pe_call0S {CX : CXT} {f : Addr} {fd : FuncData} {sp : Sp} {E' : L2.St → XK} {p : Pos} (F : FnOk X.prog X.w X.K X.mg X.base CX k f fd [] sp) (hr : Room k X.A) (hg : Gl X x) (hm : X.mg x = some (.ref f)) (hk : PySem.W.keepIn X.K (.ref f) = true) (hb : Binds X.K fd [] []) (hx : ∀ σ, PassesAt CX X σ (E' σ))
    (hdb : (x == ("__debug__" : Str)) = false := by decide) : PE X (.Call (.Name x p) [] [] pos) (tCallS sp E' tNil) :=
  ⟨fun pins s σ H Q I h => wpAny_Call_Name_kw (ld_glob I hg hm (PySem.W.callWith_K0 I.kIn hk (run_fnS (us := []) F hr hb (hx σ) I .nil h)) hdb)⟩
theorem je_call0 {CA : XC → Addr} {F : List Slot → R D} {p : Pos} (h : FnD E.T X.prog X.w X.K X.mg X.base CA k x [] F) (hr : Room k X.A) (tk : Takes X (wOf CA E)) (hg : Gl X x := by rfl) (hdb : (x == ("__debug__" : Str)) = false := by decide) : JE X E (.Call (.Name x p) [] [] pos) ρ (F []) := by
  obtain ⟨f, fd, hm, hk, hb, hf⟩ := h.ex
  refine Ev.wE_of (pe_call0S hf hr hg hm hk hb (fun σ => passAt tk σ) hdb) fun H0 G0 G H σ Q S q => ?_
  exact ⟨rfl, S.sub0.tabs S.tb, G, [], S.plainG, S.sub, .nil, R.post_mono q (fun d _ z => z) fun c _ z H' s => ⟨rfl, c, rfl, z H' s⟩⟩
/-! ### xs.count(n) -/
def pyCount (ds : List D) : D → Option D
  | .int k => (intsD ds).map fun ns => .int (ns.count k : Nat)
  | _ => none
theorem ints_ofq {K : PySem.W.Frag} {H : Hp} {xs : List V} {ds : List D} {bs : List Int} (h : DqAll K H xs ds) (e : intsD ds = some bs) : xs = bs.map V.int := ints_of h.dp e
theorem je_lcount (hr : Room k X.A) (ha : JB X E a ρ (ml.bind lstOb)) (hb : JH X E b ρ mb) (hbase : attributeBase a "count" X.env (eval a X.env) = eval a X.env := by rfl)
    (hfew : ((backTo cpos (starEach [b] X.env)).all (fun x => !x.1) && (backToKw cpos (keywordEach [] X.env)).all (fun x => x.1.isSome)
      && decide (([b] : List Expr).length + ([] : List Keyword).length + (if ([] : List Keyword).isEmpty then 0 else 1) < 30)) = true := by rfl)
    (hline : (apos.endLine == cpos.line) = true := by rfl) (hst : noStar b = true := by rfl) :
    JE X E (.Call (.Attribute a "count" apos) [b] [] cpos) ρ (ml.bind fun x => mb.bind fun y => R.opt (pyCount x y)) :=
  Ev.wE_of (pe_bm PySem.F.plainAttrs_list PySem.F.slot_list_count PySem.F.type_list_count mt_lcount (wE.pe a) (pa_cons (wE.pe b) pa_nil (star_cons hst)) hbase hfew hline (star_cons hst) rfl) fun H0 G0 G H σ Q S p => by
    refine JB.useL ha S p fun ds q xs G1 H1 s1 s2 s3 S1 hx hd p1 => ⟨.inl ⟨rfl, xs, hx⟩, ?_⟩
    refine hb.use S1 p1 fun d v G2 H2 t1 t2 t3 S2 r p2 => ?_
    obtain ⟨z, ez, q2⟩ := R.opt_post p2
    cases d <;> simp only [pyCount] at ez <;> try cases ez
    rename_i kk
    cases e : intsD ds with
    | none => rw [e] at ez; cases ez
    | some ns =>
      rw [e] at ez
      cases ez
      cases ints_ofq hd e
      exact ⟨q, ns, kk, rfl, by rw [int_inv r], t1.seq hx, q2 (.int _) G2 H2 (s1.trans t1) (s2.trans s1 t2) t3 (.int _)⟩
/-! ### an if whose ways meet again -/
def Out.meet {α β : Type} (k : α → R (Out β)) : Out α → R (Out β)
  | .nx a => k a
  | .bk _ => .stuck
  | .rt d => .ok (.rt d)
theorem jk_join {γ : Type} {fl : γ → Rho} {A B : List Stmt} {ka kb : R (Out γ)} {k : γ → R (Out α)} (hc : JT X E c ρ mt) (ha : JK X E A tNext ρ fl ka) (hb : JK X E B tNext ρ fl kb) (hk : ∀ a, JK X E rest tR (fl a) fin (k a)) :
    JK X E (.If c A B pos :: rest) tR ρ fin (mt.bind fun t => (if t then ka else kb).bind (Out.meet k)) := jk_cons fun H0 G0 G H σ De S p => by
  refine wS.of (ps_if (wT.pt c) (wSs.pss A) (wSs.pss B)) (hc.useS S p fun t t' G1 H1 s1 s2 s3 S1 r p1 => ?_)
  cases r
  have key : ∀ (o : Out γ), (Out.meet k o).post (PoS E.T X.K H0 G0 fin De) (PoX H0 E) → PoS E.T X.K H0 G0 fl { De with nx := tSeq (wSs X rest) tR De } o := fun o po => by
    cases o with
    | nx a => exact fun G3 H3 σ3 S3 => hk a H0 G0 G3 H3 σ3 De S3 po
    | bk a => exact po.elim
    | rt d => exact po
  cases t with
  | true =>
    rw [if_pos rfl] at p1 ⊢
    exact ha H0 G0 G1 H1 σ { De with nx := tSeq (wSs X rest) tR De } S1 (R.post_mono (R.post_bind p1) (fun o _ po => key o po) fun _ _ z => z)
  | false =>
    rw [if_neg Bool.false_ne_true] at p1 ⊢
    exact hb H0 G0 G1 H1 σ { De with nx := tSeq (wSs X rest) tR De } S1 (R.post_mono (R.post_bind p1) (fun o _ po => key o po) fun _ _ z => z)
end
end Br
namespace Br
open PySem PySem.Spec PyProof.Rows L2
theorem DqAll.rev {K : PySem.W.Frag} {G : Hp} : ∀ {vs : List V} {ds : List D}, DqAll K G vs ds → DqAll K G vs.reverse ds.reverse
  | _, _, .nil => .nil
  | _, _, .cons h t => by rw [List.reverse_cons, List.reverse_cons]; exact (DqAll.rev t).append (.one h)
/-! ### a list of one's own becomes data -/
theorem Stt.freeze {T : Tb} {K : PySem.W.Frag} {H0 G0 G H : Hp} {σ : L2.St} {ρ : Rho} {i : Nat} {ds : List D} (S : Stt T K H0 G0 G H σ ρ) (hi : ρ[i]? = some (.own (.lst ds))) : ∃ G', Stt T K H0 G0 G' H σ (ρ.set i (.dat (.list ds))) := by
  obtain ⟨v, e1, q, rfl, ⟨xs, hx, hds⟩, gq, zq⟩ := S.slots i _ hi
  have hil : i < ρ.length := (List.getElem?_eq_some_iff.mp hi).1
  have sG : Same G (upd G q (.lst xs)) := same_new gq
  refine ⟨upd G q (.lst xs), S.gt, S.tb, S.sub0, ⟨S.ext.same.trans sG, fun b o z => ?_, fun b ps z => S.ext.tab b ps (upd_tab rfl b ps z)⟩, fun b o z => ?_, by simpa using S.len, fun j s e => ?_, fun j k s s' v v' a ej ek sj sk fj fk => ?_⟩
  · by_cases hb : b = q
    · subst hb; exact .inr zq
    · rw [upd_ne hb] at z; exact S.ext.new b o z
  · by_cases hb : b = q
    · subst hb; rw [upd_same] at z; cases z; exact hx
    · rw [upd_ne hb] at z; exact S.sub b o z
  · rcases at_set e with ⟨rfl, _, rfl⟩ | ⟨hj, e⟩
    · exact ⟨_, e1, _, rfl, .lst upd_same (dpAll_mono sG hds)⟩
    · obtain ⟨w, h1, h2⟩ := S.slots j s e
      refine ⟨w, h1, h2.keep sG (fun b o hb f => ?_) fun _ _ _ z _ => z⟩
      have nb : b ≠ q := fun y => by
        subst y
        exact hj (S.apart i j _ _ _ _ b hi e e1 h1 rfl f)
      rw [upd_ne nb]
      exact (h2.foot f).2.1
  · rcases at_set ej with ⟨rfl, _, rfl⟩ | ⟨nj, ej⟩
    · exact fj.elim
    · rcases at_set ek with ⟨rfl, _, rfl⟩ | ⟨nk, ek⟩
      · exact fk.elim
      · exact S.apart j k s s' v v' a ej ek sj sk fj fk
section
variable {X : Cx} {E : XW} {ρ : Rho} {e a b c tg iter elt : Expr} {es rest0 : List Expr} {st : Stmt} {sts rest body : List Stmt} {tR : TS} {α β γ : Type} {fin : α → Rho} {m ma mb mc : R D} {mt : R Bool} {ml mi ml2 : R (List D)} {mo : R (Out α)} {pos pos' p2 px py pz pt spos apos cpos : Pos} {x y z : Str} {k : Nat}
theorem jk_freeze {i : Nat} {ds : List D} (hi : ρ[i]? = some (.own (.lst ds))) (h : JK X E sts tR (ρ.set i (.dat (.list ds))) fin mo) : JK X E sts tR ρ fin mo := fun H0 G0 G H σ De S p => by
  obtain ⟨G', S'⟩ := S.freeze hi
  exact h H0 G0 G' H σ De S' p

/-! ### several new things at once -/
def newS : Slot → Bool
  | .dat _ => true
  | .own _ => true
  | .wlk _ _ => true
  | _ => false
theorem SlotOk.base {K : PySem.W.Frag} {H0 H1 G H : Hp} {v : Option V} {s : Slot} (h : SlotOk K H0 G H v s) (n : newS s = true) (e : ∀ p, H0 p = none → H1 p = none) : SlotOk K H1 G H v s := by
  cases s with
  | dat d => exact h
  | own o => obtain ⟨p, e1, q, g, z⟩ := h; exact ⟨p, e1, q, g, e p z⟩
  | wlk p w => obtain ⟨e1, pp, pl, q, k⟩ := h; exact ⟨e1, pp, pl, q, fun a ha => ⟨(k a ha).1, e a (k a ha).2⟩⟩
  | _ => cases n
/-- values of new things: data, or new objects, all apart -/
inductive News (K : PySem.W.Frag) (H0 G H : Hp) : List V → List Slot → Prop
  | nil : News K H0 G H [] []
  | cons {v : V} {s : Slot} {vs : List V} {ss : List Slot} : SlotOk K H0 G H (some v) s → newS s = true → (∀ (j : Nat) (s' : Slot) (v' : V) (a : Addr), ss[j]? = some s' → vs[j]? = some v' → Foot H (some v) a s → Foot H (some v') a s' → False) → News K H0 G H vs ss → News K H0 G H (v :: vs) (s :: ss)
theorem News.at {K : PySem.W.Frag} {H0 G H : Hp} {vs : List V} {ss : List Slot} (h : News K H0 G H vs ss) : ∀ (j : Nat) (s : Slot) (v : V), ss[j]? = some s → vs[j]? = some v → SlotOk K H0 G H (some v) s := by
  induction h with
  | nil => intro j s v e; simp at e
  | cons h n ap t ih =>
    intro j s v e1 e2
    cases j with
    | zero => simp at e1 e2; subst e1 e2; exact h
    | succ j => exact ih j s v (by simpa using e1) (by simpa using e2)
theorem News.mono {T : Tb} {K : PySem.W.Frag} {H0 H1 G G' H H' : Hp} {vs : List V} {ss : List Slot} (h : News K H0 G H vs ss) (s0 : ∀ p, H0 p = none → H1 p = none) (x : Ext G H G') (sH : Grow T H H') : News K H1 G' H' vs ss := by
  induction h with
  | nil => exact .nil
  | cons h n ap t ih =>
    refine .cons ((h.keep x.same (fun b o q f => x.free q (h.foot f).2.1) fun b o _ q n => sH.keep b o q n).base n s0) n (fun j s' v' a e1 e2 f1 f2 => ?_) ih
    exact ap j s' v' a e1 e2 (h.foot_back (fun b o _ q n => sH.keep b o q n) f1) ((t.at j s' v' e1 e2).foot_back (fun b o _ q n => sH.keep b o q n) f2)
theorem News.old {K : PySem.W.Frag} {H0 G H : Hp} {vs : List V} {ss : List Slot} (h : News K H0 G H vs ss) {p : Addr} {o : HO} (hp : H0 p = some o) (j : Nat) (s : Slot) (v : V) (e1 : ss[j]? = some s) (e2 : vs[j]? = some v) : ¬ Foot H (some v) p s := fun f => by
  have z := ((h.at j s v e1 e2).foot f).2.2
  rw [hp] at z; cases z
def EvX (K : PySem.W.Frag) (E : XW) (t : EvT (List V)) (ρ : Rho) (n : Nat) {γ : Type} (m : R γ) (f : γ → List Slot) : Prop :=
  ∀ (H0 G0 G H : Hp) (σ : L2.St) (Q : List V → Hp → Prop), Stt E.T K H0 G0 G H σ ρ →
    m.post (fun a => ∀ (vs : List V) (G' H' : Hp), Grow E.T H H' → Ext G H G' → Same G' H' → News K H G' H' vs (f a) → vs.length = n → Q vs H') (fun c => ∀ H', Grow E.T H H' → E c σ H') → t σ H Q
abbrev JX (X : Cx) (E : XW) (es : List Expr) (ρ : Rho) {γ : Type} (m : R γ) (f : γ → List Slot) : Prop := EvX X.K E (wA X es) ρ es.length m f
theorem jx_nil : JX X E [] ρ (.ok ()) (fun _ => []) := fun H0 G0 G H σ Q S p => wA.of pa_nil (p [] G H (Grow.refl _ _) (Ext.refl _ _) S.sub .nil rfl)
theorem jx_dat {ms : R γ} {f : γ → List Slot} (ha : JE X E e ρ m) (hr : JX X E es ρ ms f) (hs : noStar e = true := by rfl) : JX X E (e :: es) ρ (m.bind fun x => ms.bind fun y => .ok (x, y)) (fun z => .dat z.1 :: f z.2) := fun H0 G0 G H σ Q S p =>
  wA.of (pa_cons (wE.pe e) (wA.pa es) (star_cons hs)) (by
    refine ha.use S p fun d v G1 H1 s1 s2 s3 S1 r p1 => ?_
    refine hr H0 G0 G1 H1 σ _ S1 (R.post_mono (R.post_bind p1) (fun z _ p2 vs G2 H2 t1 t2 t3 nw hl => ?_) fun c _ z => z)
    exact p2 (v :: vs) G2 H2 (s1.trans t1) (s2.trans s1 t2) t3 (.cons ⟨_, rfl, dp_mono t2.same r⟩ rfl (fun _ _ _ _ _ _ f _ => f) (nw.mono (fun p z => s1.free z) (Ext.refl _ _) (Grow.refl E.T _))) (congrArg (· + 1) hl))
theorem jx_new {o : R Ob} {ms : R γ} {f : γ → List Slot} (ha : JN X E e ρ o) (hr : JX X E es ρ ms f) (hs : noStar e = true := by rfl) : JX X E (e :: es) ρ (o.bind fun x => ms.bind fun y => .ok (x, y)) (fun z => .own z.1 :: f z.2) := fun H0 G0 G H σ Q S p =>
  wA.of (pa_cons (wE.pe e) (wA.pa es) (star_cons hs)) (by
    refine ha H0 G0 G H σ _ S (R.post_mono (R.post_bind p) (fun ob _ p1 q G1 H1 s1 s2 s3 np gq hw => ?_) fun c _ z => z)
    have S1 := S.grow s1 s2 s3
    refine hr H0 G0 G1 H1 σ _ S1 (R.post_mono (R.post_bind p1) (fun z _ p2 vs G2 H2 t1 t2 t3 nw hl => ?_) fun c _ z H' s => z H' (s1.trans s))
    obtain ⟨u, hu⟩ := hw.at
    exact p2 (.ref q :: vs) G2 H2 (s1.trans t1) (s2.trans s1 t2) t3 (.cons ⟨q, rfl, hw.mono t2.same t1, t2.free hu gq, np⟩ rfl (fun j s' v' a e1 e2 f1 f2 => by cases (show some (V.ref q) = some (V.ref a) from f1); exact nw.old hu j s' v' e1 e2 f2) (nw.mono (fun p z => s1.free z) (Ext.refl _ _) (Grow.refl E.T _))) (congrArg (· + 1) hl))
theorem EvX.cong {K : PySem.W.Frag} {t : EvT (List V)} {n : Nat} {m m' : R γ} {f : γ → List Slot} (h : EvX K E t ρ n m f) (e : m = m') : EvX K E t ρ n m' f := e ▸ h
theorem EvX.map {K : PySem.W.Frag} {t : EvT (List V)} {n : Nat} {δ : Type} {m : R γ} {f : γ → List Slot} {g : δ → List Slot} {m' : R δ} (u : δ → γ) (h : EvX K E t ρ n m f) (e : m = m'.bind fun y => .ok (u y)) (hf : ∀ y, f (u y) = g y) : EvX K E t ρ n m' g := fun H0 G0 G H σ Q S p => by
  subst e
  refine h H0 G0 G H σ Q S (R.bind_post (R.post_mono p (fun y _ z => ?_) fun _ _ z => z))
  show ∀ (vs : List V) (G' H' : Hp), _ → _ → _ → _ → _ → _
  rw [hf y]
  exact z
theorem jx_lst {ms : R γ} {f : γ → List Slot} (ha : JN X E e ρ (ml.bind lstOb)) (hr : JX X E es ρ ms f) (hs : noStar e = true := by rfl) : JX X E (e :: es) ρ (ml.bind fun x => ms.bind fun y => .ok (x, y)) (fun z => .own (.lst z.1) :: f z.2) :=
  EvX.map (fun z : List D × γ => (Ob.lst z.1, z.2)) (jx_new ha hr hs) (by cases ml <;> cases ms <;> rfl) (fun _ => rfl)
theorem jx_dic {ms : R γ} {f : γ → List Slot} (hr : JX X E es ρ ms f) : JX X E (.Dict [] [] pos :: es) ρ (ms.bind fun y => .ok (([] : List (Key × D)), y)) (fun z => .own (.dic z.1) :: f z.2) :=
  EvX.map (fun z : List (Key × D) × γ => (Ob.dic z.1, z.2)) (jx_new jn_dict hr) (by cases ms <;> rfl) (fun _ => rfl)
/-- slots set one behind the other -/
def setAll : Rho → List Nat → List Slot → Rho
  | ρ, i :: is, s :: ss => setAll (ρ.set i s) is ss
  | ρ, _, _ => ρ
def putAll : L2.St → List Nat → List V → L2.St
  | σ, i :: is, v :: vs => putAll (σ.set i (some v)) is vs
  | σ, _, _ => σ
theorem Stt.news {K : PySem.W.Frag} {H0 G0 G H Hs : Hp} : ∀ {vs : List V} {ss : List Slot} {is : List Nat} {σ : L2.St} {ρ : Rho}, Grow E.T H0 Hs → News K Hs G H vs ss → Stt E.T K H0 G0 G H σ ρ →
    (∀ (k : Nat) (s : Slot) (v : V) (a : Addr), ss[k]? = some s → vs[k]? = some v → Foot H (some v) a s → ∀ (j : Nat) (t : Slot) (w : Option V), ρ[j]? = some t → σ[j]? = some w → ¬ Foot H w a t) → Stt E.T K H0 G0 G H (putAll σ is vs) (setAll ρ is ss)
  | _, _, [], σ, ρ, s0, .nil, S, _ => S
  | _, _, [], σ, ρ, s0, .cons _ _ _ _, S, _ => S
  | _, _, i :: is, σ, ρ, s0, .nil, S, _ => S
  | _, _, i :: is, σ, ρ, s0, .cons h n ap t, S, fr => by
    refine Stt.news (is := is) s0 t (S.put (h.base n fun p z => s0.free z) fun j s w a _ e1 e2 f1 f2 => fr 0 _ _ a rfl rfl f2 j s w e1 e2 f1) fun k s v a e1 e2 f j t w e3 e4 f2 => ?_
    rcases at_set e3 with ⟨rfl, _, rfl⟩ | ⟨hj, e3⟩
    · rcases at_set e4 with ⟨_, _, rfl⟩ | ⟨z, _⟩
      · exact ap k s v a e1 e2 f2 f
      · exact absurd rfl z
    · rw [List.getElem?_set_ne hj] at e4
      exact fr (k + 1) s v a (by simpa using e1) (by simpa using e2) f j t w e3 e4 f2
theorem Stt.news0 {K : PySem.W.Frag} {H0 G0 G H G' H' : Hp} {vs : List V} {ss : List Slot} {is : List Nat} {σ : L2.St} {ρ : Rho} (S : Stt E.T K H0 G0 G H σ ρ) (g : Grow E.T H H') (S' : Stt E.T K H0 G0 G' H' σ ρ) (nw : News K H G' H' vs ss) : Stt E.T K H0 G0 G' H' (putAll σ is vs) (setAll ρ is ss) :=
  Stt.news S.sub0 nw S' fun k s v a e1 e2 f j t w e3 e4 f2 => by
    have O := S.ok e3 e4
    obtain ⟨⟨u, hu, _⟩, _⟩ := O.foot (O.foot_back (fun b o _ q n => g.keep b o q n) f2)
    exact nw.old hu k s v e1 e2 f
theorem EvX.useS {K : PySem.W.Frag} {t : EvT (List V)} {n : Nat} {m : R γ} {f : γ → List Slot} (h : EvX K E t ρ n m f)
    {H0 G0 G H : Hp} {σ : L2.St} {Q : List V → Hp → Prop} (S : Stt E.T K H0 G0 G H σ ρ) {k : γ → R (Out α)} {q : Out α → Prop} (p : (m.bind k).post q (PoX H0 E))
    (g : ∀ (a : γ) (vs : List V) (G' H' : Hp), Grow E.T H H' → Ext G H G' → Same G' H' → Stt E.T K H0 G0 G' H' σ ρ → News K H G' H' vs (f a) → vs.length = n → (k a).post q (PoX H0 E) → Q vs H') : t σ H Q := by
  refine h H0 G0 G H σ Q S (R.post_mono (R.post_bind p) (fun a _ pa v G' H' s1 s2 s3 r hl => ?_) fun c _ z H' s => z σ H' (S.sub0.trans s))
  exact g a v G' H' s1 s2 s3 (S.grow s1 s2 s3) r hl pa
theorem len2 {vs : List V} (h : vs.length = 2) : ∃ v w, vs = [v, w] := by
  match vs, h with
  | [v, w], _ => exact ⟨v, w, rfl⟩
theorem len3 {vs : List V} (h : vs.length = 3) : ∃ u v w, vs = [u, v, w] := by
  match vs, h with
  | [u, v, w], _ => exact ⟨u, v, w, rfl⟩
theorem jk_parX2 {i1 i2 : Nat} {mg : R γ} {f : γ → List Slot} {k : γ → R (Out α)} {kt k2} {pt2} (he : JX X E [a, b] ρ mg f) (hk : ∀ z : γ, JK X E rest tR (setAll ρ [i1, i2] (f z)) fin (k z)) (hN : X.N.Nodup) (hc : X.calm = true) (hi : X.N[i1]? = some x := by rfl) (hj : X.N[i2]? = some y := by rfl) (hij : i1 ≠ i2 := by decide)
    (hx : X.env.scope.names.lookup x = some .local := by rfl) (hy : X.env.scope.names.lookup y = some .local := by rfl)
    (hw : swappedStores [.Tuple [.Name x px, .Name y py] kt pt] (.Tuple [a, b] k2 pt2) X.env = pure (some [x, y]) := by rfl)
    (hs : swapsWithSole [.Tuple [.Name x px, .Name y py] kt pt] (.Tuple [a, b] k2 pt2) pos.line X.env = pure false := by rfl) :
    JK X E (.Assign [.Tuple [.Name x px, .Name y py] kt pt] (.Tuple [a, b] k2 pt2) pos :: rest) tR ρ fin (mg.bind k) := jk_cons fun H0 G0 G H σ De S p => by
  refine wS.of (ps_par hc hN hi hj hij hx hy (wA.pa _) hw hs) (he.useS S p fun z vs G1 H1 s1 s2 s3 S1 nw hl p1 => ?_)
  obtain ⟨v, w, rfl⟩ := len2 hl
  exact ⟨v, w, rfl, hk z H0 G0 G1 H1 _ De (S.news0 (is := [i1, i2]) s1 S1 nw) p1⟩
theorem jk_parX3 {i1 i2 i3 : Nat} {mg : R γ} {f : γ → List Slot} {k : γ → R (Out α)} {kt k2} {pt2} (he : JX X E [a, b, c] ρ mg f) (hk : ∀ z : γ, JK X E rest tR (setAll ρ [i1, i2, i3] (f z)) fin (k z)) (hN : X.N.Nodup) (hc : X.calm = true) (hi : X.N[i1]? = some x := by rfl) (hj : X.N[i2]? = some y := by rfl) (hl : X.N[i3]? = some z := by rfl) (hij : i1 ≠ i2 := by decide) (hil : i1 ≠ i3 := by decide) (hjl : i2 ≠ i3 := by decide)
    (hx : X.env.scope.names.lookup x = some .local := by rfl) (hy : X.env.scope.names.lookup y = some .local := by rfl) (hz : X.env.scope.names.lookup z = some .local := by rfl)
    (hw : swappedStores [.Tuple [.Name x px, .Name y py, .Name z pz] kt pt] (.Tuple [a, b, c] k2 pt2) X.env = pure (some [x, y, z]) := by rfl)
    (hs : swapsWithSole [.Tuple [.Name x px, .Name y py, .Name z pz] kt pt] (.Tuple [a, b, c] k2 pt2) pos.line X.env = pure false := by rfl) :
    JK X E (.Assign [.Tuple [.Name x px, .Name y py, .Name z pz] kt pt] (.Tuple [a, b, c] k2 pt2) pos :: rest) tR ρ fin (mg.bind k) := jk_cons fun H0 G0 G H σ De S p => by
  refine wS.of (ps_par3 hc hN hi hj hl hij hil hjl hx hy hz (wA.pa _) hw hs) (he.useS S p fun z vs G1 H1 s1 s2 s3 S1 nw hl p1 => ?_)
  obtain ⟨u, v, w, rfl⟩ := len3 hl
  exact ⟨u, v, w, rfl, hk z H0 G0 G1 H1 _ De (S.news0 (is := [i1, i2, i3]) s1 S1 nw) p1⟩
/-- by way of a tuple (a name that is a cell) -/
theorem News.pad {K : PySem.W.Frag} {H0 G H : Hp} {p : Addr} {o : HO} {vs : List V} {ss : List Slot} (h : News K H0 G H vs ss) (hp : H p = none) : News K H0 G (upd H p o) vs ss := h.mono (fun _ z => z) (Ext.refl _ _) (grow_new (T := []) hp)
theorem jk_unpX2 {i1 i2 : Nat} {mg : R γ} {f : γ → List Slot} {k : γ → R (Out α)} {kt k2} {pt2} (he : JX X E [a, b] ρ mg f) (hk : ∀ z : γ, JK X E rest tR (setAll ρ [i1, i2] (f z)) fin (k z)) (hN : X.N.Nodup) (hc : X.calm = true) (hi : X.N[i1]? = some x := by rfl) (hj : X.N[i2]? = some y := by rfl)
    (hx : L2.Loc X.env.scope x := by first | exact Or.inl rfl | exact Or.inr rfl) (hy : L2.Loc X.env.scope y := by first | exact Or.inl rfl | exact Or.inr rfl) (hf : X.fn x = true ∨ X.env.scope.names.lookup x = some .local := by first | exact .inl rfl | exact .inr rfl | assumption) (hf2 : X.fn y = true ∨ X.env.scope.names.lookup y = some .local := by first | exact .inl rfl | exact .inr rfl | assumption)
    (hs : swapsWithSole [.Tuple [.Name x px, .Name y py] kt pt] (.Tuple [a, b] k2 pt2) pos.line X.env = pure false := by rfl) (hw : swappedStores [.Tuple [.Name x px, .Name y py] kt pt] (.Tuple [a, b] k2 pt2) X.env = pure none := by rfl) :
    JK X E (.Assign [.Tuple [.Name x px, .Name y py] kt pt] (.Tuple [a, b] k2 pt2) pos :: rest) tR ρ fin (mg.bind k) := jk_cons fun H0 G0 G H σ De S p => by
  refine wS.of (ps_asg (pe_tup (wA.pa _)) (pg_tup hc (pgs_cons (pg_name hN hi hx hf) (pgs_cons (pg_name hN hj hy hf2) pgs_nil))) hs hw) (he.useS S p fun z vs G1 H1 s1 s2 s3 S1 nw hl p1 => ?_)
  obtain ⟨v, w, rfl⟩ := len2 hl
  refine ⟨by show 2 ≤ sizeLine; decide, fun t ht => ?_⟩
  have S2 := S1.grow (grow_new (o := .tup [v, w]) ht) (Ext.refl _ _) (s3.trans (same_new ht))
  exact ⟨t, _, rfl, SqT.of upd_same, rfl, _, _, rfl, _, _, rfl, rfl, hk z H0 G0 G1 _ _ De (S.news0 (is := [i1, i2]) (s1.trans (grow_new ht)) S2 (nw.pad ht)) p1⟩
theorem jk_unpX3 {i1 i2 i3 : Nat} {mg : R γ} {f : γ → List Slot} {k : γ → R (Out α)} {kt k2} {pt2} (he : JX X E [a, b, c] ρ mg f) (hk : ∀ z : γ, JK X E rest tR (setAll ρ [i1, i2, i3] (f z)) fin (k z)) (hN : X.N.Nodup) (hc : X.calm = true) (hi : X.N[i1]? = some x := by rfl) (hj : X.N[i2]? = some y := by rfl) (hl : X.N[i3]? = some z := by rfl)
    (hx : L2.Loc X.env.scope x := by first | exact Or.inl rfl | exact Or.inr rfl) (hy : L2.Loc X.env.scope y := by first | exact Or.inl rfl | exact Or.inr rfl) (hz : L2.Loc X.env.scope z := by first | exact Or.inl rfl | exact Or.inr rfl) (hf : X.fn x = true ∨ X.env.scope.names.lookup x = some .local := by first | exact .inl rfl | exact .inr rfl | assumption) (hf2 : X.fn y = true ∨ X.env.scope.names.lookup y = some .local := by first | exact .inl rfl | exact .inr rfl | assumption) (hf3 : X.fn z = true ∨ X.env.scope.names.lookup z = some .local := by first | exact .inl rfl | exact .inr rfl | assumption)
    (hs : swapsWithSole [.Tuple [.Name x px, .Name y py, .Name z pz] kt pt] (.Tuple [a, b, c] k2 pt2) pos.line X.env = pure false := by rfl) (hw : swappedStores [.Tuple [.Name x px, .Name y py, .Name z pz] kt pt] (.Tuple [a, b, c] k2 pt2) X.env = pure none := by rfl) :
    JK X E (.Assign [.Tuple [.Name x px, .Name y py, .Name z pz] kt pt] (.Tuple [a, b, c] k2 pt2) pos :: rest) tR ρ fin (mg.bind k) := jk_cons fun H0 G0 G H σ De S p => by
  refine wS.of (ps_asg (pe_tup (wA.pa _)) (pg_tup hc (pgs_cons (pg_name hN hi hx hf) (pgs_cons (pg_name hN hj hy hf2) (pgs_cons (pg_name hN hl hz hf3) pgs_nil)))) hs hw) (he.useS S p fun z vs G1 H1 s1 s2 s3 S1 nw hl p1 => ?_)
  obtain ⟨u, v, w, rfl⟩ := len3 hl
  refine ⟨by show 3 ≤ sizeLine; decide, fun t ht => ?_⟩
  have S2 := S1.grow (grow_new (o := .tup [u, v, w]) ht) (Ext.refl _ _) (s3.trans (same_new ht))
  exact ⟨t, _, rfl, SqT.of upd_same, rfl, _, _, rfl, _, _, rfl, _, _, rfl, rfl, hk z H0 G0 G1 _ _ De (S.news0 (is := [i1, i2, i3]) (s1.trans (grow_new ht)) S2 (nw.pad ht)) p1⟩

/-! ### xs or ys, lists -/
theorem lb_or1 (h : JE X E b ρ m) : JB X E (.BoolOp .Or [b] pos) ρ ((m.bind asLst).bind lstOb) := lb_dat (je_one h)
theorem lb_or (ha : JB X E a ρ (ml.bind lstOb)) (hb : JB X E (.BoolOp .Or (b :: rest0) pos) ρ (ml2.bind lstOb)) : JB X E (.BoolOp .Or (a :: b :: rest0) pos) ρ ((ml.bind fun l => if l.isEmpty then ml2 else .ok l).bind lstOb) :=
  fun H0 G0 G H σ Q S p => wE.of (pe_orT (wE.pe a) (wE.pe _)) (by
    rw [R.bind_assoc] at p
    refine JB.useL ha S p fun ds q xs G1 H1 s1 s2 s3 S1 hx hd p1 => ?_
    refine ⟨!xs.isEmpty, .inl ⟨xs, hx, rfl⟩, ?_⟩
    have e : xs.isEmpty = ds.isEmpty := by
      have := hd.len
      cases xs <;> cases ds <;> simp_all
    rw [e]
    cases hh : ds.isEmpty with
    | true =>
      rw [hh] at p1
      exact hb.use0 S1 p1 fun u u' G2 H2 t1 t2 t3 S2 r2 q => q u' G2 H2 (s1.trans t1) (s2.trans s1 t2) t3 r2
    | false =>
      rw [hh] at p1
      exact p1 _ G1 H1 s1 s2 s3 ⟨q, rfl, xs, hx, hd⟩)
/-! ### xs[::-1] -/
theorem ln_rev {k : Nat} {p1 p2 p3 : Pos} (ha : JB X E a ρ (ml.bind lstOb)) : JN X E (.Subscript a (.Slice none none (some (.UnaryOp .USub (.Constant (.int 1) k p1) p2)) p3) pos) ρ ((ml.bind fun l => .ok l.reverse).bind lstOb) :=
  EvN.wE_of (pe_revL (wE.pe a)) fun H0 G0 G H σ Q S p => by
    rw [R.bind_assoc] at p
    refine JB.useL ha S p fun ds q xs G1 H1 s1 s2 s3 S1 hx hd p1 => ?_
    refine ⟨q, xs, rfl, hx, fun l hl => ?_⟩
    refine p1 l G1 _ (s1.trans (grow_new hl)) s2 (s3.trans (same_new hl)) (s1.free hl) (s3.free hl) ⟨_, upd_same, ?_⟩
    exact DqAll.rev hd
end
end Br
namespace Br
open PySem PySem.Spec PyProof.Rows L2
/-! ### tuple * n, n from 0 on -/
theorem mul_one (l : Addr) (its : Array Value) (n : Nat) (dd : Option Addr) (sl : Array (Option Value)) (u : Tok) :
    Meets (Builtin.«tuple.__mul__» ⟨[.ref l, .int 1 u], []⟩) (fun _ R s => s.heap.get? l = some { cls := .type "tuple", dict := dd, data := .seq its n, slots := sl } ∧ R (.ok (.ret (.ref l))) s) := by
  refine .of_wp fun prog w A R s h => ?_
  obtain ⟨hp, g, d, tk, os⟩ := s
  obtain ⟨hl, h⟩ := h
  have fi := AutoSeq1.idx_int
  wp_walk using wpAny_loadPart' hl
  repeat (first
    | (refine wpAny_ite_false (by decide) ?_; wp_walk using wpAny_loadPart' hl)
    | (refine wpAny_ite_true (by simp) ?_; wp_walk using wpAny_loadPart' hl))
  exact ⟨_, rfl, h⟩
theorem mul_zero (l : Addr) (its : Array Value) (n : Nat) (dd : Option Addr) (sl : Array (Option Value)) (u : Tok) (hi : its.isEmpty = false) :
    Meets (Builtin.«tuple.__mul__» ⟨[.ref l, .int 0 u], []⟩) (fun _ R s => s.heap.get? l = some { cls := .type "tuple", dict := dd, data := .seq its n, slots := sl } ∧ R (.ok (.ret (.ref s.heap.objs.size))) { s with heap := s.heap.push { cls := .type "tuple", data := .seq #[] }, toks := s.toks }) := by
  refine .of_wp fun prog w A R s h => ?_
  obtain ⟨hp, g, d, tk, os⟩ := s
  obtain ⟨hl, h⟩ := h
  have fi := AutoSeq1.idx_int
  wp_walk using wpAny_loadPart' hl
  repeat (first
    | (refine wpAny_ite_false (by simp [hi]) ?_; wp_walk using wpAny_loadPart' hl)
    | (refine wpAny_ite_true (by simp) ?_; wp_walk using wpAny_loadPart' hl))
  exact ⟨_, rfl, h⟩
end Br
namespace Br
open PySem PySem.Spec PyProof.Rows L2
/-! ### sorted(d.items()), ints -/
def backA : Value → Addr
  | .ref a => a
  | _ => 0
/-- pairs of ints, laid as tuples -/
abbrev PT3 := List (Addr × Int × Int)
def putP (H : Hp) : PT3 → Hp
  | [] => H
  | t :: T => putP (upd H t.1 (.tup [.int t.2.1, .int t.2.2])) T
theorem putP_off {b : Addr} : ∀ (T : PT3) (H : Hp), b ∉ T.map (·.1) → putP H T b = H b
  | [], _, _ => rfl
  | t :: T, H, h => by
    rw [List.map_cons, List.mem_cons, not_or] at h
    rw [putP, putP_off T _ h.2, upd_ne h.1]
theorem putP_at : ∀ (T : PT3) (H : Hp), (T.map (·.1)).Nodup → ∀ t ∈ T, putP H T t.1 = some (.tup [.int t.2.1, .int t.2.2])
  | [], _, _, t, ht => by cases ht
  | u :: T, H, nd, t, ht => by
    rw [List.map_cons, List.nodup_cons] at nd
    rw [putP]
    rcases List.mem_cons.mp ht with rfl | ht
    · rw [putP_off T _ nd.1, upd_same]
    · exact putP_at T _ nd.2 t ht
def rSortIt : V → Hp → VK → Prop := fun x H Q => ∃ (d : Addr) (kvs : List (Key × V)) (ps : List (Int × Int)), x = .ref d ∧ H d = some (.dK kvs) ∧ kvs = ps.map (fun q => ((.inl q.1 : Key), V.int q.2)) ∧
  ∀ (T : PT3) (l : Addr), (∀ t ∈ T, H t.1 = none) → H l = none → l ∉ T.map (·.1) → (T.map (·.1)).Nodup → (T.map (·.2)).Perm ps → (T.map (·.2)).Pairwise (fun a b => SrtO.lexB b a = false) →
    Q (.ref l) (upd (putP H T) l (.lst (T.map fun t => V.ref t.1)))
def tSortIt (te : TE) : TE := fun σ H Q => te σ H fun x H1 => rSortIt x H1 Q
section
variable {X : Cx} {e : Expr} {te : TE} {p apos cpos pos : Pos}
theorem Inv.takes {pins : List (Addr × Obj)} {σ : L2.St} {s s0 : Shared} {H0 : Hp} (I0 : Inv X pins σ H0 s0) : ∀ (T : PT3) (H : Hp), Inv X pins σ H s → (∀ t ∈ T, H t.1 = none ∧ s0.heap.objs.size ≤ t.1 ∧ Srt.IsPair s.heap (Value.ref t.1) t.2.1 t.2.2) → (T.map (·.1)).Nodup → Inv X pins σ (putP H T) s
  | [], H, I, _, _ => I
  | t :: T, H, I, h, nd => by
    rw [List.map_cons, List.nodup_cons] at nd
    obtain ⟨hn, hs, a, o, t1, t2, n, ea, ho, hc, hd⟩ := h t List.mem_cons_self
    cases ea
    have new : ObjOk X.prog X.w (upd H t.1 (.tup [.int t.2.1, .int t.2.2])) s.heap t.1 (.tup [.int t.2.1, .int t.2.2]) :=
      ⟨by show 2 ≤ sizeLine; decide, [.int t.2.1 t1, .int t.2.2 t2], .cons ⟨_, rfl⟩ (.cons ⟨_, rfl⟩ .nil), ⟨_, ho, hc, _, hd⟩⟩
    have I1 := I.take (t' := s.toks) (fun b ob _ z => z) (I0.fpOk hs hn) new
    refine Inv.takes I0 T _ I1 (fun u hu => ?_) nd.2
    obtain ⟨h1, h2, h3⟩ := h u (List.mem_cons_of_mem _ hu)
    exact ⟨by rw [upd_ne (fun z => nd.1 (by rw [← z]; exact List.mem_map_of_mem hu))]; exact h1, h2, h3⟩
theorem pe_sortedItems (hc : X.calm = true) (he : PE X e te) (hg : Gl X "sorted") (hm : X.mg "sorted" = none) (hbase : attributeBase e "items" X.env (eval e X.env) = eval e X.env := by rfl) (hline : (apos.endLine == cpos.line) = true := by rfl)
    (hs : starEach [.Call (.Attribute e "items" apos) [] [] cpos] X.env = (false, eval (.Call (.Attribute e "items" apos) [] [] cpos) X.env) :: starEach [] X.env := by rfl) :
    PE X (.Call (.Name "sorted" p) [.Call (.Attribute e "items" apos) [] [] cpos] [] pos) (tSortIt te) := by
  refine ⟨fun pins s σ H Q I hq => ?_⟩
  refine Call_ (ld_blt I hg hm (u := .builtin "sorted") (by decide +kernel) ?_)
  refine PyProof.Rows.callWith_builtin1 (PyProof.Rows.args_cons ?_ hs) hs rfl
  refine wpAny_Call_method (T := "dict") (id := "dict.items") hbase rfl hline F.plainAttrs_dict F.slot_dict_items F.type_dict_items (thn (he.run pins s σ H _ I hq) fun u s1 ⟨x, H1, I1, rx, d, kvs, ps, ex, hd, ek, q⟩ => ?_)
  subst ex
  cases rx
  obtain ⟨hz, lo, vs, kv, dd⟩ := I1.hok d _ hd
  obtain ⟨ep, hat⟩ := dd.dictAt
  have lk : kvs.length = vs.length := Paired.length kv
  have lp : ps.length = kvs.length := by rw [ek, List.length_map]
  refine ⟨dd.typeIs, dd.mapOf.noDict, ?_⟩
  show wpAny _ _ (callWith cpos (.builtin "dict.items") [.ref d] [] []) _ X.xe s1
  refine method_meetsIn F.slot_dict_items F.entry_dict_items rfl (PySem.evalArgs_none ⟨rfl, dd.typeIs, F.args_dict_items_1 _, _, meets_dict_items (mixKind X.prog X.w) d lo, ⟨vs, dd⟩, ?_⟩)
  refine PyProof.Rows.args_nil ?_
  refine Calls.call_function_entry PyProof.Rows.kind_sorted PyProof.Rows.plain_sorted PyProof.Rows.entry_sorted (PyProof.Rows.args_sorted1 _) ?_
  unfold Builtin.«sorted»
  refine wpAny_bind (m := checkCount "sorted" 1 1 _) (wpAny_pure ?_)
  refine wpAny_bind (PySem.W.kdx_collect (A := X.A.in1) (knd := mixKind X.prog X.w) (kvs := vs) (ep := ep) (I1.ok.hd hc) ⟨_, Heap.get?_push_size _ rfl, rfl, rfl⟩ (hat.push _) (by omega) fun h' tk as hk hl hG => ?_)
  have hz2 : (as.map Value.ref).length ≤ sizeLine := by rw [List.length_map]; omega
  refine wpAny_bind (wpAny_newList ?_ hz2)
  have nL : (h'.push (seqObj "list" (as.map Value.ref).toArray 0)).get? h'.objs.size = some (seqObj "list" (as.map Value.ref).toArray 0) := Heap.get?_push_size _ rfl
  -- which pair stands at which place
  have lay : ∀ (j : Nat) (a : Addr), as[j]? = some a → ∃ q, ps[j]? = some q ∧ Srt.IsPair h' (Value.ref a) q.1 q.2 := fun j a ha => by
    obtain ⟨key, k, x, f1, f2, f3⟩ := hG.pairs j a ha
    have hj : j < ps.length := by
      have := (List.getElem?_eq_some_iff.mp f1).1
      omega
    refine ⟨ps[j], List.getElem?_eq_getElem hj, ?_⟩
    have e1 : kvs[j]? = some ((.inl ps[j].1 : Key), V.int ps[j].2) := by rw [ek, List.getElem?_map, List.getElem?_eq_getElem hj]; rfl
    obtain ⟨qv, g1, g2, g3⟩ := LiI.paired_get kv e1
    rw [f1] at g1
    cases g1
    have rk : RelV (kV (.inl ps[j].1 : Key)) key := by
      rw [show (Sum.inl ps[j].1 : Key) = k from g2]
      exact relV_key (show keyIs k key = true from f2)
    obtain ⟨t1, rfl⟩ := rk
    obtain ⟨t2, rfl⟩ := g3
    exact ⟨a, _, t1, t2, _, rfl, f3, rfl, rfl⟩
  have nd : as.Nodup := List.Pairwise.imp (fun {a b} (h : a < b) => Nat.ne_of_lt h) hG.rise
  have lt : ∀ a ∈ as, a < h'.objs.size := fun a ha => hG.there ha
  -- the pair at an address
  let f : Value → Int × Int := fun v => match v with
    | .ref a => ps.getD (as.idxOf a) (0, 0)
    | _ => (0, 0)
  have fa : ∀ (j : Nat) (a : Addr) (q : Int × Int), as[j]? = some a → ps[j]? = some q → f (.ref a) = q := fun j a q h1 h2 => by
    obtain ⟨hj, rfl⟩ := List.getElem?_eq_some_iff.mp h1
    show ps.getD (as.idxOf as[j]) (0, 0) = q
    rw [List.Nodup.idxOf_getElem nd j hj, List.getD_eq_getElem?_getD, h2]
    rfl
  have pr : ∀ v ∈ as.map Value.ref, Srt.IsPair h' v (f v).1 (f v).2 := fun v hv => by
    obtain ⟨a, ha, rfl⟩ := List.mem_map.mp hv
    obtain ⟨j, hj⟩ := List.mem_iff_getElem?.mp ha
    obtain ⟨q, e1, e2⟩ := lay j a hj
    rw [fa j a q hj e1]
    exact e2
  refine wpAny_bind (wpAny_holding (wpAny_call_entry PyProof.Rows.slot_list_sort ⟨_, nL, rfl⟩ PyProof.Rows.entry_list_sort (SrtO.list_sort_ord (ltv := fun v u => SrtO.lexB (f v) (f u)) (SrtO.swo_lex f) nL hz2 (fun h2 => ?_) fun out so st => ⟨_, rfl, ?_⟩) (PyProof.Rows.args_list_sort _)))
  · refine SrtO.pairs_sortableO (by omega) (fun v hv => (pr v hv).keeps fun b o z _ => Heap.get?_push_of_some _ z) fun o z => ?_
    have z' : some o = some (seqObj "list" (as.map Value.ref).toArray 0) := z.symm.trans nL
    cases z'
    intro c
    exact absurd (Value.type.inj c) (by decide)
  · refine wpAny_pure ⟨_, rfl, ?_⟩
    -- the sorted addresses
    obtain ⟨bs, hbs⟩ : ∃ bs : List Addr, out = bs.map Value.ref := by
      have all : ∀ v ∈ out, ∃ a, v = Value.ref a := fun v hv => by
        obtain ⟨a, _, rfl⟩ := List.mem_map.mp (st.perm.mem_iff.mp hv)
        exact ⟨a, rfl⟩
      clear so st
      induction out with
      | nil => exact ⟨[], rfl⟩
      | cons v out ih =>
        obtain ⟨a, rfl⟩ := all v List.mem_cons_self
        obtain ⟨bs, rfl⟩ := ih fun u hu => all u (List.mem_cons_of_mem _ hu)
        exact ⟨a :: bs, rfl⟩
    subst hbs
    have pm : bs.Perm as := by
      have m := st.perm.map backA
      rw [List.map_map, List.map_map] at m
      have e0 : backA ∘ Value.ref = id := rfl
      rw [e0, List.map_id, List.map_id] at m
      exact m
    let T : PT3 := bs.map fun a => (a, f (.ref a))
    have T1 : T.map (·.1) = bs := (List.map_map).trans (List.map_id bs)
    have T2 : T.map (·.2) = bs.map fun a => f (.ref a) := List.map_map
    have ndT : (T.map (·.1)).Nodup := by rw [T1]; exact pm.nodup_iff.mpr nd
    have fas : as.map (fun a => f (.ref a)) = ps := by
      apply List.ext_getElem?
      intro j
      rw [List.getElem?_map]
      by_cases hj : j < as.length
      · rw [List.getElem?_eq_getElem hj]
        obtain ⟨q, e1, _⟩ := lay j _ (List.getElem?_eq_getElem hj)
        rw [e1]
        show some (f (.ref as[j])) = some q
        rw [fa j _ q (List.getElem?_eq_getElem hj) e1]
      · rw [List.getElem?_eq_none (by omega), List.getElem?_eq_none (by omega)]
        rfl
    have pmT : (T.map (·.2)).Perm ps := by rw [T2, ← fas]; exact pm.map _
    have soT : (T.map (·.2)).Pairwise (fun a b => SrtO.lexB b a = false) := by
      rw [T2, List.pairwise_map]
      exact List.pairwise_map.mp so
    have old : ∀ b o, s1.heap.get? b = some o → (h'.push (seqObj "list" (as.map Value.ref).toArray 0)).get? b = some o := fun b o z => Heap.get?_push_of_some _ (hk b o (Heap.get?_push_of_some _ z))
    have stay : ∀ b o, b ≠ h'.objs.size → (h'.push (seqObj "list" (as.map Value.ref).toArray 0)).get? b = some o → (sortedHeap (h'.push (seqObj "list" (as.map Value.ref).toArray 0)) h'.objs.size (as.map Value.ref) (bs.map Value.ref).toArray).get? b = some o := fun b o hb z =>
      (PyProof.Rows.sortedHeap_old hb (Heap.lt_size z)).trans z
    have sz : s1.heap.objs.size ≤ h'.objs.size := Nat.le_of_lt (Heap.lt_size (hk s1.heap.objs.size _ (Heap.get?_push_size _ rfl)))
    have big : ∀ b o, s1.heap.get? b = some o → b ≠ h'.objs.size := fun b o z => Nat.ne_of_lt (Nat.lt_of_lt_of_le (Heap.lt_size z) sz)
    obtain ⟨n, eF⟩ := PyProof.Rows.sortedHeap_at (vs := as.map Value.ref) (out := (bs.map Value.ref).toArray) nL
    have I2 : Inv X pins σ H1 { s1 with heap := sortedHeap (h'.push (seqObj "list" (as.map Value.ref).toArray 0)) h'.objs.size (as.map Value.ref) (bs.map Value.ref).toArray, toks := tk } := I1.kept (t' := tk) fun b o z => stay b o (big b o z) (old b o z)
    have hi : ∀ a ∈ as, s1.heap.objs.size ≤ a := fun a ha => by
      have z : (s1.heap.push { cls := .type "dict_items", data := .fields #[.ref d] }).objs.size < a := hG.above a ha
      rw [Heap.size_push] at z
      exact Nat.le_of_lt (Nat.lt_of_succ_lt z)
    have I3 := Inv.takes (s0 := s1) I1 T H1 I2 (fun t ht => by
      obtain ⟨a, ha, rfl⟩ := List.mem_map.mp ht
      have ha' := pm.mem_iff.mp ha
      refine ⟨I1.hok.fresh (hi a ha'), hi a ha', ?_⟩
      exact (pr _ (List.mem_map_of_mem ha')).keeps fun b o z c => stay b o (Nat.ne_of_lt (Heap.lt_size z)) (Heap.get?_push_of_some _ z)) ndT
    have lT : h'.objs.size ∉ T.map (·.1) := by
      rw [T1]
      intro z
      exact absurd (lt _ (pm.mem_iff.mp z)) (Nat.lt_irrefl _)
    have nl : H1 h'.objs.size = none := I1.hok.fresh sz
    have vl : Vals (T.map fun t => V.ref t.1) (bs.map Value.ref) := by
      have : (T.map fun t => V.ref t.1) = bs.map V.ref := List.map_map
      rw [this]
      exact LiI.vals_refs bs
    have I4 := I3.take (t' := tk) (h' := sortedHeap (h'.push (seqObj "list" (as.map Value.ref).toArray 0)) h'.objs.size (as.map Value.ref) (bs.map Value.ref).toArray) (fun b ob _ z => z) (I1.fpOk sz (by rw [putP_off T _ lT]; exact nl))
      (show ObjOk X.prog X.w (upd (putP H1 T) h'.objs.size (.lst (T.map fun t => V.ref t.1))) _ h'.objs.size (.lst (T.map fun t => V.ref t.1)) from ⟨by
        rw [List.length_map, List.length_map, pm.length_eq]
        omega, bs.map Value.ref, n, vl, eF⟩)
    exact ⟨.ref _, _, I4, rfl, q T _ (fun t ht => by
      obtain ⟨a, ha, rfl⟩ := List.mem_map.mp ht
      exact I1.hok.fresh (hi a (pm.mem_iff.mp ha))) nl lT ndT pmT soT⟩
end
end Br
namespace Br
open PySem PySem.Spec PyProof.Rows L2
/-! ### set(xs), xs a list of ints -/
section
variable {P : Program} {w : World} {A : Around} {E : Value → Shared → Prop} {s : Shared}
abbrev set0 (w : World) : Obj := { cls := .type "set", dict := none, data := .set #[] 0 (.fresh 0 0 (!w.params.followText "set-order")) }
theorem set_ints {l : Addr} {its : Array Value} (ns : List Int) {Q : Value → Shared → Prop} (nh : A.handled = none) (il : s.heap.IsList l its) (ii : IntsAre its.toList ns) (room : ns.length + 1 < scanBound)
    (go : ∀ (h' : Heap) (tk c : Nat), SetR w h' s.heap.objs.size (fun j => decide (j ∈ ns)) c → c ≤ ns.length → (∀ b o, s.heap.get? b = some o → h'.get? b = some o) → Q (.ref s.heap.objs.size) { s with heap := h', toks := tk }) :
    wpAny (model P w) A (call (.type "set") [.ref l]) Q E s := by
  have sz : its.size = ns.length := by
    have z := IntsAre.length ii
    rwa [Array.length_toList] at z
  obtain ⟨mc, mt, m0⟩ := F.called_set.mro
  have m1 := F.called_set.made
  have m2 := F.called_set.sub
  refine wpAny_call (codeAny_of_tree ?_)
  show wpAny _ _ (callAny (.type "set") _) _ _ _
  refine wpAny_pure ⟨Code.quiet_builtin _ (by decide +kernel), codeAny_builtin F.entry_type_call ?_⟩
  rw [Around.under_plain (weight_type_call_type "set" [.ref l] []) rfl]
  have m3 := F.called_set.notType
  have m4 := F.called_set.canCreate
  have m5 := F.typeCall_set_1 (.ref l)
  repeat (any_goals (first | assumption | wp_step))
  refine codeAny_mono (L2.code_set_led1 (.ref l) (E := E) (Q₁ := fun obj s₁ => obj = .ref s.heap.objs.size ∧ s₁ = { s with heap := s.heap.push (set0 w) }) ⟨rfl, rfl⟩) fun r s₁ hr => ?_
  cases r with
  | error e => exact hr
  | ok fl =>
    cases fl with
    | ret obj =>
      obtain ⟨rfl, rfl⟩ := hr
      have g0 : (s.heap.push (set0 w)).get? s.heap.objs.size = some (set0 w) := Heap.get?_push_size _ rfl
      have ty : Shared.TypeIs { s with heap := s.heap.push (set0 w) } (.ref s.heap.objs.size) "set" := ⟨_, g0, rfl⟩
      have k1 := F.called_set.init.lookup
      have k2 := F.called_set.init.bind (.ref s.heap.objs.size)
      repeat (any_goals (first | assumption | wp_step))
      refine codeAny_mono (codeAny_call_builtin (R := wants (fun r s₂ => r = .none ∧ ∃ h' tk c, s₂ = { s with heap := h', toks := tk } ∧ SetR w h' s.heap.objs.size (fun j => decide (j ∈ ns)) c ∧ c ≤ ns.length ∧ (∀ b o, s.heap.get? b = some o → h'.get? b = some o)) E) F.called_set.init.plain F.entry_set_init (check_set_init_1 ty ?_)) fun r₂ s₂ hr₂ => ?_
      · obtain ⟨ol, hol, hcl, nl, hdl⟩ := il
        obtain ⟨ocls, odict, odata, oslots⟩ := ol
        simp only at hcl hdl
        subst hcl hdl
        have hol2 : (s.heap.push (set0 w)).get? l = some { cls := .type "list", dict := odict, data := .seq its nl, slots := oslots } := Heap.get?_push_of_some _ hol
        have n1 := F.sub_list_set
        have n2 := F.sub_list_frozenset
        have n3 : (Value.type "list" == Value.type "dict") = false := by decide
        have il2 : (s.heap.push (set0 w)).IsList l its := ⟨_, hol2, rfl, nl, rfl⟩
        unfold Builtin.«set.__init__» noKeywords Builtin.Frozenset.updateFrom
        generalize hJ : pyIter = J
        wp_walk
        subst hJ
        refine wpAny_pyIter_list il2 ?_
        refine wpAny_bind (wpAny_runValue ?_)
        have ll : l < s.heap.objs.size := Heap.lt_size hol
        have nh3 : A.in1.in1.in1.handled = none := by simp [nh]
        have psz : (s.heap.push (set0 w)).objs.size = s.heap.objs.size + 1 := Heap.size_push ..
        have ap1 : l ≠ (s.heap.push (set0 w)).objs.size := by rw [psz]; exact Nat.ne_of_lt (Nat.lt_succ_of_lt ll)
        have ap2 : s.heap.objs.size ∉ [(s.heap.push (set0 w)).objs.size, l] := by
          rw [psz, List.mem_cons, List.mem_singleton, not_or]
          exact ⟨Nat.ne_of_lt (Nat.lt_succ_self _), Nat.ne_of_gt ll⟩
        have val : ∀ (i : Nat) (v : Value), its[i]? = some v → ∃ k t, ns[i]? = some k ∧ v = .int k t := fun i v hv => by
          have hi : i < ns.length := by rw [← sz]; exact (Array.getElem?_eq_some_iff.mp hv).1
          obtain ⟨t, e⟩ := PyProof.Rows.IntsAre.int_at ii i v (by rw [Array.getElem?_toList]; exact hv)
          rw [List.getD_eq_getElem?_getD, List.getElem?_eq_getElem hi] at e
          exact ⟨ns[i], t, List.getElem?_eq_getElem hi, e⟩
        refine set_update_ints ((Walks.list nh3 _ l ap1 its).toS) s.heap.objs.size ap2 ns sz room val (its.size - 0) 0 _ (by omega) (Nat.zero_le _) ⟨⟨_, Heap.get?_push_size _ rfl, rfl, rfl⟩, (il2.push _)⟩ ⟨0, Nat.le_refl 0, setR_new_at (Heap.get?_push_of_some _ g0)⟩ fun s' c' mv cle hS => ?_
        obtain ⟨h', g2, d', tk', os'⟩ := s'
        have eg : g2 = s.gens := mv.gens
        have ed : d' = s.drawn := mv.drawn
        have eo : os' = s.os := mv.os
        subst eg ed eo
        show wpAny _ _ _ _ _ _
        refine wpAny_pure ?_
        show wpAny _ _ (ret Value.none) _ _ _
        rw [sz] at cle
        refine wpAny_pure ⟨rfl, h', tk', c', rfl, hS, cle, fun b o e => ?_⟩
        have lb : b < s.heap.objs.size := Heap.lt_size e
        refine mv.heap b o ?_ (Heap.get?_push_of_some _ (Heap.get?_push_of_some _ e))
        rw [List.mem_cons, List.mem_singleton, not_or, psz]
        exact ⟨Nat.ne_of_lt lb, Nat.ne_of_lt (Nat.lt_succ_of_lt lb)⟩
      · cases r₂ with
        | error e => exact hr₂
        | ok fl₂ =>
          cases fl₂ with
          | ret r =>
            obtain ⟨rfl, h', tk, c', rfl, hS, cle, kp⟩ := hr₂
            repeat (any_goals (first | assumption | wp_step))
            exact go _ _ _ hS cle kp
          | _ => exact hr₂.elim
    | _ => exact hr.elim
end
/-- set(xs) -/
def rSetL (K : PySem.W.Frag) (w : World) : List V → Hp → VK → Prop := fun xs H Q => ∃ (l : Addr) (ns : List Int), xs = [V.ref l] ∧ SqL K H l (ns.map V.int) ∧ ns.length < 4000 ∧ ∀ (p : Addr) (c : Nat), H p = none → c ≤ ns.length → Q (.ref p) (upd H p (SetO w p (fun j => decide (j ∈ ns)) c))
section
variable {X : Cx}
theorem cr_setL (hc : X.calm = true) : CallR X (.type "set") (rSetL X.K X.w) := by
  intro pins s σ H xs us Q I r h
  obtain ⟨l, ns, rfl, hs, hl, q⟩ := h
  rw [Vals.ref1 r]
  obtain ⟨its, rv, pl, hz⟩ := I.list hs
  refine set_ints ns (I.ok.hd hc) pl.isList (by simpa using RZ.intsAre_vals rv) (by unfold scanBound; omega) fun h' tk c hS cle kp => ?_
  exact ⟨.ref _, _, I.laid (t' := tk) kp (Nat.le_refl _) (setO_new hS), rfl, q _ c (I.hok.fresh (Nat.le_refl _)) cle⟩
end
end Br
namespace Br
open PySem PySem.Spec PyProof.Rows L2
/-! ### tuple * n -/
def rRep01 (K : PySem.W.Frag) : R2 := fun x y H Q => ∃ l k xs, x = .ref l ∧ y = .int k ∧ SqT K H l xs ∧ xs ≠ [] ∧ (k = 1 ∧ Q (.ref l) H ∨ k = 0 ∧ ∀ p, H p = none → Q (.ref p) (upd H p (.tup [])))
section
variable {X : Cx}
theorem op_rep01 : OpR X (binaryOp .Mult) (rRep01 X.K) := by
  intro pins s σ H x y v u Q I rx ry h
  obtain ⟨l, k, xs, rfl, rfl, hT, hne, hq⟩ := h
  cases rx
  obtain ⟨t, rfl⟩ := ry
  obtain ⟨its, r, ⟨⟨cls, dd, data, sl⟩, ho, hc, n, hd⟩, hs⟩ := I.tuple hT
  simp only at hc hd
  subst hc hd
  have ne : its.toArray.isEmpty = false := by
    cases its with
    | nil => cases r; exact absurd rfl hne
    | cons _ _ => rfl
  rcases hq with ⟨rfl, q⟩ | ⟨rfl, q⟩
  · refine wpAny_binaryOp_repeat_ref (T := "tuple") (U := "int") (by decide) ⟨_, ho, rfl⟩ (fun s' => typeIs_int s' 1 t) noFill_tuple_mul F.fills_int_mul F.slot_int_rmul repeat_tuple F.slot_int_index.lookup
      (call_meets F.slot_int_rmul (typeIs_int s 1 t) F.entry_int_rmul (F.args_int_rmul_2 _ _) (int_rmul_tuple 1 t l its.toArray n dd sl)
        ⟨ho, rfl, ⟨_, ho, rfl⟩, call_meets F.slot_tuple_mul ⟨_, ho, rfl⟩ F.entry_tuple_mul (F.args_tuple_mul_2 _ _) (mul_one l its.toArray n dd sl t) ⟨ho, ?_⟩⟩)
    exact ⟨.ref l, H, I, rfl, q⟩
  · refine wpAny_binaryOp_repeat_ref (T := "tuple") (U := "int") (by decide) ⟨_, ho, rfl⟩ (fun s' => typeIs_int s' 0 t) noFill_tuple_mul F.fills_int_mul F.slot_int_rmul repeat_tuple F.slot_int_index.lookup
      (call_meets F.slot_int_rmul (typeIs_int s 0 t) F.entry_int_rmul (F.args_int_rmul_2 _ _) (int_rmul_tuple 0 t l its.toArray n dd sl)
        ⟨ho, rfl, ⟨_, ho, rfl⟩, call_meets F.slot_tuple_mul ⟨_, ho, rfl⟩ F.entry_tuple_mul (F.args_tuple_mul_2 _ _) (mul_zero l its.toArray n dd sl t ne) ⟨ho, ?_⟩⟩)
    exact ⟨.ref s.heap.objs.size, _, I.laid (t' := s.toks) (o := .tup []) (fun b ob z => Heap.get?_push_of_some _ z) (Nat.le_refl _) ⟨Nat.zero_le _, [], .nil, IsTup.new _ _⟩, rfl, q _ (I.hok.fresh (Nat.le_refl _))⟩
theorem op_repAny : OpR X (binaryOp .Mult) (fun x y H Q => rRepT X.K x y H Q ∨ rRep01 X.K x y H Q) := OpR.or op_repT op_rep01
end
def pyMulT : D → D → Option D
  | .tuple xs, .int k => if !xs.isEmpty && decide (0 ≤ k) && decide (k ≤ 1000) && decide (xs.length ≤ 1000) then some (.tuple (List.replicate k.toNat xs).flatten) else none
  | _, _ => none
section
variable {X : Cx} {E : XW} {ρ : Rho} {e a b c tg iter elt : Expr} {es rest0 : List Expr} {st : Stmt} {sts rest body : List Stmt} {tR : TS} {α β γ : Type} {fin : α → Rho} {m ma mb mc : R D} {mt : R Bool} {ml mi ml2 : R (List D)} {mo : R (Out α)} {pos pos' p2 px py pz pt spos apos cpos : Pos} {x y z : Str} {k : Nat}
theorem ok_mulT : OkE X.K (fun x y H Q => rRepT X.K x y H Q ∨ rRep01 X.K x y H Q) pyMulT := fun G H x y d e z Q s h1 h2 ez q => by
  cases d <;> cases e <;> simp only [pyMulT] at ez <;> try cases ez
  rename_i ds k
  split at ez
  · rename_i hh
    cases ez
    simp only [Bool.and_eq_true, Bool.not_eq_true', decide_eq_true_eq] at hh
    obtain ⟨⟨⟨h3, h4⟩, h5⟩, h6⟩ := hh
    obtain ⟨l, xs, rfl, hx, hd⟩ := Dq.tup_inv h1
    cases h2.int_inv
    have ne : xs ≠ [] := fun z => by subst z; cases hd; cases h3
    have lx := hd.len
    by_cases k0 : k = 0
    · subst k0
      refine .inr ⟨l, 0, xs, rfl, rfl, Same.tup s hx, ne, .inr ⟨rfl, fun p hp => ?_⟩⟩
      exact Endv.tup s q .nil hp
    · by_cases k1 : k = 1
      · subst k1
        refine .inr ⟨l, 1, xs, rfl, rfl, Same.tup s hx, ne, .inl ⟨rfl, ?_⟩⟩
        refine Endv.flat s q ?_
        rw [show (List.replicate (Int.toNat 1) ds).flatten = ds by simp]
        exact .tup hx hd
      · exact .inl ⟨l, k, xs, rfl, rfl, Same.tup s hx, ne, by omega, h5, by omega, fun p hp => Endv.tup s q (rep_dq hd _) hp⟩
  · cases ez
theorem je_mulT (ha : JE X E a ρ ma) (hb : JE X E b ρ mb) : JE X E (.BinOp a .Mult b pos) ρ (ma.bind fun x => mb.bind fun y => R.opt (pyMulT x y)) := je_bin op_repAny ok_mulT ha hb

/-! ### sorted(set(xs)), len(set(xs)) -/
def insS (a : Int) : List Int → List Int
  | [] => [a]
  | b :: r => if a < b then a :: b :: r else if a = b then b :: r else b :: insS a r
def setI : List Int → List Int
  | [] => []
  | a :: r => insS a (setI r)
theorem insS_mem (a k : Int) : ∀ l, k ∈ insS a l ↔ k = a ∨ k ∈ l
  | [] => by simp [insS]
  | b :: r => by
    unfold insS
    split
    · simp
    · split
      · rename_i h; subst h; simp
      · simp only [List.mem_cons, insS_mem a k r]
        constructor
        · rintro (h | h | h) <;> simp [h]
        · rintro (h | h | h) <;> simp [h]
theorem setI_mem (k : Int) : ∀ l, k ∈ setI l ↔ k ∈ l
  | [] => by simp [setI]
  | a :: r => by simp [setI, insS_mem, setI_mem k r]
theorem insS_sorted (a : Int) : ∀ l, l.Pairwise (· < ·) → (insS a l).Pairwise (· < ·)
  | [], _ => by simp [insS]
  | b :: r, h => by
    unfold insS
    split
    · rename_i hab
      refine List.pairwise_cons.mpr ⟨fun c hc => ?_, h⟩
      rcases List.mem_cons.mp hc with rfl | hc
      · exact hab
      · exact Int.lt_trans hab ((List.pairwise_cons.mp h).1 c hc)
    · split
      · exact h
      · refine List.pairwise_cons.mpr ⟨fun c hc => ?_, insS_sorted a r (List.pairwise_cons.mp h).2⟩
        rcases (insS_mem a c r).mp hc with rfl | hc
        · omega
        · exact (List.pairwise_cons.mp h).1 c hc
theorem setI_sorted : ∀ l, (setI l).Pairwise (· < ·)
  | [] => .nil
  | a :: r => insS_sorted a _ (setI_sorted r)
theorem set_unique : ∀ {l l' : List Int}, l.Pairwise (· < ·) → l'.Pairwise (· < ·) → (∀ k, k ∈ l ↔ k ∈ l') → l = l'
  | [], l', _, _, h => by
    cases l' with
    | nil => rfl
    | cons b r => exact absurd ((h b).mpr List.mem_cons_self) (by simp)
  | a :: r, l', s1, s2, h => by
    cases l' with
    | nil => exact absurd ((h a).mp List.mem_cons_self) (by simp)
    | cons b r' =>
      have p1 := List.pairwise_cons.mp s1
      have p2 := List.pairwise_cons.mp s2
      have e : a = b := by
        rcases List.mem_cons.mp ((h a).mp List.mem_cons_self) with e | ha
        · exact e
        · rcases List.mem_cons.mp ((h b).mpr List.mem_cons_self) with e | hb
          · exact e.symm
          · have := p1.1 b hb
            have := p2.1 a ha
            omega
      subst e
      rw [set_unique p1.2 p2.2 fun k => ⟨fun hk => by
        rcases List.mem_cons.mp ((h k).mp (List.mem_cons_of_mem _ hk)) with rfl | z
        · exact absurd (p1.1 _ hk) (Int.lt_irrefl _)
        · exact z, fun hk => by
        rcases List.mem_cons.mp ((h k).mpr (List.mem_cons_of_mem _ hk)) with rfl | z
        · exact absurd (p2.1 _ hk) (Int.lt_irrefl _)
        · exact z⟩]
theorem setI_len : ∀ l, (setI l).length ≤ l.length
  | [] => Nat.le_refl _
  | a :: r => by
    have : ∀ l, (insS a l).length ≤ l.length + 1 := by
      intro l
      induction l with
      | nil => simp [insS]
      | cons b r ih =>
        unfold insS
        split
        · simp
        · split
          · simp
          · simp; omega
    have h1 := this (setI r)
    have h2 := setI_len r
    simp only [setI, List.length_cons]
    omega
def sortSet (ds : List D) : R (List D) := match intsD ds with
  | some ns => if ns.length < 64 then .ok ((setI ns).map .int) else .stuck
  | none => .stuck
theorem ln_sortedSet {p p2 q : Pos} (hc : X.calm = true) (hm : X.mg "sorted" = none) (hm2 : X.mg "set" = none) (h : JB X E e ρ (ml.bind lstOb)) (hg : Gl X "sorted" := by rfl) (hg2 : Gl X "set" := by rfl) (he : noStar e = true := by rfl) :
    JN X E (.Call (.Name "sorted" p) [.Call (.Name "set" p2) [e] [] q] [] pos) ρ ((ml.bind sortSet).bind lstOb) :=
  EvN.wE_of (pe_callB (cr_sortedSet hc) hg hm (by decide +kernel) (pa_cons (pe_callTy (cr_setL hc) hg2 hm2 (by decide +kernel) (pa_cons (wE.pe e) pa_nil (star_cons he)) (by decide) (by decide) (star_cons he) rfl) pa_nil (star_cons rfl)) (by decide) (by decide) (star_cons rfl) rfl) fun H0 G0 G H σ Q S p => by
    rw [R.bind_assoc] at p
    refine JB.useL h S p fun ds q xs G1 H1 s1 s2 s3 S1 hx hd p1 => ?_
    unfold sortSet at p1
    cases ek : intsD ds with
    | none => rw [ek] at p1; exact p1.elim
    | some ns =>
      rw [ek] at p1
      dsimp only at p1
      split at p1
      · rename_i hl
        have ex := ints_of (dpAll_mono s3 hd).dp ek
        subst ex
        refine ⟨q, ns, rfl, hx, by omega, fun t c ht hcl => ?_⟩
        refine ⟨t, _, c, rfl, upd_same, by omega, fun ns' l so me hn hl2 => ?_⟩
        have e2 : ns' = setI ns := set_unique so (setI_sorted ns) fun k => by rw [me k, setI_mem]; simp
        subst e2
        have hlt : l ≠ t := fun z => by subst z; rw [upd_same] at hl2; cases hl2
        have hl1 : H1 l = none := by rw [upd_ne hlt] at hl2; exact hl2
        have sm : Same H1 (upd (upd H1 t (SetO X.w t (fun j => decide (j ∈ ns)) c)) l (.lst ((setI ns).map V.int))) := (same_new ht).trans (same_new hl2)
        exact p1 l G1 _ (s1.trans sm) s2 (s3.trans sm) (s1.free hl1) (s3.free hl1) ⟨_, upd_same, ints_dq _⟩
      · exact p1.elim
theorem sub_len : ∀ {l l' : List Int}, l.Nodup → (∀ k, k ∈ l → k ∈ l') → l.length ≤ l'.length
  | [], _, _, _ => Nat.zero_le _
  | a :: r, l', nd, h => by
    have p := List.nodup_cons.mp nd
    have ha := h a List.mem_cons_self
    have := sub_len (l := r) (l' := l'.erase a) p.2 fun k hk => by
      have ne : k ≠ a := fun z => p.1 (z ▸ hk)
      exact (List.mem_erase_of_ne ne).mpr (h k (List.mem_cons_of_mem _ hk))
    rw [List.length_erase_of_mem ha] at this
    have : 0 < l'.length := List.length_pos_of_mem ha
    simp only [List.length_cons]
    omega
theorem nodup_len {l l' : List Int} (n1 : l.Nodup) (n2 : l'.Nodup) (h : ∀ k, k ∈ l ↔ k ∈ l') : l.length = l'.length :=
  Nat.le_antisymm (sub_len n1 fun k hk => (h k).mp hk) (sub_len n2 fun k hk => (h k).mpr hk)
theorem firstMet_len (ns : List Int) : (PyProof.Rows.firstMet (fun i => ns.getD i 0) ns.length).length = (setI ns).length := by
  have em : (List.range ns.length).map (fun i => ns.getD i 0) = ns := by
    apply List.ext_getElem (by simp)
    intro i h1 h2
    simp at h1
    simp [h1]
  have nd : ∀ i, (PyProof.Rows.firstMet (fun i => ns.getD i 0) i).Nodup := by
    intro i
    induction i with
    | zero => exact List.nodup_nil
    | succ i ih =>
      rw [PyProof.Rows.firstMet_succ]
      unfold PyProof.Rows.step_dedup
      split
      · exact ih
      · rename_i hh
        refine List.nodup_append.mpr ⟨ih, by simp, fun a ha b hb => ?_⟩
        rw [List.mem_singleton.mp hb]
        intro z
        subst z
        exact hh (List.any_eq_true.mpr ⟨_, ha, beq_self_eq_true _⟩)
  refine nodup_len (nd _) ((setI_sorted ns).imp fun {a b} h => Int.ne_of_lt h) fun k => ?_
  rw [setI_mem]
  have := PyProof.Rows.firstMet_any (fun i => ns.getD i 0) ns.length k
  rw [em] at this
  constructor
  · intro hk
    have t : ns.any (· == k) = true := by rw [← this]; exact List.any_eq_true.mpr ⟨k, hk, beq_self_eq_true _⟩
    obtain ⟨j, hj, ej⟩ := List.any_eq_true.mp t
    rw [← eq_of_beq ej]; exact hj
  · intro hk
    have t : (PyProof.Rows.firstMet (fun i => ns.getD i 0) ns.length).any (· == k) = true := by rw [this]; exact List.any_eq_true.mpr ⟨k, hk, beq_self_eq_true _⟩
    obtain ⟨j, hj, ej⟩ := List.any_eq_true.mp t
    rw [← eq_of_beq ej]; exact hj
def tLenSetG (K : PySem.W.Frag) (ta : TE) : TE := fun σ H Q => ta σ H fun x H1 => ∃ (l : Addr) (ns : List Int), x = .ref l ∧ SqL K H1 l (ns.map V.int) ∧ ns.length ≤ 4000 ∧ Q (.int ((setI ns).length : Nat)) H1
theorem pe_lenSetG {ta : TE} {p p2 q : Pos} (hc : X.calm = true) (hg : Gl X "len") (hm : X.mg "len" = none) (hg2 : Gl X "set") (hm2 : X.mg "set" = none) (ha : PE X a ta)
    (na : starEach [a] X.env = (false, eval a X.env) :: starEach [] X.env := by rfl) : PE X (.Call (.Name "len" p) [.Call (.Name "set" p2) [a] [] q] [] pos) (tLenSetG X.K ta) := by
  refine ⟨fun pins s σ H Q I h => ?_⟩
  refine Call_ (ld_blt I hg hm boot_len ?_)
  refine PyProof.Rows.callWith_builtin1 (PyProof.Rows.args_cons ?_ rfl) rfl rfl
  refine Call_ (ld_blt I hg2 hm2 boot_set ?_)
  refine PyProof.Rows.callWith_type1 (PyProof.Rows.args_cons (thn (ha.run pins s σ H _ I h) fun v s1 ⟨x, H1, I1, r1, l, ns, ex, hq, hl, q1⟩ => PyProof.Rows.args_nil ?_) na) na rfl
  subst ex
  cases r1
  obtain ⟨its, r, pl, hz⟩ := I1.list hq
  have il : its.toArray.size = ns.length := by rw [List.size_toArray, ← r.length, List.length_map]
  refine call_set_list (I1.ok.hd hc) pl.isList (ns := ns) (by simpa using RZ.intsAre_vals r) (by rw [il]; unfold scanBound; omega) fun h' tk hS hk => PyProof.Rows.args_nil ?_
  rw [il, firstMet_len] at hS
  have le := setI_len ns
  obtain ⟨o, es, ep, t, ho, hex, hd, _, _, _, hf, hn⟩ := hS
  have I2 : Inv X pins σ H1 { s1 with heap := h', toks := tk } := I1.kept fun b o e => hk b o (Heap.lt_size e) e
  exact call_len_set ho hex hd hf (by rw [hn]; omega) ⟨.int ((setI ns).length : Nat), H1, I2.tok _, ⟨_, by rw [hn]⟩, q1⟩
def lenSet (ds : List D) : R D := match intsD ds with
  | some ns => if decide (ns.length ≤ 4000) then .ok (.int (setI ns).length) else .stuck
  | none => .stuck
theorem je_lenSet {p p2 q : Pos} (hc : X.calm = true) (hm : X.mg "len" = none) (hm2 : X.mg "set" = none) (h : JB X E e ρ (ml.bind lstOb)) (hg : Gl X "len" := by rfl) (hg2 : Gl X "set" := by rfl) (he : noStar e = true := by rfl) :
    JE X E (.Call (.Name "len" p) [.Call (.Name "set" p2) [e] [] q] [] pos) ρ (ml.bind lenSet) :=
  Ev.wE_of (pe_lenSetG hc hg hm hg2 hm2 (wE.pe e) (star_cons he)) fun H0 G0 G H σ Q S p => by
    refine JB.useL h S p fun ds q xs G1 H1 s1 s2 s3 S1 hx hd p1 => ?_
    unfold lenSet at p1
    cases ek : intsD ds with
    | none => rw [ek] at p1; exact p1.elim
    | some ns =>
      rw [ek] at p1
      dsimp only at p1
      split at p1
      · rename_i hl
        have ex := ints_of (dpAll_mono s3 hd).dp ek
        subst ex
        exact ⟨q, ns, rfl, hx, of_decide_eq_true hl, p1 _ G1 H1 s1 s2 s3 (.int _)⟩
      · exact p1.elim

/-! ### sorted(xs), ints -/
def sortL (ds : List D) : R (List D) := match intsD ds with
  | some ns => .ok ((sortI ns).map .int)
  | none => .stuck
theorem ln_sortedL {p : Pos} (hm : X.mg "sorted" = none) (h : JB X E e ρ (ml.bind lstOb)) (hg : Gl X "sorted" := by rfl) (he : noStar e = true := by rfl) : JN X E (.Call (.Name "sorted" p) [e] [] pos) ρ ((ml.bind sortL).bind lstOb) :=
  EvN.wE_of (pe_callB cr_sortedI hg hm (by decide +kernel) (pa_cons (wE.pe e) pa_nil (star_cons he)) (by decide) (by decide) (star_cons he) rfl) fun H0 G0 G H σ Q S p => by
    rw [R.bind_assoc] at p
    refine JB.useL h S p fun ds q xs G1 H1 s1 s2 s3 S1 hx hd p1 => ?_
    unfold sortL at p1
    cases ek : intsD ds with
    | none => rw [ek] at p1; exact p1.elim
    | some ns =>
      rw [ek] at p1
      have ex := ints_of (dpAll_mono s3 hd).dp ek
      subst ex
      refine ⟨q, ns, rfl, hx, fun ns' l pm so hl => ?_⟩
      have ey : ns' = sortI ns := sorted_unique (pm.trans (sortI_perm ns).symm) so (sortI_sorted ns)
      subst ey
      exact p1 l G1 _ (s1.trans (grow_new hl)) s2 (s3.trans (same_new hl)) (s1.free hl) (s3.free hl) ⟨_, upd_same, ints_dq _⟩
/-! ### list(range(a, b)) -/
def rngL : List D → R (List D)
  | [.int i, .int j] => if rngOk i && rngOk j && lineOk (j - i).toNat then .ok (rngD i (j - i).toNat) else .stuck
  | _ => .stuck
theorem ln_listRange2 {p p1 pos1 : Pos} (hc : X.calm = true) (hm : X.mg "list" = none) (hm2 : X.mg "range" = none) (ha : JE X E a ρ ma) (hb : JE X E b ρ mb) (hg : Gl X "list" := by rfl) (hg2 : Gl X "range" := by rfl) (hs : noStar a = true := by rfl) (hs2 : noStar b = true := by rfl) :
    JN X E (.Call (.Name "list" p) [.Call (.Name "range" p1) [a, b] [] pos1] [] pos) ρ ((ma.bind fun x => mb.bind fun y => rngL [x, y]).bind lstOb) :=
  EvN.wE_of (pe_listRg hc hg hm (prg_2 hg2 hm2 (wE.pe a) (wE.pe b) ((star_cons hs).trans rfl) (star_cons hs2) (star_any (by simp [hs2]))) (star_cons rfl)) fun H0 G0 G H σ Q S p => by
    rw [R.bind_assoc] at p
    refine ha.use S p fun d v G1 H1 s1 s2 s3 S1 r p1 => ?_
    rw [R.bind_assoc] at p1
    refine hb.use S1 p1 fun d2 w G2 H2 t1 t2 t3 S2 r2 p2 => ?_
    cases d <;> try exact p2.elim
    cases d2 <;> try exact p2.elim
    rename_i i j
    simp only [rngL] at p2
    split at p2
    · rename_i hh
      simp only [Bool.and_eq_true] at hh
      have h1 := rngOk_iff.mp hh.1.1
      have h2 := rngOk_iff.mp hh.1.2
      have h3 := lineOk_iff.mp hh.2
      rw [sizeLine_eq] at h3
      cases r.int_inv
      cases r2.int_inv
      refine ⟨i, j, rfl, rfl, ⟨h1.1, h1.2, h2.1, h2.2, h3⟩, fun l hl => ?_⟩
      refine p2 l G2 _ ((s1.trans t1).trans (grow_new hl)) (s2.trans s1 t2) (t3.trans (same_new hl)) ((s1.trans t1).free hl) (t3.free hl) ⟨_, upd_same, ?_⟩
      have := ints_dq (K := X.K) (G := G2) ((List.range (j - i).toNat).map fun k : Nat => i + (k : Int))
      rw [List.map_map, List.map_map] at this
      exact this
    · exact p2.elim
/-! ### sorted(d.items()) -/
def lexLe (p q : Int × Int) : Bool := !SrtO.lexB q p
def insP (a : Int × Int) : List (Int × Int) → List (Int × Int)
  | [] => [a]
  | b :: r => if lexLe a b then a :: b :: r else b :: insP a r
def sortP : List (Int × Int) → List (Int × Int)
  | [] => []
  | a :: r => insP a (sortP r)
theorem lexLe_iff {p q : Int × Int} : lexLe p q = true ↔ p.1 < q.1 ∨ (p.1 = q.1 ∧ p.2 ≤ q.2) := by
  unfold lexLe
  rw [Bool.not_eq_true', SrtO.lexB_no]
  omega
theorem insP_perm (a : Int × Int) : ∀ l, (insP a l).Perm (a :: l)
  | [] => .refl _
  | b :: r => by
    unfold insP
    split
    · exact .refl _
    · exact ((insP_perm a r).cons b).trans (List.Perm.swap a b r)
theorem sortP_perm : ∀ l, (sortP l).Perm l
  | [] => .refl _
  | a :: r => (insP_perm a _).trans ((sortP_perm r).cons a)
theorem insP_sorted (a : Int × Int) : ∀ l, l.Pairwise (fun p q => lexLe p q = true) → (insP a l).Pairwise (fun p q => lexLe p q = true)
  | [], _ => by simp [insP]
  | b :: r, h => by
    unfold insP
    split
    · rename_i hab
      refine List.pairwise_cons.mpr ⟨fun c hc => ?_, h⟩
      rcases List.mem_cons.mp hc with rfl | hc
      · exact hab
      · have := (List.pairwise_cons.mp h).1 c hc
        rw [lexLe_iff] at hab this ⊢
        omega
    · rename_i hab
      refine List.pairwise_cons.mpr ⟨fun c hc => ?_, insP_sorted a r (List.pairwise_cons.mp h).2⟩
      rcases List.mem_cons.mp ((insP_perm a r).mem_iff.mp hc) with rfl | hc
      · rw [lexLe_iff] at hab ⊢
        omega
      · exact (List.pairwise_cons.mp h).1 c hc
theorem sortP_sorted : ∀ l, (sortP l).Pairwise (fun p q => lexLe p q = true)
  | [] => .nil
  | a :: r => insP_sorted a _ (sortP_sorted r)
theorem sortedP_unique : ∀ {l l' : List (Int × Int)}, l.Perm l' → l.Pairwise (fun p q => lexLe p q = true) → l'.Pairwise (fun p q => lexLe p q = true) → l = l'
  | [], l', h, _, _ => by simpa using h.symm
  | a :: r, l', h, s1, s2 => by
    cases l' with
    | nil => simpa using h
    | cons b r' =>
      have ha : a ∈ b :: r' := h.mem_iff.mp List.mem_cons_self
      have hb : b ∈ a :: r := h.mem_iff.mpr List.mem_cons_self
      have e : a = b := by
        rcases List.mem_cons.mp ha with e | ha
        · exact e
        · rcases List.mem_cons.mp hb with e | hb
          · exact e.symm
          · have z1 := (List.pairwise_cons.mp s1).1 b hb
            have z2 := (List.pairwise_cons.mp s2).1 a ha
            rw [lexLe_iff] at z1 z2
            exact Prod.ext (by omega) (by omega)
      subst e
      rw [sortedP_unique (List.Perm.cons_inv h) (List.pairwise_cons.mp s1).2 (List.pairwise_cons.mp s2).2]
def intPairs : List (Key × D) → Option (List (Int × Int))
  | [] => some []
  | (.inl i, .int j) :: r => (intPairs r).map ((i, j) :: ·)
  | _ => none
theorem intPairs_of {K : PySem.W.Frag} {G : Hp} : ∀ {us : List (Key × V)} {kvs : List (Key × D)} {ps : List (Int × Int)}, KD K G us kvs → intPairs kvs = some ps → us = ps.map fun q => ((.inl q.1 : Key), V.int q.2)
  | _, _, ps, .nil, e => by cases e; rfl
  | (k1, v1) :: us, (k2, d2) :: kvs, ps, .cons r t, e => by
    obtain ⟨e1, e2⟩ := r
    dsimp only at e1 e2
    subst e1
    cases k1 with
    | inr x => simp [intPairs] at e
    | inl i =>
      cases d2 <;> simp only [intPairs] at e <;> try cases e
      rename_i j
      cases q : intPairs kvs with
      | none => rw [q] at e; cases e
      | some ps' =>
        rw [q] at e
        cases e
        cases e2.int_inv
        rw [List.map_cons, ← intPairs_of t q]
def pairD (q : Int × Int) : D := .tuple [.int q.1, .int q.2]
def sortItems (kvs : List (Key × D)) : R (List D) := match intPairs kvs with
  | some ps => .ok ((sortP ps).map pairD)
  | none => .stuck
theorem putP_same (T : PT3) (H : Hp) (h : ∀ t ∈ T, H t.1 = none) : Same H (putP H T) := fun b o z => by
  rw [putP_off T H fun hb => by
    obtain ⟨t, ht, rfl⟩ := List.mem_map.mp hb
    rw [h t ht] at z; cases z]
  exact z
theorem putP_new (T : PT3) (H G : Hp) {b : Addr} {o : HO} (e : putP G T b = some o) : G b = some o ∨ ∃ t ∈ T, t.1 = b := by
  by_cases hb : b ∈ T.map (·.1)
  · obtain ⟨t, ht, rfl⟩ := List.mem_map.mp hb
    exact .inr ⟨t, ht, rfl⟩
  · rw [putP_off T G hb] at e
    exact .inl e
theorem putP_tab (T : PT3) {G : Hp} (nd : (T.map (·.1)).Nodup) {b : Addr} {qs : Array Value} (e : putP G T b = some (.tbl qs)) : G b = some (.tbl qs) := by
  by_cases hb : b ∈ T.map (·.1)
  · obtain ⟨t, ht, rfl⟩ := List.mem_map.mp hb
    rw [putP_at T G nd t ht] at e
    cases e
  · rw [putP_off T G hb] at e
    exact e
theorem putP_sub (T : PT3) {G H : Hp} (s : Same G H) (nd : (T.map (·.1)).Nodup) : Same (putP G T) (putP H T) := fun b o z => by
  by_cases hb : b ∈ T.map (·.1)
  · obtain ⟨t, ht, rfl⟩ := List.mem_map.mp hb
    rw [putP_at T G nd t ht] at z
    rw [putP_at T H nd t ht]; exact z
  · rw [putP_off T _ hb] at z ⊢
    exact s b o z
theorem pairs_dq {K : PySem.W.Frag} {G : Hp} : ∀ (T : PT3), (∀ t ∈ T, G t.1 = some (.tup [.int t.2.1, .int t.2.2])) → DqAll K G (T.map fun t => V.ref t.1) ((T.map (·.2)).map pairD)
  | [], _ => .nil
  | t :: T, h => .cons (.tup (SqT.of (h t List.mem_cons_self)) (.cons (.int _) (.one (.int _)))) (pairs_dq T fun u hu => h u (List.mem_cons_of_mem _ hu))
theorem ln_sortedItems {kvs : List (Key × D)} {p : Pos} (hc : X.calm = true) (hm : X.mg "sorted" = none) (h : JB X E e ρ (.ok (.dic kvs))) (hg : Gl X "sorted" := by rfl) (hbase : attributeBase e "items" X.env (eval e X.env) = eval e X.env := by rfl) (hline : (apos.endLine == cpos.line) = true := by rfl) :
    JN X E (.Call (.Name "sorted" p) [.Call (.Attribute e "items" apos) [] [] cpos] [] pos) ρ ((sortItems kvs).bind lstOb) :=
  EvN.wE_of (pe_sortedItems hc (wE.pe e) hg hm hbase hline (star_cons rfl)) fun H0 G0 G H σ Q S p => by
    refine JB.dicUse h S fun q' us G1 H1 s1 s2 s3 S1 hu hd => ?_
    unfold sortItems at p
    cases ek : intPairs kvs with
    | none => rw [ek] at p; exact p.elim
    | some ps =>
      rw [ek] at p
      refine ⟨q', us, ps, rfl, hu, intPairs_of hd ek, fun T l hT hl nl nd pm so => ?_⟩
      have eT : T.map (·.2) = sortP ps := sortedP_unique (pm.trans (sortP_perm ps).symm) (so.imp fun {a b} z => by unfold lexLe; rw [z]; rfl) (sortP_sorted ps)
      have gT : ∀ t ∈ T, G1 t.1 = none := fun t ht => s3.free (hT t ht)
      have pl : putP H1 T l = none := by rw [putP_off T _ nl]; exact hl
      have sm : Same H1 (upd (putP H1 T) l (.lst (T.map fun t => V.ref t.1))) := (putP_same T H1 hT).trans (same_new pl)
      refine p l (putP G1 T) _ (s1.trans sm) (s2.trans s1 ⟨putP_same T G1 gT, fun b o z => ?_, fun b qs z => putP_tab T nd z⟩) ((putP_sub T s3 nd).trans (same_new pl)) (s1.free hl) (by rw [putP_off T _ nl]; exact s3.free hl) ⟨_, upd_same, ?_⟩
      · rcases putP_new T H1 G1 z with z | ⟨t, ht, rfl⟩
        · exact .inl z
        · exact .inr (hT t ht)
      · rw [← eT]
        exact pairs_dq T fun t ht => putP_at T G1 nd t ht
end
end Br
/-! a lambda of one's own: made, handed on, called; sorted(xs, key=lambda ..) -/
namespace Br
open PySem PySem.Spec PyProof.Rows L2
section
variable {X : Cx} {pins : List (Addr × Obj)} {σ : L2.St} {H : Hp} {s : Shared}
/-- what a def that makes a lambda leans on: its own code object at c, the table at P -/
structure LamF (T : Tb) (X : Cx) (c P : Addr) : Prop where
  tab : LamX.TabB X.base X.mg c P
  code : X.env.code = .ref c
  mem : (P, X.env.qual ++ "<lambda>") ∈ T
  one : ∀ p ∈ T, p.1 = P → p.2 = X.env.qual ++ "<lambda>"
abbrev lamQ (x : Str) : Str := x ++ ".<locals>." ++ "<lambda>"
theorem LamF.of {T : Tb} {CX : CXT} {P' : Program} {w : World} {K : PySem.W.Frag} {mg : Str → Option Value} {base : Heap} {N : List Str} {qual : Str} {scope : Scope} {f : Addr} {cdv : Value} {fd : FuncData} {A : Around} {outer : List PySem.Env} {s : Shared} {H : Hp} {E : XK} {c P : Addr}
    (tab : LamX.TabB base mg c P) (hcv : cdv = fd.code) (hc : fd.code = .ref c) (mem : (P, lamQ qual) ∈ T) (one : ∀ p ∈ T, p.1 = P → p.2 = lamQ qual) : LamF T (cxOf CX P' w K mg base N qual scope f cdv A outer s H E) c P := ⟨tab, hcv.trans hc, mem, one⟩
theorem grow_table {T : Tb} {P c' : Addr} {q : Str} {ps : Array Value} {pos : Pos} (hT : LamX.Tabs T H) (hu : ∀ p ∈ T, p.1 = P → p.2 = q) (hP : H P = some (.tbl ps)) (ht : TriplesOk ps.toList) (nC : H c' = none)
    (ha : ∀ (p : Pos) (cv : Value), codeAmong p ps.toList = some cv → ∃ c, cv = .ref c ∧ H c = some (LamX.CodeO c q)) :
    Grow T H (upd (upd H P (.tbl (ps ++ #[rawInt pos.line, rawInt pos.col, .ref c']))) c' (LamX.CodeO c' q)) := by
  have nPc : P ≠ c' := ne_of_none hP nC
  have keep : ∀ b o, H b = some o → nt o = true → upd (upd H P (.tbl (ps ++ #[rawInt pos.line, rawInt pos.col, .ref c']))) c' (LamX.CodeO c' q) b = some o := fun b o e n => by
    have n1 : b ≠ P := fun z => by rw [z, hP] at e; cases e; cases n
    rw [upd_ne (ne_of_none e nC), upd_ne n1]
    exact e
  refine ⟨keep, fun b qs e => ?_, fun _ p hp => ?_⟩
  · by_cases hb : b = P
    · subst hb
      exact ⟨_, by rw [upd_ne nPc, upd_same]⟩
    · exact ⟨qs, by rw [upd_ne (ne_of_none e nC), upd_ne hb]; exact e⟩
  · by_cases hb : p.1 = P
    · have eL : (ps ++ #[rawInt pos.line, rawInt pos.col, .ref c']).toList = ps.toList ++ [rawInt pos.line, rawInt pos.col, .ref c'] := by simp
      rw [hu p hp hb, hb]
      refine ⟨_, by rw [upd_ne nPc, upd_same], by rw [eL]; exact PySem.TriplesOk_snoc _ _ _ _ ht, fun p' cv hcv => ?_⟩
      rw [eL] at hcv
      rcases LamX.among_app _ ht hcv with z | z
      · obtain ⟨c0, e1, e2⟩ := ha p' cv z
        exact ⟨c0, e1, keep _ _ e2 rfl⟩
      · exact ⟨c', z, upd_same⟩
    · obtain ⟨qs, a1, a2, a3⟩ := hT p hp
      refine ⟨qs, by rw [upd_ne (ne_of_none a1 nC), upd_ne hb]; exact a1, a2, fun p' cv hcv => ?_⟩
      obtain ⟨c0, e1, e2⟩ := a3 p' cv hcv
      exact ⟨c0, e1, keep _ _ e2 rfl⟩
theorem nofr (I : Inv X pins σ H s) {f : Addr} (hf : s.heap.objs.size ≤ f) : f ∉ frs X.stack := fun z => by
  rcases List.mem_cons.mp (I.stkSub _ z) with e | e
  · have h1 := I.lt
    rw [← e] at h1
    exact Nat.lt_irrefl _ (Nat.lt_of_lt_of_le h1 hf)
  · exact I.nofs hf e
/-- a lambda is made -/
theorem lam_make {T : Tb} {c P : Addr} {params : Arguments} {body : Expr} {scope : Scope} {pos : Pos} {E : Value → Shared → Prop} {Q : Value → Shared → Prop} (I : Inv X pins σ H s) (L : LamF T X c P) (hT : LamX.Tabs T H) (hdef : defaultsOf params X.env = ([], []))
    (hfree : ∀ y ∈ scope.names, y.2 = .free → ∃ c, X.env.cells.lookup y.1 = some c)
    (h : ∀ (f c' : Addr) (pm ctv : Value) (H1 : Hp) (s' : Shared), Inv X pins σ H1 s' → Grow T H H1 →
      s'.heap.get? f = some (PySem.W.kla_obj "<lambda>" (X.env.qual ++ "<lambda>") params body scope (cloFrom X.env.cells scope.names []) pm c' ctv) → H1 f = none → f ∉ frs X.stack → s.heap.objs.size ≤ f → H1 c' = some (LamX.CodeO c' (X.env.qual ++ "<lambda>")) → Q (.ref f) s') :
    wpAny (model X.prog X.w) X.A (eval (.Lambda params body scope pos) X.env) Q E s := by
  obtain ⟨ps, hP, ht, ha⟩ := hT _ L.mem
  refine PySem.W.kla_eval hdef ?_
  have TB := L.tab
  have bP : s.heap.BuiltinsAt X.mg P := TB.bm.keeps I.bk
  have hP' : s.heap.get? P = some { cls := .none, data := .fields ps } := I.hok P _ hP
  cases hc : codeAmong pos ps.toList with
  | none =>
    refine PySem.W.kla_makeFunction (mg := X.mg) (c := c) (P := P) (ps := ps) (closure_ok hfree) I.ok.glob (I.mod.glob.keeps I.bk) L.code (TB.code.keeps I.bk) hP' ht hc TB.gP bP fun c' ctv h' tk hx hge hlt hrec htb => ?_
    obtain ⟨c2, oc, vs, t, e2, hoc, hd, hv⟩ := hrec
    cases e2
    have hsz : s.heap.objs.size ≤ h'.objs.size := Nat.le_trans hge (Nat.le_of_lt hlt)
    have nC : H c' = none := I.hok.fresh hge
    have push : ∀ {b : Addr} {o : Obj}, h'.get? b = some o → (h'.push (PySem.W.kla_obj "<lambda>" (X.env.qual ++ "<lambda>") params body scope (cloFrom X.env.cells scope.names []) ((X.mg "__name__").getD .none) c' ctv)).get? b = some o := fun e => Heap.get?_push_of_some _ e
    have I1 := LamX.inv_table (t' := tk) I hP (fun b o hb e => push (hx b o hb e)) (push htb) hge ⟨oc, vs, t, push hoc, hd, hv⟩
    have n1 : h'.objs.size ≠ c' := Nat.ne_of_gt hlt
    have n2 : h'.objs.size ≠ P := Nat.ne_of_gt (Nat.lt_of_lt_of_le (Heap.lt_size hP') hsz)
    exact h h'.objs.size c' _ ctv _ _ I1 (grow_table hT L.one hP ht nC ha) (Heap.get?_push_size _ rfl) (by rw [upd_ne n1, upd_ne n2]; exact I.hok.fresh hsz) (nofr I hsz) hsz upd_same
  | some cv =>
    obtain ⟨c', e, hco⟩ := ha pos cv hc
    subst e
    refine PySem.W.kla_makeFunctionHit (mg := X.mg) (c := c) (P := P) (ps := ps) (closure_ok hfree) I.ok.glob (I.mod.glob.keeps I.bk) L.code (TB.code.keeps I.bk) hP' ht hc bP fun ctv h' tk hx hsz => ?_
    exact h h'.objs.size c' _ ctv H _ (I.kept (t' := tk) fun b o e => Heap.get?_push_of_some _ (hx b o e)) (Grow.refl T H) (Heap.get?_push_size _ rfl) (I.hok.fresh hsz) (nofr I hsz) hsz hco
end
/-- a lambda without captured names is run -/
theorem run_lam {CX : CXT} {P : Program} {w : World} {K : PySem.W.Frag} {mg : Str → Option Value} {base : Heap} {k : Nat} {f c' : Addr} {qual : Str} {params : Arguments} {body : Expr} {scope : Scope} {pm ctv : Value} {N ps : List Str} (S : FnScope N ps scope)
    {A : Around} {outer : List Env} {s : Shared} {H : Hp} {us : List Value} {vs : List V} {Q : VK} {E : XK} (ho : s.heap.get? f = some (PySem.W.kla_obj "<lambda>" qual params body scope [] pm c' ctv)) (hc : H c' = some (LamX.CodeO c' qual))
    (hr : Room (k + 1) A) (e0 : Env0 P w K mg base A outer s H) (hb : bindArgs (PySem.W.kla_fn "<lambda>" qual params body scope [] pm (.ref c') ctv) ⟨us, []⟩ = pure (ps.zip us)) (r : Vals vs us) (hl : vs.length = ps.length)
    (hbody : Room k (A.deeper (envOfC qual scope s.heap.objs.size f (.ref c'))) → ∃ t : TE, PE (cxOf CX P w K mg base N qual scope f (.ref c') A outer s H E) body t ∧ t (L2.start N vs) H Q) :
    codeAny (model P w) A (.call (.ref f) ⟨us, []⟩) (L2.CR CX outer P w H s Q E) s := by
  have lim : s.heap.NoLimit := e0.mod.nolimit.keeps fun b o e => (e0.bs b o e).1
  obtain ⟨⟨oc, vs', t, hoc, hdc, hvc⟩, _, _⟩ := e0.hok c' _ hc
  have hkind : ∀ y ∈ ps.zip us, scope.names.lookup y.1 = some .local ∨ (scope.names.lookup y.1 = some .cell ∧ ((cellsFrom (s.heap.objs.size + 1) scope.names []).lookup y.1).isSome = true) := fun ⟨n, v⟩ hy =>
    (S.par n (List.of_mem_zip hy).1).imp id fun q => ⟨q, PySem.W.cellsFrom_some _ _ _ (.inl q)⟩
  refine PySem.W.kla_callFunE hr.depth ho rfl S.co S.gen rfl ⟨c', oc, vs', t, rfl, hoc, hdc, hvc⟩ ?_
  rw [hb]
  refine wpAny_pure (wpAny_newFunctionEnv_cells S.kind hkind fun env he s1 x => ?_)
  subst he
  refine ⟨lim.keeps x.toInCall.keep, ?_⟩
  obtain ⟨t, ht, hq⟩ := hbody (hr.deeper _)
  have I : Inv (cxOf CX P w K mg base N qual scope f (.ref c') A outer s H E) [] (L2.start N vs) H s1 := inv_start S hr.hd e0 hl r x
  refine PySem.W.kla_codeExpr (wpAny_mono (ht.run [] s1 _ H Q I hq) (fun v s' hs => ?_) fun e s' hs => hs)
  obtain ⟨w', H', J, rv, q⟩ := hs
  exact ⟨w', H', J.os, J.bare, J.base, J.hok, rv, q⟩

/-! ### sorted by keys -/
theorem each_of {K : PySem.W.Frag} {G : Hp} : ∀ {xs : List V} {us : List Value} {ds : List D}, Vals xs us → DqAll K G xs ds → PySem.W.EachIs (fun (u : Value) (d : D) => ∃ x, RelV x u ∧ Dq K G x d) us ds
  | _, _, _, .nil, .nil => .nil
  | _, _, _, .cons r rr, .cons h hh => .cons ⟨_, r, h⟩ (each_of rr hh)
theorem of_each {K : PySem.W.Frag} {G : Hp} : ∀ {us : List Value} {ds : List D}, PySem.W.EachIs (fun (u : Value) (d : D) => ∃ x, RelV x u ∧ Dq K G x d) us ds → ∃ xs, Vals xs us ∧ DqAll K G xs ds
  | _, _, .nil => ⟨[], .nil, .nil⟩
  | _, _, .cons ⟨x, r, h⟩ t => by
    obtain ⟨xs, rr, hh⟩ := of_each t
    exact ⟨x :: xs, .cons r rr, .cons h hh⟩
theorem vals_getV : ∀ {xs : List V} {us : List Value} {i : Nat} {u : Value}, Vals xs us → us[i]? = some u → ∃ x, xs[i]? = some x ∧ RelV x u
  | _, _, _, _, .nil, e => by simp at e
  | _, _, 0, _, .cons r _, e => by simp at e; subst e; exact ⟨_, rfl, r⟩
  | _, _, i + 1, u, .cons _ t, e => by
    obtain ⟨x, h1, h2⟩ := vals_getV (i := i) t (by simpa using e)
    exact ⟨x, by simpa using h1, h2⟩
theorem vals_snoc {x : V} {u : Value} (r : RelV x u) : ∀ {xs : List V} {us : List Value}, Vals xs us → Vals (xs ++ [x]) (us ++ [u])
  | _, _, .nil => .cons r .nil
  | _, _, .cons h t => .cons h (vals_snoc r t)
section
variable {X : Cx} {pins : List (Addr × Obj)} {σ : L2.St} {H G : Hp} {s : Shared}
theorem sorted_keyed {T : Tb} {l q : Addr} {xs : List V} {ds : List D} {key : D → D} {Q : VK} (I : Inv X pins σ H s) (hl : SqL X.K H l xs) (sG : Same G H) (hd : DqAll X.K G xs ds) (hal : PySem.W.AllAlike (ds.map key)) (hsk : PySem.W.Sortable (ds.map key)) (hu : ∀ d ∈ ds, X.A.units + 2 + (key d).depth < cLine)
    (call1 : ∀ (H' G' : Hp) (s' : Shared), Inv X pins σ H' s' → Grow T H H' → Ext G H G' → Same G' H' → (∀ b o, s.heap.get? b = some o → H b = none → b ∉ frs X.stack → H' b = none ∧ s'.heap.get? b = some o) → ∀ (x : V) (u : Value) (d : D), RelV x u → Dq X.K G' x d → d ∈ ds →
      wpAny (model X.prog X.w) X.A.in1.in1 (call (.ref q) [u]) (fun v s'' => ∃ (y : V) (H'' G'' : Hp), Inv X pins σ H'' s'' ∧ Un (frs X.stack) [] H' H'' s'.heap s''.heap ∧ Grow T H' H'' ∧ Ext G' H' G'' ∧ Same G'' H'' ∧ RelV y v ∧ Dq X.K G'' y (key d)) (fun _ _ => False) s')
    (done : ∀ (H' G' : Hp) (p : Addr) (ys : List V), Grow T H H' → Ext G H G' → Same G' H' → H' p = none → H p = none → G' p = none → DqAll X.K G' ys (ds.mergeSort (PySem.W.dataLe false key)) → Q (.ref p) (upd H' p (.lst ys))) :
    wpAny (model X.prog X.w) X.A (call (.builtin "sorted") [.ref l] [(Str.ofString "key", .ref q)]) (EP X pins σ Q) X.xe s := by
  obtain ⟨its, rv, pl, hz⟩ := I.list hl
  have n0 : its.length = ds.length := rv.length.symm.trans hd.len
  have hZ : its.length ≤ sizeLine := by rw [← rv.length]; exact hz
  refine PySem.W.sorted_of_sort pl.isList hZ (PyProof.Rows.ksk_s1 _ _) (fun _ => PyProof.Rows.ksk_l1 _ _) fun E' => ?_
  rw [PyProof.Rows.ksk_t1]
  unfold PyProof.Rows.ksk_tree
  have ho := PySem.W.copyHeap_at s.heap its
  obtain ⟨e1, ho1⟩ : ∃ e1, ((PySem.W.copyHeap s.heap its).update (s.heap.objs.size + 1) (Obj.mapSeq fun _ => (#[] : Array Value))).get? (s.heap.objs.size + 1) = some (seqObj "list" #[] e1) := ⟨_, get?_update_seq ho fun _ => #[]⟩
  refine wpAny_bind (listItems_at ho rfl ?_)
  refine wpAny_bind (listUpdate_at ho rfl ?_ (by rw [List.size_toArray]; exact hZ) (Nat.zero_le _))
  refine wpAny_bind (seqEpoch_at ho1 rfl ?_)
  refine wpAny_bind (wpAny_newTuple ?_ (by show its.length ≤ _; exact hZ))
  refine wpAny_bind (wpAny_newList ?_ (Nat.zero_le _))
  refine wpAny_holding ?_
  obtain ⟨a, ea⟩ : ∃ a, a = s.heap.objs.size + 1 := ⟨_, rfl⟩
  obtain ⟨hT, eT⟩ : ∃ hT : Heap, hT = ((PySem.W.copyHeap s.heap its).update (s.heap.objs.size + 1) (Obj.mapSeq fun _ => (#[] : Array Value))).push (seqObj "tuple" its.toArray 0) := ⟨_, rfl⟩
  have hkS : hT.objs.size = s.heap.objs.size + 3 := by
    rw [eT, size_push', Heap.size_update, PySem.W.copyHeap, size_push', Heap.size_update, size_push']
  have old : ∀ b o, s.heap.get? b = some o → (hT.push (seqObj "list" #[] 0)).get? b = some o := fun b o e => by
    refine Heap.get?_push_of_some _ ?_
    rw [eT]
    refine Heap.get?_push_of_some _ ?_
    rw [Heap.get?_update_ne _ _ _ _ (Nat.ne_of_lt (Nat.lt_succ_of_lt (Heap.lt_size e)))]
    exact PySem.W.copyHeap_old e
  have na0 : (hT.push (seqObj "list" #[] 0)).get? a = some (seqObj "list" #[] e1) := by
    refine Heap.get?_push_of_some _ ?_
    rw [eT, ea]
    exact Heap.get?_push_of_some _ ho1
  have nk0 : (hT.push (seqObj "list" #[] 0)).get? hT.objs.size = some (seqObj "list" #[] 0) := Heap.get?_push_size _ rfl
  show wpAny (model X.prog X.w) X.A.in1.in1 (PyProof.Rows.ksk_rest _ (.ref q) false its.toArray e1 (.ref (PySem.Heap.push ((PySem.W.copyHeap s.heap its).update (s.heap.objs.size + 1) (Obj.mapSeq fun _ => (#[] : Array Value))) (seqObj "tuple" its.toArray 0)).objs.size)) _ E' { s with heap := (PySem.Heap.push ((PySem.W.copyHeap s.heap its).update (s.heap.objs.size + 1) (Obj.mapSeq fun _ => (#[] : Array Value))) (seqObj "tuple" its.toArray 0)).push (seqObj "list" #[] 0) }
  rw [← eT, ← ea]
  obtain ⟨kS, ek⟩ : ∃ kS, kS = hT.objs.size := ⟨_, rfl⟩
  rw [← ek] at nk0 hkS ⊢
  clear ho ho1
  have hka : kS ≠ a := by omega
  have la : s.heap.objs.size ≤ a := by omega
  have lk : s.heap.objs.size ≤ kS := by omega
  have fa : ∀ {H' : Hp}, H' a = none → FpOk X pins H' a := fun n => I.fpOk la n
  have fk : ∀ {H' : Hp}, H' kS = none → FpOk X pins H' kS := fun n => I.fpOk lk n
  have I2 : Inv X pins σ H { s with heap := hT.push (seqObj "list" #[] 0) } := I.kept (t' := s.toks) old
  unfold PyProof.Rows.ksk_rest
  refine wpAny_bind (wpAny_rule ?_)
  rw [List.forIn_toArray]
  refine wpAny_bind (PyProof.Rows.ksk_fold (fun i s' => ∃ (H' G' : Hp) (kA : Array Value) (e : Nat) (ys : List V), Inv X pins σ H' s' ∧ Grow T H H' ∧ Ext G H G' ∧ Same G' H' ∧ H' a = none ∧ H' kS = none ∧ s'.heap.get? kS = some (seqObj "list" kA e) ∧ s'.heap.get? a = some (seqObj "list" #[] e1) ∧
      (∀ b o, s.heap.get? b = some o → H b = none → b ∉ frs X.stack → H' b = none ∧ s'.heap.get? b = some o) ∧ Vals ys kA.toList ∧ DqAll X.K G' ys ((ds.map key).take i)) its 0 _
    ⟨H, G, #[], 0, [], I2, Grow.refl T H, Ext.refl _ _, sG, I.hok.fresh la, I.hok.fresh lk, nk0, na0, fun b o e n _ => ⟨n, old b o e⟩, .nil, by rw [List.take_zero]; exact .nil⟩ ?step ?done)
  case step =>
    rintro j u s' hu' ⟨H', G', kA, e, ys, I', g1, g2, g3, za, zk, nk, na, kp, rk, dk⟩
    simp only [Nat.zero_add] at dk ⊢
    have hj : j < its.length := (List.getElem?_eq_some_iff.mp hu').1
    have hd' := dpAll_mono g2.same hd
    obtain ⟨x, hx, rx⟩ := vals_getV rv hu'
    obtain ⟨d, hdj, dx⟩ := hd'.getV hx
    have kl : kA.size ≤ its.length := by
      have h1 : ys.length = kA.size := by rw [rk.length, Array.length_toList]
      have h2 := dk.len
      rw [List.length_take, List.length_map] at h2
      omega
    refine wpAny_bind (wpAny_attempt (wpAny_mono (call1 H' G' s' I' g1 g2 g3 kp x u d rx dx (List.mem_of_getElem? hdj)) (fun v s'' hc => ?_) fun _ _ hF => hF.elim))
    obtain ⟨y, H'', G'', J, un, u1, u2, u3, ry, dy⟩ := hc
    try dsimp only
    have no : ∀ {b : Addr}, s.heap.objs.size ≤ b → b ∉ frs X.stack := fun h => nofr I h
    have nk2 : s''.heap.get? kS = some (seqObj "list" kA e) := un.keep kS _ nk zk (no lk) (by simp)
    have na2 : s''.heap.get? a = some (seqObj "list" #[] e1) := un.keep a _ na za (no la) (by simp)
    have zk2 : H'' kS = none := un.free kS _ nk zk (by simp)
    have za2 : H'' a = none := un.free a _ na za (by simp)
    have sb := Heap.SameBut.update s''.heap kS (Obj.mapSeq (·.push v))
    obtain ⟨c2, hc2⟩ : ∃ c2, (s''.heap.update kS (Obj.mapSeq (·.push v))).get? kS = some (seqObj "list" (kA.push v) c2) := ⟨_, get?_update_seq nk2 (·.push v)⟩
    refine wpAny_bind (listUpdate_at nk2 rfl ?_ (Nat.le_trans kl hZ) (Nat.le_trans (Nat.le_of_eq (Array.size_push ..)) (Nat.succ_le_succ (Nat.le_trans kl hZ))))
    have J2 : Inv X pins σ H'' { s'' with heap := s''.heap.update kS (Obj.mapSeq (·.push v)) } := J.turnedL (t' := s''.toks) (ch := [kS]) (fun b o hb q => (sb.2 b (fun z => hb (by simp [z]))).trans q) (fun b hb => by
      have : b = kS := by simpa using hb
      rw [this]; exact fk zk2)
    refine wpAny_pure ⟨rfl, H'', G'', kA.push v, c2, ys ++ [y], J2, g1.trans u1, g2.trans g1 u2, u3, za2, zk2, hc2, (sb.2 a hka.symm).trans na2, fun b o q n nf => ?_, ?_, ?_⟩
    · obtain ⟨z1, z2⟩ := kp b o q n nf
      exact ⟨un.free b o z2 z1 (by simp), (sb.2 b (fun z => Nat.lt_irrefl _ (Nat.lt_of_lt_of_le (Heap.lt_size q) (by rw [z]; exact lk)))).trans (un.keep b o z2 z1 nf (by simp))⟩
    · rw [Array.toList_push]
      exact vals_snoc ry rk
    · rw [List.take_add_one, List.getElem?_map, hdj]
      exact (dpAll_mono u2.same dk).append (.one dy)
  case done =>
    rintro s' ⟨H', G', kA, e, ys, I', g1, g2, g3, za, zk, nk, na, kp, rk, dk⟩
    rw [Nat.zero_add, List.take_of_length_le (by simp [n0])] at dk
    have hk' : PySem.W.EachIs (fun v k => ∃ as, Reads s'.heap v k as) kA.toList (ds.map key) := by
      have go : ∀ {ys : List V} {us : List Value} {ks : List D}, Vals ys us → DqAll X.K G' ys ks → PySem.W.EachIs (fun v k => ∃ as, Reads s'.heap v k as) us ks := by
        intro ys us ks r
        induction r generalizing ks with
        | nil => intro h; cases h; exact .nil
        | cons r rr ih => intro h; cases h with
          | cons h hh => exact .cons (Dp.reads I' _ _ _ (dp_mono g3 h).dp r) (ih hh)
      exact go rk dk
    have hsz : kA.size = its.length := by
      have h1 : ys.length = kA.size := by rw [rk.length, Array.length_toList]
      have h2 : ys.length = ds.length := by rw [dk.len, List.length_map]
      omega
    refine wpAny_bind (listItems_at nk rfl ?_)
    have hid : ∀ b o, (hidT s'.heap fun b => if b = kS then some (.lst []) else none).get? b = some o → s'.heap.get? b = some o ∧ b ≠ kS := fun b o e => by
      obtain ⟨z1, z2⟩ := of_hidT e
      exact ⟨z1, fun z => by rw [if_pos z] at z2; cases z2⟩
    have hidS : (hidT s'.heap fun b => if b = kS then some (.lst []) else none).get? kS = none := by
      cases z : (hidT s'.heap fun b => if b = kS then some (.lst []) else none).get? kS with
      | none => rfl
      | some o => exact absurd rfl (hid kS o z).2
    have hsrt : PySem.W.SortsAt X.prog X.w X.A.in1.in1 s' (PySem.W.dataKind s'.heap (ds.map key)) kA.toList := PySem.W.SortsAt.data (s := s') hk' hal hsk (fun d hd => by
      obtain ⟨d0, h0, rfl⟩ := List.mem_map.mp hd
      exact hu d0 h0)
    refine PySem.W.keyH_end (κ := PySem.W.dataKind s'.heap (ds.map key)) (h₁ := hidT s'.heap fun b => if b = kS then some (.lst []) else none) (fun b o _ e => (hid b o e).1) hidS nk na hka hsrt hsz hZ fun h3 tk3 c k3 n3 => ⟨rfl, ?_⟩
    have each := PySem.W.keyedOut_each (rev := false) key ⟨s'.heap, kA.toList, hal, rfl, hk'⟩ (each_of rv (dpAll_mono g2.same hd))
    obtain ⟨zs, rz, dz⟩ := of_each each
    have J1 : Inv X pins σ H' { s' with heap := h3, toks := tk3 } := I'.turnedL (ch := [kS, a]) (fun b o hb q => k3 b o (fun z => hb (by simp [z])) (hidT_get q (if_neg fun z => hb (by simp [z])))) (fun b hb => by
      have : b = kS ∨ b = a := by simpa using hb
      rcases this with rfl | rfl
      · exact fk zk
      · exact fa za)
    have len : zs.length ≤ sizeLine := by
      have := dz.len
      rw [List.length_mergeSort] at this
      omega
    have J2 := J1.take (t' := tk3) (h' := h3) (it := a) (o := .lst zs) (fun b ob _ e => e) (fa za) ⟨len, _, c, rz, n3⟩
    exact ⟨.ref a, _, J2, rfl, done H' G' a zs g1 g2 g3 za (I.hok.fresh la) (g3.free za) dz⟩
end

/-! ### the mirror of such a sort -/
def keyOk (f : D → R D) (d : D) : Bool := match f d with
  | .ok (.tuple [.str _, .str _]) => true
  | _ => false
def keyOf (f : D → R D) (d : D) : D := match f d with
  | .ok k => k
  | _ => .none
def insK (le : D → D → Bool) (d : D) : List D → List D
  | [] => [d]
  | e :: r => if le d e then d :: e :: r else e :: insK le d r
def strictK (le : D → D → Bool) : List D → Bool
  | [] => true
  | d :: r => (r.all fun e => le d e && !le e d) && strictK le r
def sortKey (f : D → R D) (ds : List D) : R (List D) :=
  if ds.all (keyOk f) then (if strictK (PySem.W.dataLe false (keyOf f)) (ds.foldr (insK (PySem.W.dataLe false (keyOf f))) []) then .ok (ds.foldr (insK (PySem.W.dataLe false (keyOf f))) []) else .stuck) else .stuck
theorem insK_perm (le : D → D → Bool) (d : D) : ∀ l : List D, (insK le d l).Perm (d :: l)
  | [] => .refl _
  | e :: r => by
    unfold insK
    split
    · exact .refl _
    · exact ((insK_perm le d r).cons e).trans (.swap d e r)
theorem sortK_perm (le : D → D → Bool) : ∀ l : List D, (l.foldr (insK le) []).Perm l
  | [] => .refl _
  | d :: r => (insK_perm le d _).trans ((sortK_perm le r).cons d)
theorem strict_unique {le : D → D → Bool} : ∀ {l m : List D}, l.Perm m → l.Pairwise (fun a b => le a b = true) → strictK le m = true → l = m
  | l, [], p, _, _ => p.eq_nil
  | [], b :: m, p, _, _ => absurd p.symm (by simp)
  | a :: l, b :: m, p, s, t => by
    unfold strictK at t
    rw [Bool.and_eq_true, List.all_eq_true] at t
    have e : a = b := by
      by_cases e : a = b
      · exact e
      · have ha : a ∈ m := (List.mem_cons.mp (p.mem_iff.mp List.mem_cons_self)).resolve_left e
        have hb : b ∈ l := (List.mem_cons.mp (p.symm.mem_iff.mp List.mem_cons_self)).resolve_left fun z => e z.symm
        have h1 := t.1 a ha
        rw [Bool.and_eq_true] at h1
        have h2 : le a b = true := (List.pairwise_cons.mp s).1 b hb
        rw [h2] at h1
        exact absurd h1.2 (by decide)
    subst e
    rw [strict_unique (p.cons_inv) (List.pairwise_cons.mp s).2 t.2]
theorem sortKey_eq {f : D → R D} {ds out : List D} (h : sortKey f ds = .ok out) : (∀ d ∈ ds, keyOk f d = true) ∧ ds.mergeSort (PySem.W.dataLe false (keyOf f)) = out := by
  unfold sortKey at h
  split at h
  · rename_i h1
    split at h
    · rename_i h2
      cases h
      refine ⟨List.all_eq_true.mp h1, strict_unique ((List.mergeSort_perm _ _).trans (sortK_perm _ ds).symm) ?_ h2⟩
      have tot := PySem.W.sortLe_total (PyProof.Rows.listOrd PyProof.Rows.itemOrd) false fun b => PySem.W.keyToks (keyOf f b)
      exact List.pairwise_mergeSort (le := PySem.W.dataLe false (keyOf f)) (fun a b c => tot.trans a b c) (fun a b => by rw [Bool.or_eq_true]; exact tot.total a b) ds
    · cases h
  · cases h
theorem keyOk_ok {f : D → R D} {d : D} (h : keyOk f d = true) : ∃ a b, f d = .ok (.tuple [.str a, .str b]) ∧ keyOf f d = .tuple [.str a, .str b] := by
  unfold keyOk at h
  split at h
  · rename_i a b e
    exact ⟨a, b, e, by unfold keyOf; rw [e]⟩
  · cases h
section
variable {X : Cx} {E : XW} {ρ : Rho} {e : Expr} {ml : R (List D)} {pos p lpos kpos : Pos} {x : Str} {c P : Addr} {params : Arguments} {body : Expr} {scope : Scope} {k : Nat} {CA : XC → Addr} {f : D → R D}
theorem ln_sortKey (hm : X.mg "sorted" = none) (hr : Room (k + 3) X.A) (L : LamF E.T X c P) (h : JB X E e ρ (ml.bind lstOb))
    (hb : ∀ (d : D) (fa c' : Addr) (A : Around) (outer : List PySem.Env) (s : Shared) (H : Hp) (X' : Cx), X' = cxOf (L2.CX X.prog X.w) X.prog X.w X.K X.mg X.base [x] (X.env.qual ++ "<lambda>") scope fa (.ref c') A outer s H (fun _ _ _ => False) → Ct X' CA (E00 E.T) k → JE X' (E00 E.T) body [.dat d] (f d))
    (S' : FnScope [x] [x] scope) (hbind : ∀ (q : Str) (pm cv ctv u : Value), bindArgs (PySem.W.kla_fn "<lambda>" q params body scope [] pm cv ctv) ⟨[u], []⟩ = pure [(x, u)] := by intros; rfl)
    (hdef : defaultsOf params X.env = ([], []) := by rfl) (hcl : cloFrom X.env.cells scope.names [] = [] := by rfl) (hg : Gl X "sorted" := by rfl) (he : noStar e = true := by rfl) :
    JN X E (.Call (.Name "sorted" p) [e] [⟨some "key", .Lambda params body scope lpos, kpos⟩] pos) ρ ((ml.bind (sortKey f)).bind lstOb) := fun H0 G0 G H σ Q S p0 => by
  rw [R.bind_assoc] at p0
  unfold wE
  intro pins s I
  refine wpAny_Call_Name_kw (ld_blt I hg hm (show bootBuiltins "sorted" = some (.builtin "sorted") by decide +kernel) ?_)
  refine PyProof.Rows.callWith_kw (thn ((pa_cons (wE.pe e) pa_nil (star_cons he)).run pos pins s σ H (fun vs H1 => ∃ (q : Addr) (ds : List D) (xs : List V) (G1 : Hp), vs = [.ref q] ∧ Grow E.T H H1 ∧ Ext G H G1 ∧ Same G1 H1 ∧ Stt E.T X.K H0 G0 G1 H1 σ ρ ∧ SqL X.K H1 q xs ∧ DqAll X.K G1 xs ds ∧
      ((sortKey f ds).bind lstOb).post (fun o => ∀ (p : Addr) (G' H' : Hp), Grow E.T H H' → Ext G H G' → Same G' H' → H p = none → G' p = none → ObW X.K G' H' p o → Q (.ref p) H') (fun c => ∀ H'', Grow E.T H1 H'' → E c σ H'')) I
    (JB.useL h S p0 fun ds q xs G1 H1 s1 s2 s3 S1 hx hd p1 => ⟨q, ds, xs, G1, rfl, s1, s2, s3, S1, hx, hd, p1⟩)) fun us s1 ⟨vs, H1, I1, r1, q1⟩ => ?_) (by rw [star_cons he]; rfl) (by rw [star_cons he]; rfl) rfl rfl
  obtain ⟨q, ds, xs, G1, rfl, g1, g2, g3, S1, hx, hd, po⟩ := q1
  obtain rfl := Vals.ref1 r1
  show wpAny _ _ (evalAll ((do let v ← eval (.Lambda params body scope lpos) X.env; standAt pos; pure v) :: [])) _ _ s1
  refine wpAny_evalAll_cons (wpAny_bind (lam_make I1 L (g1.tabs (S.sub0.tabs S.tb)) hdef (fun y hy ey => absurd ey (S'.nofree y hy)) fun fa c' pm ctv H2 s2 I2 u1 hf hfn hfr hsz hco => ?_))
  refine wpAny_bind (wpAny_standAt (wpAny_pure (wpAny_evalAll_nil ?_)))
  rw [hcl] at hf
  cases es : sortKey f ds with
  | exc c => rw [es] at po; unfold sortKey at es; split at es <;> (try split at es) <;> cases es
  | stuck => rw [es] at po; exact po.elim
  | ok out =>
    rw [es] at po
    obtain ⟨kok, kout⟩ := sortKey_eq es
    have po' : ∀ (p : Addr) (G' H' : Hp), Grow E.T H H' → Ext G H G' → Same G' H' → H p = none → G' p = none → ObW X.K G' H' p (.lst out) → Q (.ref p) H' := po
    have sG : Same G1 H2 := u1.sub S1.plainG g3
    refine sorted_keyed (T := E.T) (G := G1) (key := keyOf f) I2 (u1.seq hx) sG hd ?_ ?_ ?_ (fun H' G' s' I' a1 a2 a3 kp y u d ry dy hdm => ?_) (fun H' G' pa ys a1 a2 a3 z1 z2 z3 dz => ?_)
    · intro d1 h1 d2 h2
      obtain ⟨e1, m1, rfl⟩ := List.mem_map.mp h1
      obtain ⟨e2, m2, rfl⟩ := List.mem_map.mp h2
      obtain ⟨_, _, _, k1⟩ := keyOk_ok (kok e1 m1)
      obtain ⟨_, _, _, k2⟩ := keyOk_ok (kok e2 m2)
      rw [k1, k2]
      rfl
    · refine .inl fun d1 h1 => ?_
      obtain ⟨e1, m1, rfl⟩ := List.mem_map.mp h1
      obtain ⟨_, _, _, k1⟩ := keyOk_ok (kok e1 m1)
      exact ⟨_, _, k1⟩
    · intro d1 h1
      obtain ⟨a, b, _, k1⟩ := keyOk_ok (kok d1 h1)
      rw [k1]
      have := hr.un
      have : (PyData.tuple [.str a, .str b]).depth ≤ 2 := by simp [PyData.depth, PyData.depthAll]
      omega
    · obtain ⟨zf, hf'⟩ := kp fa _ hf hfn hfr
      have hc' := a1.keep _ _ hco rfl
      obtain ⟨ka, kb, kf, ke⟩ := keyOk_ok (kok d hdm)
      have gt' : ∀ b ps, G' b ≠ some (.tbl ps) := fun b ps z => S1.plainG b ps (a2.tab b ps z)
      have tb' := a1.tabs (u1.tabs (g1.tabs (S.sub0.tabs S.tb)))
      have hr2 : Room (k + 1) X.A.in1.in1 := hr.in1.in1
      have rc : codeAny (model X.prog X.w) X.A.in1.in1 (.call (.ref fa) ⟨[u], []⟩) (L2.CR (L2.CX X.prog X.w) X.stack X.prog X.w H' s' (fun y' H'' => ∃ G'', Grow E.T H' H'' ∧ Ext G' H' G'' ∧ Same G'' H'' ∧ Dq X.K G'' y' (keyOf f d)) (fun _ _ _ => False)) s' := by
        refine run_lam (N := [x]) (ps := [x]) (us := [u]) (vs := [y]) S' hf' hc' hr2 I'.env0.in1.in1 (hbind _ _ _ _ _) (.cons ry .nil) rfl fun hr3 => ⟨_, wE.pe body, ?_⟩
        refine hb d fa c' _ _ s' H' _ rfl ⟨LamX.takes0.imp fun cls dd σ' H'' hw => by obtain ⟨_, _, _, z⟩ := hw; exact z, hr3, rfl, passes_of (X := cxOf (L2.CX X.prog X.w) X.prog X.w X.K X.mg X.base [x] (X.env.qual ++ "<lambda>") scope fa (.ref c') X.A.in1.in1 X.stack s' H' (fun _ _ _ => False)) rfl⟩ H' G' G' H' _ _ (stt_start (N := [x]) (ss := [.dat d]) gt' tb' a3 (.cons dy .nil) (Nat.le_refl _)) ?_
        rw [kf]
        exact fun v G'' H'' b1 b2 b3 b4 => ⟨G'', b1, b2, b3, by rw [ke]; exact b4⟩
      refine wpAny_call (codeAny_mono rc fun r s'' hq => ?_)
      cases r with
      | error e => obtain ⟨_, _, _, _, _, _, _, _, _, _, _, _, z⟩ := hq; exact z
      | ok fl =>
        cases fl with
        | next => exact False.elim hq
        | brk => exact False.elim hq
        | cont => exact False.elim hq
        | ret v =>
          obtain ⟨y', H'', os, bare, un, hok, rv, G'', b1, b2, b3, b4⟩ := hq
          exact ⟨y', H'', G'', I'.call' os un hok bare (fun b z => nomatch z), un, b1, b2, b3, rv, b4⟩
    · rw [kout] at dz
      exact po' pa G' _ (((g1.trans u1).trans a1).trans (grow_new z1)) ((g2.trans g1 (Ext.refl _ _)).trans (g1.trans u1) a2) (a3.trans (same_new z1)) ((g1.trans u1).free z2) z3 ⟨ys, upd_same, dz⟩
end
end Br
/-! exceptions that are caught, asked for their class, kept -/
namespace Br
open PySem PySem.Spec PyProof.Rows L2

/-! ### xs.count(d), xs.index(d) of any data -/
def dOk (d : D) : Bool := d.plain && decide (d.depth ≤ 60)
def dsOk (ds : List D) : Bool := PyData.plainAll ds
def pyCountD (ds : List D) (d : D) : Option D := if dsOk ds && dOk d then some (.int ((ds.countP fun y => PyData.eqv y d : Nat) : Int)) else none
def pyIndexD (ds : List D) (d : D) : Option D := if SeqAt.shaped (.list ds) && SeqAt.shaped d then (ds.findIdx? fun y => PyData.eqv y d).map fun (j : Nat) => .int (j : Int) else none
section
variable {X : Cx} {E : XW} {ρ : Rho} {e a b : Expr} {m mb : R D} {ml : R (List D)} {pos apos cpos : Pos}
def rCntD (K : PySem.W.Frag) : V → List V → Hp → VK → Prop := fun x xs H Q => ∃ (p : Addr) (y : V) (d : D) (ds : List D), x = .ref p ∧ xs = [y] ∧ Dp K H (.ref p) (.list ds) ∧ Dp K H y d ∧ dsOk ds = true ∧ dOk d = true ∧ Q (.int ((ds.countP fun z => PyData.eqv z d : Nat) : Int)) H
theorem mt_countD (hu : X.A.units + 65 < cLine) : MtR X "list.count" (rCntD X.K) := by
  intro pins s σ H x xs v us Q I rx rxs h
  obtain ⟨p, y, d, ds, rfl, rfl, hl, hy, sl, sd, q⟩ := h
  cases rx
  obtain ⟨u, rfl, ru⟩ := rxs.one
  obtain ⟨bs, r1⟩ := Dp.reads I d y u hy ru
  obtain ⟨p', ys, ep, hs, ha⟩ := lst_inv hl
  cases ep
  obtain ⟨its, rv, pl, hlen⟩ := I.list hs
  obtain ⟨as, r2⟩ := Dp.readsAll I ds ys its ha rv
  simp only [dOk, Bool.and_eq_true, decide_eq_true_eq] at sd
  refine SeqAt.count_list_data (vs := its.toArray) pl.isList (by simpa using r2) r1 sl sd.1 ?_ ⟨.int _, H, I.tok _, ⟨_, rfl⟩, q⟩
  have : min (PyData.depthAll ds) d.depth ≤ d.depth := Nat.min_le_right _ _
  omega
theorem je_lcountD (hu : X.A.units + 65 < cLine) (ha : JB X E a ρ (ml.bind lstOb)) (hb : JH X E b ρ mb) (hbase : attributeBase a "count" X.env (eval a X.env) = eval a X.env := by rfl)
    (hfew : ((backTo cpos (starEach [b] X.env)).all (fun x => !x.1) && (backToKw cpos (keywordEach [] X.env)).all (fun x => x.1.isSome)
      && decide (([b] : List Expr).length + ([] : List Keyword).length + (if ([] : List Keyword).isEmpty then 0 else 1) < 30)) = true := by rfl)
    (hline : (apos.endLine == cpos.line) = true := by rfl) (hst : noStar b = true := by rfl) :
    JE X E (.Call (.Attribute a "count" apos) [b] [] cpos) ρ (ml.bind fun x => mb.bind fun y => R.opt (pyCountD x y)) :=
  Ev.wE_of (pe_bm PySem.F.plainAttrs_list PySem.F.slot_list_count PySem.F.type_list_count (mt_countD hu) (wE.pe a) (pa_cons (wE.pe b) pa_nil (star_cons hst)) hbase hfew hline (star_cons hst) rfl) fun H0 G0 G H σ Q S p => by
    refine JB.useL ha S p fun ds q xs G1 H1 s1 s2 s3 S1 hx hd p1 => ⟨.inl ⟨rfl, xs, hx⟩, ?_⟩
    refine hb.use S1 p1 fun d v G2 H2 t1 t2 t3 S2 r p2 => ?_
    obtain ⟨z, ez, q2⟩ := R.opt_post p2
    simp only [pyCountD] at ez
    split at ez
    · rename_i hc
      cases ez
      rw [Bool.and_eq_true] at hc
      exact ⟨q, v, d, ds, rfl, rfl, .lst (t1.seq hx) (dpAll_mono t3 (dpAll_mono t2.same hd)).dp, r, hc.1, hc.2, q2 (.int _) G2 H2 (s1.trans t1) (s2.trans s1 t2) t3 (.int _)⟩
    · cases ez
theorem je_lindexD (hu : X.A.units + 65 < cLine) (ha : JB X E a ρ (ml.bind lstOb)) (hb : JH X E b ρ mb) (hbase : attributeBase a "index" X.env (eval a X.env) = eval a X.env := by rfl)
    (hfew : ((backTo cpos (starEach [b] X.env)).all (fun x => !x.1) && (backToKw cpos (keywordEach [] X.env)).all (fun x => x.1.isSome)
      && decide (([b] : List Expr).length + ([] : List Keyword).length + (if ([] : List Keyword).isEmpty then 0 else 1) < 30)) = true := by rfl)
    (hline : (apos.endLine == cpos.line) = true := by rfl) (hst : noStar b = true := by rfl) :
    JE X E (.Call (.Attribute a "index" apos) [b] [] cpos) ρ (ml.bind fun x => mb.bind fun y => R.opt (pyIndexD x y)) :=
  Ev.wE_of (pe_bm PySem.F.plainAttrs_list PySem.F.slot_list_index PySem.F.type_list_index (mt_indexD hu) (wE.pe a) (pa_cons (wE.pe b) pa_nil (star_cons hst)) hbase hfew hline (star_cons hst) rfl) fun H0 G0 G H σ Q S p => by
    refine JB.useL ha S p fun ds q xs G1 H1 s1 s2 s3 S1 hx hd p1 => ⟨.inl ⟨rfl, xs, hx⟩, ?_⟩
    refine hb.use S1 p1 fun d v G2 H2 t1 t2 t3 S2 r p2 => ?_
    obtain ⟨z, ez, q2⟩ := R.opt_post p2
    simp only [pyIndexD] at ez
    split at ez
    · rename_i hc
      rw [Bool.and_eq_true] at hc
      cases ej : ds.findIdx? (fun y => PyData.eqv y d) with
      | none => rw [ej] at ez; cases ez
      | some j =>
        rw [ej] at ez
        cases ez
        obtain ⟨h1, h2, h3⟩ := List.findIdx?_eq_some_iff_getElem.mp ej
        refine ⟨q, v, d, ds, j, ds[j], rfl, rfl, .lst (t1.seq hx) (dpAll_mono t3 (dpAll_mono t2.same hd)).dp, r, hc.1, hc.2, List.getElem?_eq_getElem h1, h2, fun n z' hn ez' => ?_, q2 (.int _) G2 H2 (s1.trans t1) (s2.trans s1 t2) t3 (.int _)⟩
        have h4 := h3 n hn
        obtain ⟨hl, rfl⟩ := List.getElem?_eq_some_iff.mp ez'
        simpa using h4
    · cases ez
end

/-! ### isinstance of an exception that stands in the state -/
/-- p's object is an exception of the class c -/
structure IsX (CA : XC → Addr) (p : Addr × Obj) (c : XC) : Prop where
  z : Zc (.ref (CA c)) none p.2
  f : ∃ vs, p.2.data = .fields vs
section
variable {X : Cx} {E : XW} {ρ : Rho} {CA : XC → Addr} {p : Addr × Obj} {c : XC}
theorem call_isP (C : ExcC X.K (CA c)) (h : IsX CA p c) (hp : p ∈ X.pn) : CallR X (.builtin "isinstance") (rIsE X.K (CA c) p.1) := by
  intro pins s σ H xs us Q I r q
  obtain ⟨t, tv, b, rfl, htv, e, q⟩ := q
  obtain ⟨hget, _⟩ := I.pin p (List.mem_append_left _ hp)
  obtain ⟨⟨h1, h2⟩, vs, hv⟩ := h
  have J : PySem.W.InstAt s.heap p.1 p.2 (CA c) none := by
    obtain ⟨pa, oc, od, oda, osl⟩ := p
    dsimp only at h1 h2 hv hget
    subst h1 h2 hv
    exact ⟨hget, rfl, rfl, trivial⟩
  cases r with
  | cons rx rr =>
    cases rr with
    | cons rt rr =>
      cases rr
      cases rx
      cases htv _ rt
      exact PySem.W.kia_one (PySem.W.handS_kitx_exc C.hg C.hk C.hs C.hd C.ha C.hn C.ht C.hm) I.kIn J e (fun z => nomatch z) fun tk => ⟨.bl b, H, I.kept (t' := tk) fun _ _ z => z, rfl, q⟩
theorem je_isX {i : Nat} {x T : Str} {b : Bool} {a : Addr} {p1 p2 p3 pos : Pos} (hi : ρ[i]? = some (.ptr p.1)) (C : ExcC X.K (CA c)) (h : IsX CA p c) (hp : p ∈ X.pn) (hT : X.mg T = some (.ref a)) (hm : X.mg "isinstance" = none) (hb : PySem.W.kitOne X.K (.ref (CA c)) (.ref a) = some b)
    (hN : X.N[i]? = some x := by rfl) (hv : Vis X.env.scope x := by first | exact Or.inl rfl | exact Or.inr (Or.inl rfl) | exact Or.inr (Or.inr rfl)) (hd : (x == ("__debug__" : Str)) = false := by decide)
    (hcd : (x == ("__classdict__" : Str)) = false := by decide) (hg : Gl X "isinstance" := by rfl) (hgT : Gl X T := by rfl) (hdT : (T == ("__debug__" : Str)) = false := by decide) :
    JE X E (.Call (.Name "isinstance" p1) [.Name x p2, .Name T p3] [] pos) ρ (.ok (.bool b)) := by
  refine Ev.wE_of (pe_callB (call_isP C h hp) hg hm (by decide +kernel) (pa_cons (pe_var hN hv hd hcd) (pa_cons (pe_glob (v := .ref a) hgT hT rfl hdT) pa_nil)) (by decide) (by decide) rfl rfl) fun H0 G0 G H σ Q S q => ?_
  obtain ⟨v, e1, rfl⟩ := S.slots i _ hi
  exact ⟨_, e1, .ref a, .ref a, b, rfl, fun u ru => ru, hb, q (.bl b) G H (Grow.refl _ _) (Ext.refl _ _) S.sub (.bl b)⟩
theorem je_isXV {i : Nat} {x : Str} {b : Bool} {p1 p2 p3 pos : Pos} (hi : ρ[i]? = some (.ptr p.1)) (C : ExcC X.K (CA c)) (h : IsX CA p c) (hp : p ∈ X.pn) (hT : X.mg "ValueError" = none) (hm : X.mg "isinstance" = none) (hb : PySem.W.kitOne X.K (.ref (CA c)) (.type "ValueError") = some b)
    (hN : X.N[i]? = some x := by rfl) (hv : Vis X.env.scope x := by first | exact Or.inl rfl | exact Or.inr (Or.inl rfl) | exact Or.inr (Or.inr rfl)) (hd : (x == ("__debug__" : Str)) = false := by decide)
    (hcd : (x == ("__classdict__" : Str)) = false := by decide) (hg : Gl X "isinstance" := by rfl) (hgT : Gl X "ValueError" := by rfl) :
    JE X E (.Call (.Name "isinstance" p1) [.Name x p2, .Name "ValueError" p3] [] pos) ρ (.ok (.bool b)) := by
  refine Ev.wE_of (pe_callB (call_isP C h hp) hg hm (by decide +kernel) (pa_cons (pe_var hN hv hd hcd) (pa_cons (pe_bltn (v := .ty "ValueError") hgT hT (by decide +kernel) rfl (by decide) (by decide)) pa_nil)) (by decide) (by decide) rfl rfl) fun H0 G0 G H σ Q S q => ?_
  obtain ⟨v, e1, rfl⟩ := S.slots i _ hi
  exact ⟨_, e1, .ty "ValueError", .type "ValueError", b, rfl, fun u ru => ru, hb, q (.bl b) G H (Grow.refl _ _) (Ext.refl _ _) S.sub (.bl b)⟩
end
end Br
/-! a def that asks an exception; try with the exception kept -/
namespace Br
open PySem PySem.Spec PyProof.Rows L2
section
variable {P : Program} {w : World} {K : PySem.W.Frag} {mg : Str → Option Value} {base : Heap} {CA : XC → Addr}
/-- a def of one argument, an exception object: it tells a text -/
structure FnP (T : Tb) (P : Program) (w : World) (K : PySem.W.Frag) (mg : Str → Option Value) (base : Heap) (CA : XC → Addr) (k : Nat) (x : Str) (F : XC → Option Str) : Prop where
  ex : ∃ (f : Addr) (fd : FuncData) (y : Str), mg x = some (.ref f) ∧ PySem.W.keepIn K (.ref f) = true ∧ Binds K fd [y] [] ∧
    ∀ (A : Around) (outer : List PySem.Env) (s : Shared) (H : Hp) (p : Addr × Obj) (c : XC) (t : Str) (Q : VK), L2H.RoomH k A → L2H.PinOk outer H s p → IsX CA p c → Env0 P w K mg base A outer s H → LamX.Tabs T H →
      BindsTo s fd ⟨[.ref p.1], []⟩ ([y].zip [.ref p.1]) → F c = some t → (∀ H', Grow T H H' → Q (.str t) H') →
      codeAny (model P w) A (.call (.ref f) ⟨[.ref p.1], []⟩) (L2.CR (L2.CX P w) outer P w H s Q fun _ _ _ => False) s
theorem FnP.mono {T : Tb} {j k : Nat} {x : Str} {F : XC → Option Str} (h : FnP T P w K mg base CA j x F) (hk : j ≤ k) : FnP T P w K mg base CA k x F := by
  obtain ⟨f, fd, y, a, b, c, d⟩ := h.ex
  exact ⟨f, fd, y, a, b, c, fun A outer s H p c t Q hr => d A outer s H p c t Q (hr.mono hk)⟩
theorem fnP {T : Tb} {x qual y : Str} {stm : Stmt} {f : Addr} {fd : FuncData} {N : List Str} {k : Nat} {F : XC → Option Str} (hm : mg x = some (.ref f)) (Fn : Fun K x qual stm f fd) (hb : Binds K fd [y] []) (S : FnScope N [y] (defScope stm))
    (hbody : ∀ (cdv : Value), cdv = fd.code → ∀ (A : Around) (outer : List PySem.Env) (s : Shared) (H : Hp) (p : Addr × Obj) (c : XC) (t : Str), F c = some t → IsX CA p c →
      ∀ X : Cx, X = L2H.cxH (L2.CX P w) P w K mg base N qual (defScope stm) f cdv A outer s H (fun _ _ _ => False) p → L2H.RoomH k X.A →
      ∃ m : R (Out Unit), JK X (E00 T) (defBody stm) tNext (.ptr p.1 :: List.replicate (N.length - 1) .un) (fun _ => unR N.length) m ∧ m.bind outD = .ok (.str t)) (hN : 1 ≤ N.length) :
    FnP T P w K mg base CA (k + 1) x F := by
  have kp := Fn.kp
  obtain ⟨oc, od, kV, doc, pm, an, cdv, ct, osl, rfl, lk, hcd⟩ := Fn.ex
  refine ⟨f, _, y, hm, kp, hb, fun A outer s H p c t Q hr hpin hx e0 tb hbd hF hq => ?_⟩
  have inK : K.In s.heap := e0.mod.kin.keeps fun b o e => (e0.bs b o e).1
  have noLim : s.heap.NoLimit := e0.mod.nolimit.keeps fun b o e => (e0.bs b o e).1
  have kinds : ∀ q ∈ [y].zip [(Value.ref p.1)], (defScope stm).names.lookup q.1 = some .local ∨ ((defScope stm).names.lookup q.1 = some .cell ∧ ((cellsFrom (s.heap.objs.size + 1) (defScope stm).names []).lookup q.1).isSome = true) := fun ⟨n, v⟩ hq =>
    (S.par n (List.of_mem_zip hq).1).imp id fun z => ⟨z, PySem.W.cellsFrom_some _ _ _ (.inl z)⟩
  refine codeAny_call_function hr.depth (inK _ _ lk) rfl S.co S.gen rfl (PySem.W.codeRec_of inK hcd) (hbd _ _ _ _ ?_)
  refine wpAny_newFunctionEnv_cells S.kind kinds fun env he s1 ic => ?_
  subst he
  refine ⟨noLim.keeps ic.toInCall.keep, codeAny_func ?_⟩
  have hr2 := hr.deeper (envOfC qual (defScope stm) s.heap.objs.size f cdv)
  obtain ⟨m, hj, em⟩ := hbody cdv rfl A outer s H p c t hF hx _ rfl hr2
  have I : Inv (L2H.cxH (L2.CX P w) P w K mg base N qual (defScope stm) f cdv A outer s H (fun _ _ _ => False) p) [] (L2.start N [.ref p.1]) H s1 := L2H.inv_startH S hpin e0 rfl (.cons rfl .nil) ic
  have S0 : Stt T K H (fun _ => none) (fun _ => none) H (L2.start N [.ref p.1]) (.ptr p.1 :: List.replicate (N.length - 1) .un) := by
    refine ⟨fun b ps z => (by cases z), tb, Grow.refl T H, Ext.refl _ _, fun b o z => (by cases z), by unfold L2.start; simp, fun i sl e => ?_, fun i j sl sl' v v' q ei ej _ _ f1 _ => ?_⟩
    · cases i with
      | zero => simp at e; subst e; exact ⟨_, rfl, rfl⟩
      | succ i =>
        have hi : i + 1 < (L2.start N [V.ref p.1]).length := by
          have := (List.getElem?_eq_some_iff.mp e).1
          unfold L2.start
          simpa using this
        refine ⟨_, List.getElem?_eq_getElem hi, ?_⟩
        rw [List.getElem?_cons_succ, List.getElem?_replicate] at e
        split at e
        · cases e; trivial
        · cases e
    · cases i with
      | zero => simp at ei; subst ei; exact f1.elim
      | succ i =>
        rw [List.getElem?_cons_succ, List.getElem?_replicate] at ei
        split at ei <;> cases ei
        exact f1.elim
  have hp : (m.bind outD).post (fun d => ∀ (v : V) (G' H' : Hp), Grow T H H' → Ext (fun _ => none) H G' → Same G' H' → Dq K G' v d → Q v H') (fun _ => True) := by
    rw [em]
    intro v G' H' g _ _ r
    cases r.str_inv
    exact hq H' g
  have run := hj H (fun _ => none) (fun _ => none) H (L2.start N [.ref p.1]) { nx := fun _ H' => Q .non H', rt := Q } S0 (by
    cases m with
    | ok o =>
      cases o with
      | nx a => exact fun G' H' σ' S' => hp .non G' H' S'.sub0 S'.ext S'.sub .non
      | bk a => exact hp.elim
      | rt d => exact fun v G' H' s1 s2 s3 r => hp v G' H' s1 s2 s3 r
    | exc c => cases em
    | stuck => cases em)
  refine wpAny_mono ((wSs.pss (X := L2H.cxH (L2.CX P w) P w K mg base N qual (defScope stm) f cdv A outer s H (fun _ _ _ => False) p) _).run [] s1 _ H _ I run) (fun fl s' hs => ?_) fun e s' hs => hs
  cases fl with
  | ret u =>
    obtain ⟨v, σ', H', J, rv, q⟩ := hs
    exact ⟨v, H', J.os, J.bare, J.base, J.hok, rv, q⟩
  | next =>
    obtain ⟨σ', H', J, q⟩ := hs
    exact ⟨V.non, H', J.os, J.bare, J.base, J.hok, rfl, q⟩
  | brk => obtain ⟨_, _, _, q⟩ := hs; exact q.elim
  | cont => obtain ⟨_, _, _, q⟩ := hs; exact q.elim
end
section
variable {X : Cx} {CA : XC → Addr}
/-- such a def called with a name that holds the exception -/
theorem pe_callP {T : Tb} {k i : Nat} {x y t : Str} {F : XC → Option Str} {p : Addr × Obj} {c : XC} {q p1 pos : Pos} (h : FnP T X.prog X.w X.K X.mg X.base CA k x F) (hr : L2H.RoomH k X.A) (hp : p ∈ X.pn) (hx : IsX CA p c) (hF : F c = some t) (hg : Gl X x) (hN : X.N[i]? = some y) (hv : Vis X.env.scope y)
    (hdb : (x == ("__debug__" : Str)) = false := by decide) (hd : (y == ("__debug__" : Str)) = false := by decide) (hcd : (y == ("__classdict__" : Str)) = false := by decide) :
    PE X (.Call (.Name x q) [.Name y p1] [] pos) (fun σ H Q => σ[i]? = some (some (.ref p.1)) ∧ LamX.Tabs T H ∧ ∀ H', Grow T H H' → Q (.str t) H') := by
  obtain ⟨f, fd, y', hm, hk, hb, run⟩ := h.ex
  refine ⟨fun pins s σ H Q I hq => ?_⟩
  obtain ⟨e1, tb, fin⟩ := hq
  refine wpAny_Call_Name_kw (ld_glob I hg hm ?_ hdb)
  refine PySem.W.callWith_K (h₀ := X.base) I.ok.mod.kin hk (thn ((pa_cons (pe_var (pos := p1) hN hv hd hcd) pa_nil).run pos pins s σ H (fun vs H1 => vs = [.ref p.1] ∧ H1 = H) I ⟨_, e1, rfl, rfl⟩) fun us s1 ⟨vs, H1, I1, r, e2, e3⟩ => ⟨I1.kIn, ?_⟩) rfl rfl
  subst e2
  subst e3
  obtain rfl := Vals.ref1 r
  have pn1 := I1.pin p (List.mem_append_left _ hp)
  have ok : L2H.PinOk X.stack H1 s1 p := ⟨pn1.1, pn1.2.1, fun hm => (List.mem_cons.mp (I1.stkSub p.1 hm)).elim pn1.2.2.1 pn1.2.2.2.1, pn1.2.2.2.2⟩
  have bd := hb s1 [.ref p.1] I1.kIn rfl
  refine wpAny_call (codeAny_mono (run X.A X.stack s1 H1 p c t Q hr ok hx I1.env0 tb bd hF fin) fun r s2 hq => ?_)
  cases r with
  | error e => obtain ⟨_, _, _, _, _, _, _, _, _, _, _, _, z⟩ := hq; exact z.elim
  | ok fl =>
    cases fl with
    | ret u => exact I1.after hq
    | next => exact False.elim hq
    | brk => exact False.elim hq
    | cont => exact False.elim hq

/-- X with an object that stays -/
abbrev pinX (X : Cx) (p : Addr × Obj) : Cx := { X with pn := p :: X.pn }
theorem pinX_of {pins : List (Addr × Obj)} {σ : L2.St} {H : Hp} {s : Shared} {p : Addr × Obj} (I : Inv X (p :: pins) σ H s) : Inv (pinX X p) pins σ H s :=
  ⟨⟨I.ok.mod, I.ok.kind, I.ok.glob, I.ok.blt, I.ok.above, I.ok.inj, I.ok.has, I.ok.cab, I.ok.hd, I.ok.frames, I.ok.stk, I.ok.exf, I.ok.bs, I.ok.bsz, I.ok.noex, I.ok.exfs, I.ok.funs, I.ok.frf⟩, I.os, I.bare, I.base, I.loc, I.cell, I.free, I.freeC, fun q hq => I.pin q (by
    rcases List.mem_append.mp hq with z | z
    · rcases List.mem_cons.mp z with z | z
      · exact List.mem_append_right _ (List.mem_cons.mpr (.inl z))
      · exact List.mem_append_left _ z
    · exact List.mem_append_right _ (List.mem_cons_of_mem _ z)), I.hok, I.len⟩
theorem of_pinX {pins : List (Addr × Obj)} {σ : L2.St} {H : Hp} {s : Shared} {p : Addr × Obj} (ok : X.Ok) (I : Inv (pinX X p) pins σ H s) : Inv X pins σ H s :=
  ⟨ok, I.os, I.bare, I.base, I.loc, I.cell, I.free, I.freeC, fun q hq => I.pin q (by
    rcases List.mem_append.mp hq with z | z
    · exact List.mem_append_left _ (List.mem_cons_of_mem _ z)
    · exact List.mem_append_right _ z), I.hok, I.len⟩
/-- try: body / except x as n: suite, then rest; the exception stands behind the suite as it stood in it -/
theorem pss_keep {x n : Str} {c : Value} {i : Nat} {body suite rest : List Stmt} {b0 : Stmt} {np pos pos' : Pos} {tb : WX → TS} {ts : Addr → Value → Option Addr → TS} {t0 : TS} {t1 : Addr → Value → Option Addr → TS}
    (hs : X.stack = X.env :: X.outer) (hf : X.env.frame = some X.env.locals) (hN : X.N.Nodup) (hi : X.N[i]? = some n) (hln : X.env.kindOf n = some .local) (hc : Names X x c)
    (hb : ∀ (W : WX) (pn : List (Addr × Obj)) (xe : Value → Shared → Prop), Takes (X.tr pn xe) W → PassesOwn (model X.prog X.w) X.A X.env xe → PSs (X.tr pn xe) body (tb W))
    (hsu : ∀ (a : Addr) (oe : Obj) (cls : Value) (d : Option Addr) (pn : List (Addr × Obj)), Zc cls d oe → (∃ vs, oe.data = .fields vs) → PSs (X.suite a ((a, oe) :: pn)) (b0 :: suite) (ts a cls d))
    (h0 : PSs X rest t0) (h1 : ∀ (a : Addr) (oe : Obj) (cls : Value) (d : Option Addr), Zc cls d oe → (∃ vs, oe.data = .fields vs) → PSs (pinX X (a, oe)) rest (t1 a cls d)) :
    PSs X (.Try body [.ExceptHandler (some (.Name x np)) (some n) (b0 :: suite) pos'] [] [] pos :: rest) (fun De σ H => tb (fun cls d σ1 H1 => PySem.W.exmOne X.K cls c = some true ∧ ∀ a, H1 a = none → ts a cls d { nx := fun σ2 H2 => t1 a cls d De (σ2.set i none) H2, rt := fun _ _ => False } (σ1.set i (some (.ref a))) H1) { De with nx := t0 De } σ H) := by
  refine ⟨fun pins s σ H De I h => wpAny_execs_cons ?_⟩
  have ok := I.ok
  have hfr : X.A.frames = some (X.env :: X.outer) := by rw [ok.frames, hs]
  refine wpAny_Try_except (wpAny_mono ((hb _ (X.pn ++ pins) (fun e s1 => wpAny (model X.prog X.w) X.A (noteFrame e X.env) (fun _ s2 => wpAny (model X.prog X.w) X.A (setFlight e none) (fun _ s3 => wpAny (model X.prog X.w) X.A (handleBy e X.env [.ExceptHandler (some (.Name x np)) (some n) (b0 :: suite) pos']) (fun f s' => match f with | .next => wpAny (model X.prog X.w) X.A (execs rest X.env) (SP X pins De) X.xe s' | f => SP X pins De f s') X.xe s3) X.xe s2) X.xe s1) (fun u s1 air => ?_) PassesOwn.looking).run [] s σ H { De with nx := t0 De } (I.toTry _) h) (fun f s1 hsp => ?_) (fun e s1 he => he))
  · obtain ⟨a, B, sI, pins1, σ1, H1, cls, d, rfl, J1, nb, up, sky, na, os, ag, yes, go⟩ := air
    have J : Inv X pins σ1 H1 sI := J1.ofTry ok
    rw [show (X.tr (X.pn ++ pins) _).stack = X.env :: X.outer from hs] at sky
    show wpAny (model X.prog X.w) X.A (noteFrame (.ref a) X.env) _ _ _
    refine Sky.land Zc.steady hfr hf sky fun hA fly1 up1 => ?_
    have JA : Inv X pins σ1 H1 { s1 with heap := hA } := J.landed nb fly1.1 (up.trans up1) os ag
    obtain ⟨oA, vA, gA, zA, dA⟩ := fly1.there
    have noF : a ∉ frs (X.env :: X.outer) := fun hm => by
      obtain ⟨_, o', e', hnf⟩ := fly1.2.2.1.mem hm
      rw [gA] at e'
      cases e'
      exact hnf _ dA
    have noL : a ≠ X.env.locals := fun z => noF (List.mem_filterMap.mpr ⟨X.env, List.mem_cons_self, by rw [hf, z]⟩)
    have noO : a ∉ X.fs := fun hm => by
      obtain ⟨e, he, q⟩ := List.mem_filterMap.mp hm
      exact noF (List.mem_filterMap.mpr ⟨e, List.mem_cons_of_mem _ he, q⟩)
    have SA := JA.suite gA dA na noL noO
    refine wpAny_handleBy_cons (codeAny_handlers_test ?_) (by intro q; cases q)
    have ty : PySem.W.Looks (model X.prog X.w) hA (typeOf (.ref a)) cls := fun A Q E s k q => wpAny_typeOf_ref (k _ _ gA) (by rw [zA.1]; exact q)
    have test : ∀ {Q : Value → Shared → Prop} {E : Value → Shared → Prop}, Q c { s1 with heap := hA } → wpAny (model X.prog X.w) (X.A.mark (some (.ref a))) (eval (.Name x np) X.env) Q E { s1 with heap := hA } := fun {Q E} q => by
      obtain ⟨hg, hdbg, hm | ⟨hm, hv, hnn⟩⟩ := hc
      · exact ld_glob (X := X.suite a ((a, oA) :: (X.pn ++ pins))) SA hg hm q hdbg
      · exact ld_blt (X := X.suite a ((a, oA) :: (X.pn ++ pins))) SA hg hm hv q hnn hdbg
    refine test ((PySem.W.exm_one (M := model X.prog X.w) JA.kIn ty yes).here (codeAny_handlers_suite_as ?_))
    refine HandSPX.lands_againZ fly1 fun hB fly2 up2 => ?_
    have JB : Inv X pins σ1 H1 { s1 with heap := hB } := J.landed nb fly2.1 ((up.trans up1).trans up2) os ag
    obtain ⟨oB, vB, gB, zB, dB⟩ := fly2.there
    refine store_ok (X := X.suite a ((a, oB) :: (X.pn ++ pins))) (v := .ref a) (JB.suite gB dB na noL noO) hN hi (.inl hln) rfl (fun s5 S5 => ?_) (.inr hln)
    refine wpAny_mono ((hsu a oB cls d (X.pn ++ pins) zB ⟨_, dB⟩).run [] s5 _ H1 _ S5 (go a na)) (fun f s6 hsp => ?_) (fun _ _ z => False.elim z)
    cases f with
    | next =>
      obtain ⟨σ6, H6, S6, q6⟩ := hsp
      have K6 : Inv X ((a, oB) :: pins) σ6 H6 s6 := ⟨ok, S6.os, S6.bare, S6.base, S6.loc, S6.cell, S6.free, S6.freeC, fun q hq => S6.pin q (by
        refine List.mem_append_left _ ?_
        rcases List.mem_append.mp hq with z | z
        · exact List.mem_cons_of_mem _ (List.mem_append_left _ z)
        · rcases List.mem_cons.mp z with z | z
          · exact List.mem_cons.mpr (.inl z)
          · exact List.mem_cons_of_mem _ (List.mem_append_right _ z)), S6.hok, S6.len⟩
      refine gone_ok K6 hN hi hln fun s7 K7 => ?_
      refine wpAny_mono ((h1 a oB cls d zB ⟨_, dB⟩).run pins s7 _ H6 De (pinX_of K7) q6) (fun f s8 hq => ?_) fun _ _ z => z
      cases f with
      | next => obtain ⟨σ', H', L, q⟩ := hq; exact ⟨σ', H', of_pinX ok L, q⟩
      | brk => obtain ⟨σ', H', L, q⟩ := hq; exact ⟨σ', H', of_pinX ok L, q⟩
      | cont => obtain ⟨σ', H', L, q⟩ := hq; exact ⟨σ', H', of_pinX ok L, q⟩
      | ret u => obtain ⟨v, σ', H', L, r, q⟩ := hq; exact ⟨v, σ', H', of_pinX ok L, r, q⟩
    | brk => obtain ⟨_, _, _, q⟩ := hsp; exact q.elim
    | cont => obtain ⟨_, _, _, q⟩ := hsp; exact q.elim
    | ret u => obtain ⟨_, _, _, _, _, q⟩ := hsp; exact q.elim
  · cases f with
    | next =>
      obtain ⟨σ', H', J', q⟩ := hsp
      exact wpAny_execs_nil (h0.run pins s1 σ' H' De (J'.ofTry ok) q)
    | brk => obtain ⟨σ', H', J', q⟩ := hsp; exact ⟨σ', H', J'.ofTry ok, q⟩
    | cont => obtain ⟨σ', H', J', q⟩ := hsp; exact ⟨σ', H', J'.ofTry ok, q⟩
    | ret u => obtain ⟨v, σ', H', J', r, q⟩ := hsp; exact ⟨v, σ', H', J'.ofTry ok, r, q⟩
end
end Br
/-! try: answer = .. / except RowError as e: kept = e, and what stands behind it -/
namespace Br
open PySem PySem.Spec PyProof.Rows L2
/-- statements that give one name a value and change nothing else -/
def EvA (X : Cx) (E : XW) (sts : List Stmt) (ρ : Rho) (i : Nat) (m : R D) : Prop :=
  ∀ (H0 G0 G H : Hp) (σ : L2.St) (De : Ends), Stt E.T X.K H0 G0 G H σ ρ → m.post (fun d => ∀ (v : V) (G' H' : Hp), Grow E.T H H' → Ext G H G' → Same G' H' → Dq X.K G' v d → De.nx (σ.set i (some v)) H') (fun c => ∀ H', Grow E.T H H' → E c σ H') → wSs X sts De σ H
section
variable {X : Cx} {E : XW} {ρ : Rho} {e c : Expr} {i : Nat} {x : Str} {m ka kb : R D} {mt : R Bool} {A B : List Stmt} {pos pos' : Pos}
theorem ea_set (he : JE X E e ρ m) (hN : X.N.Nodup) (hi : X.N[i]? = some x := by rfl) (hx : Loc X.env.scope x := by first | exact Or.inl rfl | exact Or.inr rfl)
    (hs : swapsWith e (some (.Name x pos')) pos.line X.env = pure false := by rfl) (hf : X.fn x = true ∨ X.env.scope.names.lookup x = some .local := by first | exact .inl rfl | exact .inr rfl | assumption) :
    EvA X E [.Assign [.Name x pos'] e pos] ρ i m := fun H0 G0 G H σ De S p =>
  wSs.of (pss_one (ps_set hN hi hx (wE.pe e) hs hf)) (he.use0 S p fun d v G1 H1 s1 s2 s3 S1 r q => q v G1 H1 s1 s2 s3 r)
theorem ea_if (hc : JT X E c ρ mt) (ha : EvA X E A ρ i ka) (hb : EvA X E B ρ i kb) : EvA X E [.If c A B pos] ρ i (mt.bind fun t => if t then ka else kb) := fun H0 G0 G H σ De S p =>
  wSs.of (pss_one (ps_if (wT.pt c) (wSs.pss A) (wSs.pss B))) (hc.use S p fun t t' G1 H1 s1 s2 s3 S1 r p1 => by
    cases r
    cases t with
    | true =>
      rw [if_pos rfl] at p1 ⊢
      exact ha H0 G0 G1 H1 σ De S1 (R.post_mono p1 (fun d _ z v G' H' a b c r => z v G' H' (s1.trans a) (s2.trans s1 b) c r) fun c _ z H' s => z H' s)
    | false =>
      rw [if_neg Bool.false_ne_true] at p1 ⊢
      exact hb H0 G0 G1 H1 σ De S1 (R.post_mono p1 (fun d _ z v G' H' a b c r => z v G' H' (s1.trans a) (s2.trans s1 b) c r) fun c _ z H' s => z H' s))
end
/-- what is told: the answer, or the word of the refusal -/
def doR {α : Type} (w : XC → Option Str) : R D → R (Out α)
  | .ok d => .ok (.rt d)
  | .exc c => match w c with
    | some t => .ok (.rt (.str t))
    | none => .stuck
  | .stuck => .stuck
section
variable {X : Cx} {E : XW} {ρ : Rho} {α : Type} {fin : α → Rho} {tR : TS} {CA : XC → Addr} {k k' jn ik ia : Nat} {n kept ans word : Str} {body : List Stmt} {m : R D} {d0 : D} {w : XC → Option Str} {CR : Addr} {j : Nat} {p1 p2 p3 p4 p5 p6 p7 p8 p9 p10 p11 p12 p13 p14 p15 p16 : Pos}
theorem jk_do (C : Ct X CA E k) (hF : FnP E.T X.prog X.w X.K X.mg X.base CA k' word w) (hk' : k' ≤ k) (hb : ∀ (pn : List (Addr × Obj)) (xe : Value → Shared → Prop) (w' : XC → L2.St → Hp → Prop), Ct (X.tr pn xe) CA ⟨E.T, w'⟩ k → EvA (X.tr pn xe) ⟨E.T, w'⟩ body ρ ia m)
    (hme : X.mg "RowError" = some (.ref CR)) (te : ∀ c t, w c = some t → PySem.W.exmOne X.K (.ref (CA c)) (.ref CR) = some true) (hN : X.N.Nodup) (rk : ρ[ik]? = some (.dat .none)) (ra : ρ[ia]? = some (.dat d0)) (rn : ρ[jn]? = some .un) (nka : ik ≠ ia) (nkn : ik ≠ jn)
    (hn : X.N[jn]? = some n := by rfl) (hk : X.N[ik]? = some kept := by rfl) (ha : X.N[ia]? = some ans := by rfl) (ln : X.env.kindOf n = some .local := by rfl) (lk : X.env.scope.names.lookup kept = some .local := by rfl) (la : X.env.scope.names.lookup ans = some .local := by rfl)
    (hs : X.stack = X.env :: X.outer := by rfl) (hf : X.env.frame = some X.env.locals := by rfl) (hgE : Gl X "RowError" := by rfl) (hgW : Gl X word := by rfl)
    (dn : (n == ("__debug__" : Str)) = false := by decide) (cn : (n == ("__classdict__" : Str)) = false := by decide) (dk : (kept == ("__debug__" : Str)) = false := by decide) (ck : (kept == ("__classdict__" : Str)) = false := by decide)
    (da : (ans == ("__debug__" : Str)) = false := by decide) (ca : (ans == ("__classdict__" : Str)) = false := by decide) (dw : (word == ("__debug__" : Str)) = false := by decide) (hsw : swapsWith (.Name n p3) (some (.Name kept p2)) p4.line X.env = pure false := by rfl) :
    JK X E (.Try body [.ExceptHandler (some (.Name "RowError" p1)) (some n) [.Assign [.Name kept p2] (.Name n p3) p4] p5] [] [] p6 :: .If (.Compare (.Name kept p7) [.Is] [.Constant .none j p8] p9) [.Return (some (.Name ans p10)) p11] [] p12 :: .Return (some (.Call (.Name word p13) [.Name kept p14] [] p15)) p16 :: []) tR ρ fin (doR w m) := fun H0 G0 G H σ De S p => by
  have hlk : Loc X.env.scope kept := .inl lk
  refine wSs.of (pss_keep (x := "RowError") (n := n) (c := .ref CR) (i := jn) (tb := fun W De' σ' H' => ∃ H0' G0' G', Stt E.T X.K H0' G0' G' H' σ' ρ ∧ m.post (fun d => ∀ (v : V) (G2 H2 : Hp), Grow E.T H' H2 → Ext G' H' G2 → Same G2 H2 → Dq X.K G2 v d → De'.nx (σ'.set ia (some v)) H2) (fun c => ∀ H2, Grow E.T H' H2 → W (.ref (CA c)) none σ' H2))
    (t0 := wSs X [.If (.Compare (.Name kept p7) [.Is] [.Constant .none j p8] p9) [.Return (some (.Name ans p10)) p11] [] p12, .Return (some (.Call (.Name word p13) [.Name kept p14] [] p15)) p16])
    (t1 := fun a cls d De σ' H' => ∀ oe : Obj, Zc cls d oe → (∃ vs, oe.data = .fields vs) → wSs (pinX X (a, oe)) [.If (.Compare (.Name kept p7) [.Is] [.Constant .none j p8] p9) [.Return (some (.Name ans p10)) p11] [] p12, .Return (some (.Call (.Name word p13) [.Name kept p14] [] p15)) p16] De σ' H')
    hs hf hN hn ln ⟨hgE, by decide, .inl hme⟩ (fun W pn xe tk pass => ⟨fun pins s σ' H' De' I h => ?_⟩) (fun a oe cls d pn hz hv => pss_one (ps_set (X := X.suite a ((a, oe) :: pn)) (i := ik) hN hk hlk (pe_var (i := jn) hn (.inl ln) dn cn) hsw (.inr lk))) (wSs.pss _) (fun a oe cls d hz hv => ⟨fun pins s σ' H' De' I h => (wSs.pss _).run pins s σ' H' De' I (h oe hz hv)⟩)) ?_
  · obtain ⟨H0', G0', G', S', po⟩ := h
    exact (wSs.pss body).run pins s σ' H' De' I (hb pn xe (fun c σ H => W (.ref (CA c)) none σ H) ⟨tk.imp fun cls d σ H hw => by obtain ⟨rfl, c, rfl, q⟩ := hw; exact q, C.hr, C.calm, pass⟩ H0' G0' G' H' σ' De' S' po)
  · refine ⟨H0, G0, G, S, ?_⟩
    obtain ⟨vk, ek, xk, rfl, qk⟩ := S.slots ik _ rk
    cases qk.non_inv
    obtain ⟨va, ea, _⟩ := S.slots ia _ ra
    have lσ : ik < σ.length := (List.getElem?_eq_some_iff.mp ek).1
    have lσa : ia < σ.length := (List.getElem?_eq_some_iff.mp ea).1
    have tb0 := S.sub0.tabs S.tb
    cases m with
    | stuck => exact p.elim
    | ok d =>
      intro v G2 H2 g1 g2 g3 r
      refine wSs.of (pss_cons (ps_if (pt_cmpR op_isN (pe_var (i := ik) hk (.inl lk) dk ck) pe_non (nomark _)) (pss_one (ps_ret (pe_var (i := ia) ha (.inl la) da ca))) pss_nil) (wSs.pss _)) ?_
      refine ⟨.non, by rw [List.getElem?_set_ne (Ne.symm nka)]; exact ek, rfl, true, rfl, ?_⟩
      show ite ((true : Bool) = true) _ _
      rw [if_pos rfl]
      exact ⟨v, List.getElem?_set_self lσa, p v G2 H2 (S.sub0.trans g1) (S.ext.trans S.sub0 g2) g3 r⟩
    | exc c =>
      cases ew : w c with
      | none => simp only [doR, ew] at p; exact p.elim
      | some t =>
        simp only [doR, ew] at p
        intro H2 g1
        refine ⟨te c t ew, fun a na => ⟨.ref a, List.getElem?_set_self (by rw [S.len]; exact (List.getElem?_eq_some_iff.mp rn).1), fun oe hz hv => ?_⟩⟩
        have e2 : ((((σ.set jn (some (V.ref a))).set ik (some (V.ref a))).set jn none))[ik]? = some (some (.ref a)) := by
          rw [List.getElem?_set_ne (Ne.symm nkn)]
          exact List.getElem?_set_self (by simpa using lσ)
        refine wSs.of (X := pinX X (a, oe)) (pss_cons (ps_if (pt_cmpR op_isN (pe_var (X := pinX X (a, oe)) (i := ik) hk (.inl lk) dk ck) pe_non (nomark _)) (pss_one (ps_ret (pe_var (X := pinX X (a, oe)) (i := ia) ha (.inl la) da ca))) pss_nil) (pss_one (ps_ret (pe_callP (X := pinX X (a, oe)) (p := (a, oe)) (c := c) (t := t) (i := ik) (hF.mono hk') (L2H.roomH_of C.hr) List.mem_cons_self ⟨hz, hv⟩ ew hgW hk (.inl lk) dw dk ck)))) ?_
        refine ⟨.ref a, e2, rfl, false, rfl, ?_⟩
        show ite ((false : Bool) = true) _ _
        rw [if_neg Bool.false_ne_true]
        refine ⟨e2, g1.tabs tb0, fun H3 g3 => ?_⟩
        exact p (.str t) G H3 ((S.sub0.trans g1).trans g3) S.ext ((g1.trans g3).sub S.plainG S.sub) (.str t)
end
end Br
/-! a def that calls what it got, and tells the word of a refusal: told(lambda: ..) -/
namespace Br
open PySem PySem.Spec PyProof.Rows L2
/-- what stands in the text: def x(a): try: return a() / except RowError as e: return word(e) -/
structure ToldF (T : Tb) (P : Program) (w : World) (K : PySem.W.Frag) (mg : Str → Option Value) (base : Heap) (CA : XC → Addr) (CR : Addr) (k : Nat) (x : Str) (F : XC → Option Str) : Prop where
  ex : ∃ (st : Stmt) (g : Addr) (fd : FuncData) (a e word : Str) (p1 p2 p3 p4 p5 p6 p7 p8 p9 p10 : Pos), mg x = some (.ref g) ∧ Fun K x x st g fd ∧ Binds K fd [a] [] ∧ FnScope [a, e] [a] (defScope st) ∧
    defBody st = [.Try [.Return (some (.Call (.Name a p1) [] [] p2)) p3] [.ExceptHandler (some (.Name "RowError" p4)) (some e) [.Return (some (.Call (.Name word p5) [.Name e p6] [] p7)) p8] p9] [] [] p10] ∧
    (defScope st).names.lookup a = some .local ∧ (defScope st).names.lookup e = some .local ∧ (defScope st).names.lookup ("RowError" : Str) = some .globalImplicit ∧ (defScope st).names.lookup word = some .globalImplicit ∧
    (a == ("__debug__" : Str)) = false ∧ (a == ("__classdict__" : Str)) = false ∧ (e == ("__debug__" : Str)) = false ∧ (e == ("__classdict__" : Str)) = false ∧ (word == ("__debug__" : Str)) = false ∧ FnP T P w K mg base CA k word F
  row : mg "RowError" = some (.ref CR)
  te : ∀ c t, F c = some t → PySem.W.exmOne K (.ref (CA c)) (.ref CR) = some true
section
variable {X : Cx} {CA : XC → Addr}
/-- told(lambda: body) -/
theorem pe_told {T : Tb} {CR c P : Addr} {k kw : Nat} {x : Str} {F : XC → Option Str} {params : Arguments} {body : Expr} {scope : Scope} {tl : XK → TE} {p lpos pos : Pos} (TF : ToldF T X.prog X.w X.K X.mg X.base CA CR kw x F) (hkw : kw ≤ k + 1) (hr : Room (k + 2) X.A) (L : LamF T X c P) (LS : LamX.LamS X.env.scope scope)
    (hbody : ∀ (A : Around) (outer : List PySem.Env) (s : Shared) (H : Hp) (E : XK) (f c' : Addr), Room k (A.deeper (LamX.lamEnv X scope s.heap.objs.size f c')) → PE (LamX.lamCx X A outer s H E scope f c') body (tl E))
    (hbind : ∀ (q : Str) (cl : List (Str × Addr)) (pm cv ctv : Value), bindArgs (PySem.W.kla_fn "<lambda>" q params body scope cl pm cv ctv) ⟨[], []⟩ = pure [] := by intros; rfl)
    (hdef : defaultsOf params X.env = ([], []) := by rfl) (hg : Gl X x := by rfl) (hdb : (x == ("__debug__" : Str)) = false := by decide) :
    PE X (.Call (.Name x p) [.Lambda params body scope lpos] [] pos) (fun σ H Q => LamX.Tabs T H ∧ ∀ H1, Grow T H H1 → LamX.Tabs T H1 → tl (fun cls d H2 => ∃ c t, cls = .ref (CA c) ∧ d = none ∧ F c = some t ∧ LamX.Tabs T H2 ∧ ∀ H3, Grow T H2 H3 → Q (.str t) H3) σ H1 Q) := by
  obtain ⟨st, g, fd, a, e, word, p1, p2, p3, p4, p5, p6, p7, p8, p9, p10, hm, Fn, hb, Sg, hB, la, le, lE, lw, da, ca, de, ce, dw, FW⟩ := TF.ex
  have kp := Fn.kp
  obtain ⟨oc, od, kV, doc, pm0, an, cdv, ct, osl, rfl, lk, hcd⟩ := Fn.ex
  refine ⟨fun pins s σ H Q I h => ?_⟩
  obtain ⟨hT, h⟩ := h
  refine wpAny_Call_Name_kw (ld_glob I hg hm ?_ hdb)
  refine PySem.W.callWith_K (h₀ := X.base) I.ok.mod.kin kp ?_ (by rfl) (by rfl)
  show wpAny _ _ (spliced ((false, eval (.Lambda params body scope lpos) X.env) :: backTo pos (starEach [] X.env))) _ _ s
  refine Calls.spliced_cons (lam_make I L hT hdef (LS.has I.ok) fun f c' pm ctv H1 s1 I1 g1 hf hfn hfr hsz hco => ?_)
  refine Calls.spliced_nil ⟨I1.kIn, ?_⟩
  have h1 := h H1 g1 (g1.tabs hT)
  have rc : codeAny (model X.prog X.w) X.A (.call (.ref g) ⟨[.ref f], []⟩) (L2.CR C8.CX0 X.stack X.prog X.w H1 s1 Q C8.E0) s1 := by
    refine LamX.run_ofS (N := [a, e]) (ps := [a]) (us := [.ref f]) (vs := [.ref f]) lk hcd Sg hr I1.env0 (hb s1 [.ref f] I1.kIn rfl) (.cons rfl .nil) rfl fun hr1 => ?_
    rw [hB]
    have hgE : Gl (cxOf C8.CX0 X.prog X.w X.K X.mg X.base [a, e] x (defScope st) g cdv X.A X.stack s1 H1 C8.E0).nox "RowError" := lE
    refine ⟨_, (pss_one (ps_try_as (X := (cxOf C8.CX0 X.prog X.w X.K X.mg X.base [a, e] x (defScope st) g cdv X.A X.stack s1 H1 C8.E0).nox) (x := "RowError") (n := e) (c := .ref CR) (i := 1)
      (tb := fun W De σ' H' => ∃ E' : XK, (∀ cls d σ2 H2, E' cls d H2 → W cls d σ2 H2) ∧ σ'[0]? = some (some (.ref f)) ∧ H' c' = some (LamX.CodeO c' (X.env.qual ++ "<lambda>")) ∧ tl E' σ H' De.rt)
      (ts := fun ax cls d De σ' H' => ∃ c t, cls = .ref (CA c) ∧ d = none ∧ F c = some t ∧ (1 < σ'.length → σ'[1]? = some (some (.ref ax))) ∧ LamX.Tabs T H' ∧ ∀ H2, Grow T H' H2 → De.rt (.str t) H2)
      rfl rfl Sg.nd rfl le ⟨hgE, by decide, .inl TF.row⟩ LamX.takes0 (fun W pn xe tk _ => ⟨fun pins2 s2 σ2 H2 De I2 h2 => ?_⟩) (fun ax oe cls d pn hz hv => ⟨fun pins2 s2 σ2 H2 De I2 h2 => ?_⟩))).nox, ?_⟩
    · obtain ⟨E', hW, q1, q2, q3⟩ := h2
      have act := LamX.pe_act (CXg := C8.CX0) (Eg := C8.E0) (Ng := [a, e]) (qg := x) (sg := defScope st) (g := g) (cdg := cdv) (i := 0) (pn := pn) (xe := xe) (p1 := p1) (p2 := p2) I1 LS hf hfn hfr (hbind _ _ _ _ _) tk hW hr1 (fun A outer s H hr2 => hbody A outer s H E' f c' hr2) rfl (.inl la) da ca
      exact (pss_one (ps_ret (pos := p3) act)).run pins2 s2 σ2 H2 De I2 ⟨q1, q2, q3⟩
    · obtain ⟨cx, t, rfl, rfl, ew, q1, q2, q3⟩ := h2
      have call := pe_callP (X := (cxOf C8.CX0 X.prog X.w X.K X.mg X.base [a, e] x (defScope st) g cdv X.A X.stack s1 H1 C8.E0).nox.suite ax ((ax, oe) :: pn)) (q := p5) (p1 := p6) (pos := p7) (p := (ax, oe)) (c := cx) (t := t) (i := 1) (y := e) (FW.mono hkw) ⟨hr1.dp, hr1.un⟩ List.mem_cons_self ⟨hz, hv⟩ ew lw rfl (.inl le) dw de ce
      exact (pss_one (ps_ret (pos := p8) call)).run pins2 s2 σ2 H2 De I2 ⟨q1 (by rw [show σ2.length = 2 from I2.len]; decide), q2, q3⟩
    · refine ⟨_, fun cls d σ2 H2 hw => ?_, rfl, hco, h1⟩
      obtain ⟨cx, t, rfl, rfl, ew, t2, q⟩ := hw
      exact ⟨true, TF.te cx t ew, fun _ ax na => ⟨cx, t, rfl, rfl, ew, fun hl => List.getElem?_set_self (by simpa using hl), t2, q⟩, fun z => nomatch z⟩
  refine wpAny_call (codeAny_mono rc fun r s2 hq => ?_)
  cases r with
  | error e => exact (show False from hq).elim
  | ok fl =>
    cases fl with
    | ret u => exact I1.after hq
    | next => exact False.elim hq
    | brk => exact False.elim hq
    | cont => exact False.elim hq
end
end Br
namespace Br
open PySem PySem.Spec PyProof.Rows L2
/-! ### what the head tells of the exceptions' classes, in one answer -/
def excB (K : PySem.W.Frag) (d : Addr) : Bool :=
  (PySem.W.findIn K (.ref d) "__getattribute__" == some (some (.builtin "BaseException.__getattribute__"))) && (PySem.W.findIn K (.ref d) "__getattr__" == some none) && (PySem.W.subIn K (.ref d) (.type "BaseException") == some true) && PySem.W.hasDictIn K d &&
  (PySem.W.findIn K (.ref d) "__class__" == some (some (.builtin "object.__class__"))) && (PySem.W.specialIn K (.builtin "object.__class__") "__get__" == some (some (.builtin "getset_descriptor.__get__"))) && (PySem.W.takesIn K (.builtin "object.__class__") == some true) && (PySem.W.mroIn K d (.type "object") == some true)
def excsB (K : PySem.W.Frag) (CA : XC → Addr) (CR : Addr) (cs : List XC) : Bool :=
  cs.all fun c => excB K (CA c) && (PySem.W.exmOne K (.ref (CA c)) (.ref CR) == some true) && (PySem.W.kitOne K (.ref (CA c)) (.type "ValueError") == some true) && cs.all fun c' => PySem.W.kitOne K (.ref (CA c)) (.ref (CA c')) == some (decide (c = c'))
/-- where RowError stands -/
def rowX (K : PySem.W.Frag) : Addr := match PySem.W.nsIn K mainGlobals "RowError" with
  | some (some (.ref a)) => a
  | _ => 0
structure ExcsF (K : PySem.W.Frag) (mg : Str → Option Value) (CA : XC → Addr) (CR : Addr) (cs : List XC) : Prop where
  row : mg "RowError" = some (.ref CR)
  all : excsB K CA CR cs = true
section
variable {K : PySem.W.Frag} {mg : Str → Option Value} {CA : XC → Addr} {CR : Addr} {cs : List XC}
theorem ExcsF.at (F : ExcsF K mg CA CR cs) {c : XC} (h : c ∈ cs) : ExcC K (CA c) ∧ PySem.W.exmOne K (.ref (CA c)) (.ref CR) = some true ∧ PySem.W.kitOne K (.ref (CA c)) (.type "ValueError") = some true ∧ ∀ c' ∈ cs, PySem.W.kitOne K (.ref (CA c)) (.ref (CA c')) = some (decide (c = c')) := by
  have a := List.all_eq_true.mp F.all c h
  simp only [excB, Bool.and_eq_true, beq_iff_eq, List.all_eq_true] at a
  obtain ⟨⟨⟨⟨⟨⟨⟨⟨⟨⟨h1, h2⟩, h3⟩, h4⟩, h5⟩, h6⟩, h7⟩, h8⟩, h9⟩, h10⟩, h11⟩ := a
  exact ⟨⟨h1, h2, h3, h4, h5, h6, h7, h8⟩, h9, h10, h11⟩
end
theorem c_neU {X : Cx} (hu : X.A.units + 65 < cLine) : CR X .NotEq pyNe := ⟨_, op_neD (by omega), ok_ne⟩
/-- a def that asks an exception: what its body's rules lean on -/
structure Cq (X : Cx) (CA : XC → Addr) (cs : List XC) (p : Addr × Obj) (c : XC) : Prop where
  hu : X.A.units + 65 < cLine
  C : ExcC X.K (CA c)
  is : IsX CA p c
  mem : p ∈ X.pn
  v : PySem.W.kitOne X.K (.ref (CA c)) (.type "ValueError") = some true
  k : ∀ c' ∈ cs, PySem.W.kitOne X.K (.ref (CA c)) (.ref (CA c')) = some (decide (c = c'))
theorem cq_of {P : Program} {w : World} {K : PySem.W.Frag} {mg : Str → Option Value} {base : Heap} {N : List Str} {qual : Str} {scope : Scope} {f : Addr} {cdv : Value} {A : Around} {outer : List PySem.Env} {s : Shared} {H : Hp} {E : XK} {CA : XC → Addr} {CR : Addr} {cs : List XC} {p : Addr × Obj} {c : XC} {k : Nat}
    (F : ExcsF K mg CA CR cs) (h : c ∈ cs) (hx : IsX CA p c) (hr : L2H.RoomH k (L2H.cxH (L2.CX P w) P w K mg base N qual scope f cdv A outer s H E p).A) : Cq (L2H.cxH (L2.CX P w) P w K mg base N qual scope f cdv A outer s H E p) CA cs p c := by
  obtain ⟨a, b, v, kk⟩ := F.at h
  refine ⟨?_, a, hx, List.mem_cons_self, v, kk⟩
  have := hr.un
  omega
/-! ### append, its continuation kept as it is -/
def app1 (ds : List D) (d : D) : R (List D) := if lineOk (ds.length + 1) then .ok (ds ++ [d]) else .stuck
theorem app1_ok {ds : List D} {d : D} (h : ds.length ≤ 1000000) : app1 ds d = .ok (ds ++ [d]) := by
  unfold app1
  rw [if_pos (by simp [lineOk]; omega)]
section
variable {X : Cx} {E : XW} {ρ : Rho} {e : Expr} {rest : List Stmt} {tR : TS} {α : Type} {fin : α → Rho} {m : R D} {pos pos' : Pos}
theorem jk_app {i : Nat} {x : Str} {ds : List D} {k : List D → R (Out α)} {p1 apos : Pos} (hi : ρ[i]? = some (.own (.lst ds))) (he : JE X E e ρ m) (hk : ∀ ds', JK X E rest tR (ρ.set i (.own (.lst ds'))) fin (k ds'))
    (hN : X.N[i]? = some x := by rfl) (hv : Vis X.env.scope x := by first | exact Or.inl rfl | exact Or.inr (Or.inl rfl) | exact Or.inr (Or.inr rfl)) (hd : (x == ("__debug__" : Str)) = false := by decide)
    (hcd : (x == ("__classdict__" : Str)) = false := by decide) (hs : swapsWith (.Call (.Attribute (.Name x p1) "append" apos) [e] [] pos') none pos.line X.env = pure false := by rfl)
    (hbase : attributeBase (.Name x p1) "append" X.env (eval (.Name x p1) X.env) = eval (.Name x p1) X.env := by rfl)
    (hfew : ((backTo pos' (starEach [e] X.env)).all (fun x => !x.1) && (backToKw pos' (keywordEach [] X.env)).all (fun x => x.1.isSome)
      && decide (([e] : List Expr).length + ([] : List Keyword).length + (if ([] : List Keyword).isEmpty then 0 else 1) < 30)) = true := by rfl)
    (hline : (apos.endLine == pos'.line) = true := by rfl) (hst : starEach [e] X.env = (false, eval e X.env) :: starEach [] X.env := by rfl) (hplain : (backTo pos' (starEach [] X.env)).any (·.1) = false := by rfl) :
    JK X E (.Expr (.Call (.Attribute (.Name x p1) "append" apos) [e] [] pos') pos :: rest) tR ρ fin (m.bind fun d => (app1 ds d).bind k) := by
  have h := jk_append (pos := pos) (k := k) hi he hk hN hv hd hcd hs hbase hfew hline hst hplain
  have e2 : (fun d : D => (app1 ds d).bind k) = fun d => if lineOk (ds.length + 1) then k (ds ++ [d]) else .stuck := by
    funext d
    unfold app1
    split <;> rfl
  rw [e2]
  exact h
end
/-! ### told(lambda: ..) of what changes nothing -/
def toldR (w : XC → Option Str) : R D → R D
  | .ok d => .ok d
  | .exc c => match w c with
    | some t => .ok (.str t)
    | none => .stuck
  | .stuck => .stuck
section
variable {X : Cx} {E : XW} {ρ : Rho} {CA : XC → Addr} {CR c P : Addr} {k kw : Nat} {x : Str} {w : XC → Option Str} {params : Arguments} {body : Expr} {scope : Scope} {m : R D} {p lpos pos : Pos}
theorem je_told (TF : ToldF E.T X.prog X.w X.K X.mg X.base CA CR kw x w) (hkw : kw ≤ k + 1) (hr : Room (k + 2) X.A) (L : LamF E.T X c P) (LS : LamX.LamS X.env.scope scope)
    (hb : ∀ (A : Around) (outer : List PySem.Env) (s : Shared) (H : Hp) (E1 : XK) (f c' : Addr), Ct (LamX.lamCx X A outer s H E1 scope f c') CA ⟨E.T, fun c _ H' => E1 (.ref (CA c)) none H'⟩ k → JE (LamX.lamCx X A outer s H E1 scope f c') ⟨E.T, fun c _ H' => E1 (.ref (CA c)) none H'⟩ body ρ m)
    (hbind : ∀ (q : Str) (cl : List (Str × Addr)) (pm cv ctv : Value), bindArgs (PySem.W.kla_fn "<lambda>" q params body scope cl pm cv ctv) ⟨[], []⟩ = pure [] := by intros; rfl)
    (hdef : defaultsOf params X.env = ([], []) := by rfl) (hg : Gl X x := by rfl) (hdb : (x == ("__debug__" : Str)) = false := by decide) :
    JE X E (.Call (.Name x p) [.Lambda params body scope lpos] [] pos) ρ (toldR w m) := by
  refine Ev.wE_of (pe_told (tl := fun E1 σ H Q => ∃ H0 G0 G, Stt E.T X.K H0 G0 G H σ ρ ∧ m.post (fun d => Endv E.T X.K G H Q d) (fun c => ∀ H', Grow E.T H H' → E1 (.ref (CA c)) none H')) TF hkw hr L LS (fun A outer s H E1 f c' hr2 => ⟨fun pins s2 σ H2 Q I h => ?_⟩) hbind hdef hg hdb) fun H0 G0 G H σ Q S p => ?_
  · obtain ⟨H0, G0, G, S, po⟩ := h
    have tk0 : Takes (LamX.lamCx X A outer s H E1 scope f c') (fun cls d _ H => E1 cls d H) := takes_of rfl rfl rfl rfl
    have J := hb A outer s H E1 f c' ⟨tk0.imp fun cls d σ H' hw => by obtain ⟨rfl, cc, rfl, q⟩ := hw; exact q, hr2, rfl, passes_of (X := LamX.lamCx X A outer s H E1 scope f c') rfl⟩
    exact (wE.pe body).run pins s2 σ H2 Q I (J H0 G0 G H2 σ Q S (R.post_mono po (fun d _ z => z) fun cc _ z => z))
  · refine ⟨S.sub0.tabs S.tb, fun H1 g1 t1 => ⟨H0, G0, G, S.grow g1 (Ext.refl _ _) (g1.sub S.plainG S.sub), ?_⟩⟩
    cases m with
    | stuck => exact p.elim
    | ok d => exact Endv.back g1 (Ext.refl _ _) p
    | exc cc =>
      cases ew : w cc with
      | none => simp only [toldR, ew] at p; exact p.elim
      | some t =>
        simp only [toldR, ew] at p
        exact fun H2 g2 => ⟨cc, t, rfl, rfl, ew, g2.tabs t1, fun H3 g3 => p (.str t) G H3 ((g1.trans g2).trans g3) (Ext.refl _ _) (((g1.trans g2).trans g3).sub S.plainG S.sub) (.str t)⟩
end
end Br
namespace Br
open PySem PySem.Spec PyProof.Rows L2
/-! ### i ** j -/
def powOk (i j : Int) : Bool := decide (0 ≤ j) && decide (j ≤ 1000) && decide (-1000000 < i) && decide (i < 1000000)
def pyPow : D → D → Option D
  | .int i, .int j => if powOk i j then some (.int (i ^ j.toNat)) else none
  | _, _ => none
section
variable {X : Cx} {E : XW} {ρ : Rho} {e a b : Expr} {m ma mb : R D} {pos : Pos}
theorem ok_pow : OkE X.K (rI CPow fun i j => .int (i ^ j.toNat)) pyPow := fun G H x y d e z Q s h1 h2 ez q => by
  cases d <;> cases e <;> simp [pyPow] at ez
  obtain ⟨hj, rfl⟩ := ez
  simp only [powOk, Bool.and_eq_true, decide_eq_true_eq] at hj
  exact ⟨_, _, h1.int_inv, h2.int_inv, ⟨by omega, by omega, by omega⟩, Endv.flat s q (.int _)⟩
theorem je_pow (ha : JE X E a ρ ma) (hb : JE X E b ρ mb) : JE X E (.BinOp a .Pow b pos) ρ (ma.bind fun x => mb.bind fun y => R.opt (pyPow x y)) := je_bin op_pow ok_pow ha hb
end
/-! ### a name set to what is known -/
theorem jk_setK {X : Cx} {E : XW} {ρ : Rho} {e : Expr} {rest : List Stmt} {tR : TS} {α : Type} {fin : α → Rho} {pos pos' : Pos} {i : Nat} {x : Str} {d0 : D} {k : R (Out α)} (he : JE X E e ρ (.ok d0)) (hk : JK X E rest tR (ρ.set i (.dat d0)) fin k) (hN : X.N.Nodup) (hi : X.N[i]? = some x := by rfl) (hx : Loc X.env.scope x := by first | exact Or.inl rfl | exact Or.inr rfl)
    (hs : swapsWith e (some (.Name x pos')) pos.line X.env = pure false := by rfl) (hf : X.fn x = true ∨ X.env.scope.names.lookup x = some .local := by first | exact .inl rfl | exact .inr rfl | assumption) :
    JK X E (.Assign [.Name x pos'] e pos :: rest) tR ρ fin k := jk_cons fun H0 G0 G H σ De S p =>
  wS.of (ps_set hN hi hx (wE.pe e) hs hf) (he H0 G0 G H σ _ S fun v G1 H1 s1 s2 s3 r => hk H0 G0 G1 H1 _ De ((S.grow s1 s2 s3).set r) p)
/-! ### [f, g, ..][e](..) -/
inductive FnL (X : Cx) (T : Tb) (CA : XC → Addr) (k n : Nat) : List Expr → List (List Slot → R D) → Prop
  | nil : FnL X T CA k n [] []
  | cons {x : Str} {p : Pos} {F : List Slot → R D} {ps : List Str} {fs : List Expr} {Fs : List (List Slot → R D)} (h : FnD T X.prog X.w X.K X.mg X.base CA k x ps F) (hn : ps.length = n) (t : FnL X T CA k n fs Fs) (hg : Gl X x := by rfl) (hd : (x == ("__debug__" : Str)) = false := by decide) : FnL X T CA k n (.Name x p :: fs) (F :: Fs)
def fnAt (Fs : List (List Slot → R D)) : D → R (List Slot → R D)
  | .int i => R.opt (atI Fs i)
  | _ => .stuck
theorem atI_ix {α : Type} {xs : List α} {i : Int} {x : α} (e : atI xs i = some x) : ∃ j : Nat, xs[j]? = some x ∧ ∀ {β : Type} (ys : List β), ys.length = xs.length → atI ys i = ys[j]? := by
  unfold atI at e ⊢
  cases q : ixN xs.length i with
  | none => rw [q] at e; cases e
  | some j => rw [q] at e; exact ⟨j, e, fun ys h => by rw [h, q]; rfl⟩
section
variable {X : Cx} {E : XW} {ρ : Rho} {CA : XC → Addr} {k n : Nat} {fs es : List Expr} {Fs : List (List Slot → R D)} {e b : Expr} {mb : R D} {ms : R (List Slot)} {p1 p2 pos : Pos}
theorem FnL.all {T : Tb} (h : FnL X T CA k n fs Fs) : ∃ as : List Addr, PA X fs (fun σ H Q => Q (as.map V.ref) H) ∧ as.length = Fs.length ∧ ∀ (i : Nat) (F : List Slot → R D), Fs[i]? = some F → ∃ (a : Addr) (fd : FuncData) (ps : List Str), as[i]? = some a ∧ PySem.W.keepIn X.K (.ref a) = true ∧ Binds X.K fd ps [] ∧ ps.length = n ∧ FnOk X.prog X.w X.K X.mg X.base (L2.CX X.prog X.w) k a fd ps (spD T X.K CA n F) := by
  induction h with
  | nil => exact ⟨[], pa_nil, rfl, fun i F e => by simp at e⟩
  | @cons x p F ps fs Fs h hn t hg hd ih =>
    obtain ⟨as, pa, hl, all⟩ := ih
    obtain ⟨f, fd, hm, hk, hb, hf⟩ := h.ex
    rw [hn] at hf
    refine ⟨f :: as, pa_cons (pe_glob (v := .ref f) hg hm rfl hd) pa, congrArg (· + 1) hl, fun i G e => ?_⟩
    cases i with
    | zero => simp at e; subst e; exact ⟨f, fd, ps, rfl, hk, hb, hn, hf⟩
    | succ i => exact all i G (by simpa using e)
theorem eval_callsub (a b : Expr) (p : Pos) (args : List Expr) (pos : Pos) (env : PySem.Env) : eval (.Call (.Subscript a b p) args [] pos) env = (do
    let f ← eval (.Subscript a b p) env
    callWith pos f [] (backTo pos (starEach args env)) (backToKw pos (keywordEach [] env))) := rfl
theorem je_calls (h : FnL X E.T CA k n fs Fs) (hr : Room k X.A) (tk : Takes X (wOf CA E)) (hb : JE X E b ρ mb) (hn : n = (e :: es).length) (ha : JA X E (e :: es) ρ ms) (hs : PlainIx b := by intro _ _; rfl) (hl : fs.length ≤ 1000 := by decide) (he : noStar e = true := by rfl) (hpl : es.all noStar = true := by rfl) :
    JE X E (.Call (.Subscript (.List fs p1) b p2) (e :: es) [] pos) ρ (mb.bind fun d => (fnAt Fs d).bind fun F => ms.bind F) := by
  obtain ⟨as, pa, hlen, all⟩ := h.all
  have hz : fs.length = as.length := by
    rw [hlen]
    clear pa hlen all as hl
    induction h with
    | nil => rfl
    | cons _ _ _ _ _ ih => exact congrArg (· + 1) ih
  intro H0 G0 G H σ Q S q
  unfold wE
  intro pins s I
  rw [eval_callsub]
  refine wpAny_bind (thn ((pe_ix ix_list (pe_lst pa) (wE.pe b) hs).run pins s σ H (fun v H1 => ∃ (i : Nat) (F : List Slot → R D) (a : Addr) (G1 : Hp), v = .ref a ∧ Fs[i]? = some F ∧ as[i]? = some a ∧ Grow E.T H H1 ∧ Ext G H G1 ∧ Same G1 H1 ∧ Stt E.T X.K H0 G0 G1 H1 σ ρ ∧ (ms.bind F).post (fun a => ∀ v G' H', Grow E.T H H' → Ext G H G' → Same G' H' → repE X.K G' H' v a → Q v H') (fun c => ∀ H', Grow E.T H1 H' → E c σ H')) I ?_) fun u s1 hq => ?_)
  · refine ⟨by rw [List.length_map, ← hz]; exact Nat.le_of_lt (small1000 hl), fun p hp => ?_⟩
    have S1 := S.grow (grow_new (o := .lst (as.map V.ref)) hp) (Ext.refl _ _) (S.sub.trans (same_new hp))
    refine hb.use S1 (R.post_mono q (fun _ _ z => z) fun c _ z H' g => z H' ((grow_new hp).trans g)) fun d v G1 H1 s1 s2 s3 S2 r p1 => ?_
    cases r with
    | int i =>
      cases ei : atI Fs i with
      | none => simp only [fnAt, ei] at p1; exact p1.elim
      | some F =>
        simp only [fnAt, ei] at p1
        obtain ⟨j, ej, ea⟩ := atI_ix ei
        have hj : j < as.length := by rw [hlen]; exact (List.getElem?_eq_some_iff.mp ej).1
        refine ⟨p, as.map V.ref, i, .ref as[j], rfl, rfl, SqL.of (s1 _ _ upd_same), ?_, j, F, as[j], G1, rfl, ej, List.getElem?_eq_getElem hj, (grow_new hp).trans s1, (Ext.refl G H).trans (grow_new (T := E.T) (o := .lst (as.map V.ref)) hp) s2, s3, S2, R.post_mono p1 (fun _ _ z => z) fun c _ z H' g => z H' g⟩
        rw [ea (as.map V.ref) (by rw [List.length_map]; exact hlen), List.getElem?_map, List.getElem?_eq_getElem hj]
        rfl
    | _ => exact p1.elim
  · obtain ⟨v, H1, I1, r1, i, F, a, G1, rfl, eF, ea, g1, g2, g3, S1, po⟩ := hq
    cases r1
    obtain ⟨a', fd, ps, ea', hk, hbd, hps, hf⟩ := all i F eF
    rw [ea] at ea'
    cases ea'
    refine PySem.W.callWith_K (h₀ := X.base) I.ok.mod.kin hk (thn ((wA.pa (e :: es)).run pos pins s1 σ H1 (fun vs H2 => spD E.T X.K CA n F vs H2 Q (fun cls d H' => wOf CA E cls d σ H')) I1 ?_) fun us s2 ⟨vs, H2, I2, r, q2⟩ => ⟨I2.kIn, ?_⟩) (star_cons he) (star_any hpl)
    · refine ha H0 G0 G1 H1 σ _ S1 (R.post_mono (R.post_bind po) (fun ss es' q1 vs G2 H2 s1 s2 s3 r => ?_) fun c _ z => z)
      exact ⟨(Paired.length r.1).trans (r.2.trans hn.symm), s1.tabs (S1.sub0.tabs S1.tb), G2, ss, (S1.grow s1 s2 s3).plainG, s3, r.1, R.post_mono q1 (fun d _ z => Endv.back (g1.trans s1) (g2.trans g1 s2) z) fun c _ z H' s => ⟨rfl, c, rfl, z H' (s1.trans s)⟩⟩
    · exact run_fnS (E := fun σ cls d H' => wOf CA E cls d σ H') hf hr hbd (passAt tk σ) I2 r q2
end
end Br
/-! walks: fields that are read, fields that are set, lists of a walk that are changed -/
namespace Br
open PySem PySem.Spec PyProof.Rows L2
/-- what is known of the class -/
structure WCls (K : PySem.W.Frag) : Prop where
  cl : Cls K (wkC K)
  nO : NoAttr K (wkC K) "own"
  nN : NoAttr K (wkC K) "now"
  nP : NoAttr K (wkC K) "past"
  nL : NoAttr K (wkC K) "later"
section
variable (vo vn : V) (pp pl : Addr)
theorem wfs_own : (wfs vo vn pp pl).lookup ("own" : Str) = some vo := by kernel_rfl
theorem wfs_now : (wfs vo vn pp pl).lookup ("now" : Str) = some vn := by kernel_rfl
theorem wfs_past : (wfs vo vn pp pl).lookup ("past" : Str) = some (.ref pp) := by kernel_rfl
theorem wfs_later : (wfs vo vn pp pl).lookup ("later" : Str) = some (.ref pl) := by kernel_rfl
theorem wfs_put_now (y : V) : putF "now" y (wfs vo vn pp pl) = wfs vo y pp pl := by kernel_rfl
theorem wfs_put_past (q : Addr) : putF "past" (.ref q) (wfs vo vn pp pl) = wfs vo vn q pl := by kernel_rfl
theorem wfs_put_later (q : Addr) : putF "later" (.ref q) (wfs vo vn pp pl) = wfs vo vn pp q := by kernel_rfl
theorem wfs_few : (wfs vo vn pp pl).length < 1000 := by show 4 < 1000; decide
end
/-- slot i holds a walk -/
def WS (ρ : Rho) (i : Nat) (p : Addr) (w : Wk) : Prop := ρ[i]? = some (.wlk p w) ∨ ρ[i]? = some (.bwk p w)
theorem WS.at {T : Tb} {K : PySem.W.Frag} {H0 G0 G H : Hp} {σ : L2.St} {ρ : Rho} {i : Nat} {p : Addr} {w : Wk} (S : Stt T K H0 G0 G H σ ρ) (h : WS ρ i p w) : ∃ pp pl, σ[i]? = some (some (.ref p)) ∧ WkAt K G H p pp pl w := by
  rcases h with h | h
  · obtain ⟨v, e, rfl, pp, pl, q, _⟩ := S.slots i _ h
    exact ⟨pp, pl, e, q⟩
  · obtain ⟨v, e, rfl, pp, pl, q⟩ := S.slots i _ h
    exact ⟨pp, pl, e, q.mono (Same.refl _) S.sub0⟩
/-- the walk of a slot is another one behind a change of its feet -/
theorem Stt.wput {T : Tb} {K : PySem.W.Frag} {H0 G0 G H G' H' : Hp} {σ : L2.St} {ρ : Rho} {i : Nat} {p pp pl pp' pl' : Addr} {w w' : Wk} (S : Stt T K H0 G0 G H σ ρ) (hi : ρ[i]? = some (.wlk p w)) (hv : σ[i]? = some (some (.ref p))) (hw : WkAt K G H p pp pl w)
    (g : Grow T (cut3 H p pp pl) H') (x : Ext G (cut3 H p pp pl) G') (sG : Same G' H') (hw' : WkAt K G' H' p pp' pl' w') (nf : ∀ a, a = p ∨ a = pp' ∨ a = pl' → G' a = none ∧ cut3 H p pp pl a = none) : Stt T K H0 G0 G' H' σ (ρ.set i (.wlk p w')) := by
  have O := S.ok hi hv
  refine S.chg hi hv (fun b => hw.feet) g x sG ⟨rfl, pp', pl', hw', fun a ha => ⟨(nf a ha).1, ?_⟩⟩ fun a f => (nf a (hw'.feet.mp f)).2
  rcases cut3_none (nf a ha).2 with z | z
  · exact (O.foot (hw.feet.mpr z)).2.2
  · exact S.sub0.free z
theorem Stt.wfeet {T : Tb} {K : PySem.W.Frag} {H0 G0 G H : Hp} {σ : L2.St} {ρ : Rho} {i : Nat} {p pp pl : Addr} {w : Wk} (S : Stt T K H0 G0 G H σ ρ) (hi : ρ[i]? = some (.wlk p w)) (hv : σ[i]? = some (some (.ref p))) (hw : WkAt K G H p pp pl w) {a : Addr} (ha : a = p ∨ a = pp ∨ a = pl) : G a = none :=
  ((S.ok hi hv).foot (hw.feet.mpr ha)).2.1
theorem WkAt.ne {K : PySem.W.Frag} {G H : Hp} {p pp pl : Addr} {w : Wk} (h : WkAt K G H p pp pl w) : p ≠ pp ∧ p ≠ pl ∧ pp ≠ pl := by
  obtain ⟨dx, vo, vn, xs, ys, h1, h2, h3, h4, h5, h6, h7, h8⟩ := h
  exact ⟨ne_of h1 h4 (by intro z; cases z), ne_of h1 h6 (by intro z; cases z), h8⟩
section
variable {X : Cx} {E : XW} {ρ : Rho} {i : Nat} {x : Str} {a : Addr} {w : Wk} {p1 pos pos' apos : Pos}
theorem je_wown (T : WCls X.K) (hi : WS ρ i a w) (hN : X.N[i]? = some x := by rfl) (hv : Vis X.env.scope x := by first | exact Or.inl rfl | exact Or.inr (Or.inl rfl) | exact Or.inr (Or.inr rfl)) (hd : (x == ("__debug__" : Str)) = false := by decide)
    (hcd : (x == ("__classdict__" : Str)) = false := by decide) (hb : attributeBase (.Name x p1) "own" X.env (eval (.Name x p1) X.env) = eval (.Name x p1) X.env := by rfl) : JE X E (.Attribute (.Name x p1) "own" pos) ρ (.ok w.own) := fun H0 G0 G H σ Q S q => by
  obtain ⟨pp, pl, e1, dx, vo, vn, xs, ys, h1, h2, h3, h4, h5, h6, h7, h8⟩ := hi.at S
  exact wE.of (pe_fld (pe_var hN hv hd hcd) hb) ⟨_, e1, a, _, dx, _, _, rfl, h1, T.cl, T.nO, wfs_own _ _ _ _, q _ G H (Grow.refl _ _) (Ext.refl _ _) S.sub h2⟩
theorem je_wnow (T : WCls X.K) (hi : WS ρ i a w) (hN : X.N[i]? = some x := by rfl) (hv : Vis X.env.scope x := by first | exact Or.inl rfl | exact Or.inr (Or.inl rfl) | exact Or.inr (Or.inr rfl)) (hd : (x == ("__debug__" : Str)) = false := by decide)
    (hcd : (x == ("__classdict__" : Str)) = false := by decide) (hb : attributeBase (.Name x p1) "now" X.env (eval (.Name x p1) X.env) = eval (.Name x p1) X.env := by rfl) : JE X E (.Attribute (.Name x p1) "now" pos) ρ (.ok w.now) := fun H0 G0 G H σ Q S q => by
  obtain ⟨pp, pl, e1, dx, vo, vn, xs, ys, h1, h2, h3, h4, h5, h6, h7, h8⟩ := hi.at S
  exact wE.of (pe_fld (pe_var hN hv hd hcd) hb) ⟨_, e1, a, _, dx, _, _, rfl, h1, T.cl, T.nN, wfs_now _ _ _ _, q _ G H (Grow.refl _ _) (Ext.refl _ _) S.sub h3⟩
theorem lb_wpast (T : WCls X.K) (hi : WS ρ i a w) (hN : X.N[i]? = some x := by rfl) (hv : Vis X.env.scope x := by first | exact Or.inl rfl | exact Or.inr (Or.inl rfl) | exact Or.inr (Or.inr rfl)) (hd : (x == ("__debug__" : Str)) = false := by decide)
    (hcd : (x == ("__classdict__" : Str)) = false := by decide) (hb : attributeBase (.Name x p1) "past" X.env (eval (.Name x p1) X.env) = eval (.Name x p1) X.env := by rfl) : JB X E (.Attribute (.Name x p1) "past" pos) ρ ((R.ok w.past).bind lstOb) := fun H0 G0 G H σ Q S q => by
  obtain ⟨pp, pl, e1, dx, vo, vn, xs, ys, h1, h2, h3, h4, h5, h6, h7, h8⟩ := hi.at S
  exact wE.of (pe_fld (pe_var hN hv hd hcd) hb) ⟨_, e1, a, _, dx, _, _, rfl, h1, T.cl, T.nP, wfs_past _ _ _ _, q _ G H (Grow.refl _ _) (Ext.refl _ _) S.sub ⟨pp, rfl, xs, SqL.of h4, h5⟩⟩
theorem lb_wlater (T : WCls X.K) (hi : WS ρ i a w) (hN : X.N[i]? = some x := by rfl) (hv : Vis X.env.scope x := by first | exact Or.inl rfl | exact Or.inr (Or.inl rfl) | exact Or.inr (Or.inr rfl)) (hd : (x == ("__debug__" : Str)) = false := by decide)
    (hcd : (x == ("__classdict__" : Str)) = false := by decide) (hb : attributeBase (.Name x p1) "later" X.env (eval (.Name x p1) X.env) = eval (.Name x p1) X.env := by rfl) : JB X E (.Attribute (.Name x p1) "later" pos) ρ ((R.ok w.later).bind lstOb) := fun H0 G0 G H σ Q S q => by
  obtain ⟨pp, pl, e1, dx, vo, vn, xs, ys, h1, h2, h3, h4, h5, h6, h7, h8⟩ := hi.at S
  exact wE.of (pe_fld (pe_var hN hv hd hcd) hb) ⟨_, e1, a, _, dx, _, _, rfl, h1, T.cl, T.nL, wfs_later _ _ _ _, q _ G H (Grow.refl _ _) (Ext.refl _ _) S.sub ⟨pl, rfl, ys, SqL.of h6, h7⟩⟩

/-! ### x.now = e; x.past = [..]; x.later = [..] -/
variable {e : Expr} {m : R D} {ml : R (List D)} {rest : List Stmt} {tR : TS} {α : Type} {fin : α → Rho} {p2 px py pt : Pos} {y z : Str}
theorem jk_wnow {k : D → R (Out α)} (T : WCls X.K) (hi : ρ[i]? = some (.wlk a w)) (he : JE X E e ρ m) (hk : ∀ d, JK X E rest tR (ρ.set i (.wlk a { w with now := d })) fin (k d)) (hN : X.N[i]? = some x := by rfl) (hv : Vis X.env.scope x := by first | exact Or.inl rfl | exact Or.inr (Or.inl rfl) | exact Or.inr (Or.inr rfl)) (hd : (x == ("__debug__" : Str)) = false := by decide)
    (hcd : (x == ("__classdict__" : Str)) = false := by decide) (hs : swapsWith e (some (.Attribute (.Name x p1) "now" pos')) pos.line X.env = pure false := by rfl) : JK X E (.Assign [.Attribute (.Name x p1) "now" pos'] e pos :: rest) tR ρ fin (m.bind k) := jk_cons fun H0 G0 G H σ De S p => by
  refine wS.of (ps_fld (pe_var hN hv hd hcd) (wE.pe e) hs) (he.useS S p fun d v G1 H1 s1 s2 s3 S1 r q1 => ?_)
  obtain ⟨pp, pl, e1, hw⟩ := WS.at S1 (.inl hi)
  obtain ⟨n1, n2, n3⟩ := hw.ne
  have gf : ∀ b, b = a ∨ b = pp ∨ b = pl → G1 b = none := fun b hb => S1.wfeet hi e1 hw hb
  obtain ⟨dx, vo, vn, xs, ys, h1, h2, h3, h4, h5, h6, h7, h8⟩ := id hw
  refine ⟨_, e1, a, _, dx, _, rfl, h1, T.cl, T.nN, wfs_few _ _ _ _, ?_⟩
  rw [wfs_put_now]
  refine hk d H0 G0 G1 _ σ De (S1.wput hi e1 hw ((grow_cut S1.tabs).write (cut3_at (.inl rfl)) ⟨_, h1, rfl⟩) (Ext.refl _ _) (fun b o q => ?_) ⟨dx, vo, v, xs, ys, upd_same, h2, r, by rw [upd_ne n1.symm]; exact h4, h5, by rw [upd_ne n2.symm]; exact h6, h7, h8⟩ fun b hb => ⟨gf b hb, cut3_at hb⟩) q1
  rw [upd_ne (ne_of_none q (gf a (.inl rfl)))]
  exact s3 b o q
theorem Ext.cut {G H G' : Hp} {p q r : Addr} (x : Ext G H G') : Ext G (cut3 H p q r) G' := ⟨x.same, fun b o h => (x.new b o h).elim .inl fun z => .inr (cut3_of_none z), x.tab⟩
theorem WkAt.new {K : PySem.W.Frag} {G H : Hp} {p pp pl q : Addr} {w : Wk} (h : WkAt K G H p pp pl w) (hq : H q = none) : q ≠ p ∧ q ≠ pp ∧ q ≠ pl := by
  have f : ∀ b, b = p ∨ b = pp ∨ b = pl → q ≠ b := fun b hb z => by
    obtain ⟨u, hu, _⟩ := h.plain hb
    rw [← z, hq] at hu; cases hu
  exact ⟨f _ (.inl rfl), f _ (.inr (.inl rfl)), f _ (.inr (.inr rfl))⟩
theorem jk_wlater {k : List D → R (Out α)} (T : WCls X.K) (hi : ρ[i]? = some (.wlk a w)) (he : JN X E e ρ (ml.bind lstOb)) (hk : ∀ l, JK X E rest tR (ρ.set i (.wlk a { w with later := l })) fin (k l)) (hN : X.N[i]? = some x := by rfl) (hv : Vis X.env.scope x := by first | exact Or.inl rfl | exact Or.inr (Or.inl rfl) | exact Or.inr (Or.inr rfl)) (hd : (x == ("__debug__" : Str)) = false := by decide)
    (hcd : (x == ("__classdict__" : Str)) = false := by decide) (hs : swapsWith e (some (.Attribute (.Name x p1) "later" pos')) pos.line X.env = pure false := by rfl) : JK X E (.Assign [.Attribute (.Name x p1) "later" pos'] e pos :: rest) tR ρ fin (ml.bind k) := jk_cons fun H0 G0 G H σ De S p => by
  have p' : ((ml.bind lstOb).bind fun o => match o with | .lst ds => k ds | _ => .stuck).post (PoS E.T X.K H0 G0 fin De) (PoX H0 E) := by rw [R.bind_assoc]; exact p
  refine wS.of (ps_fld (pe_var hN hv hd hcd) (wE.pe e) hs) (he.useS S p' fun o q G1 H1 s1 s2 s3 S1 np gp hq q1 => ?_)
  cases o with
  | dic kvs => exact q1.elim
  | lst ds =>
    obtain ⟨zs, hz, hzs⟩ := hq
    obtain ⟨pp, pl, e1, hw⟩ := WS.at S (.inl hi)
    obtain ⟨n1, n2, n3⟩ := hw.ne
    obtain ⟨m1, m2, m3⟩ := hw.new np
    have gf : ∀ b, b = a ∨ b = pp ∨ b = pl → G1 b = none := fun b hb => S1.wfeet hi e1 (hw.mono s2.same s1) hb
    obtain ⟨dx, vo, vn, xs, ys, h1, h2, h3, h4, h5, h6, h7, h8⟩ := hw.mono s2.same s1
    refine ⟨_, e1, a, _, dx, _, rfl, h1, T.cl, T.nL, wfs_few _ _ _ _, ?_⟩
    rw [wfs_put_later]
    refine hk ds H0 G0 G1 _ σ De (S.wput hi e1 hw (((grow_cut S.tabs).trans s1).write (cut3_at (.inl rfl)) ⟨_, h1, rfl⟩) s2.cut (fun b o q => ?_) ⟨dx, vo, vn, xs, zs, upd_same, h2, h3, by rw [upd_ne n1.symm]; exact h4, h5, by rw [upd_ne m1]; exact hz, hzs, m2.symm⟩ fun b hb => ?_) q1
    · rw [upd_ne (ne_of_none q (gf a (.inl rfl)))]
      exact s3 b o q
    · rcases hb with rfl | rfl | rfl
      · exact ⟨gf b (.inl rfl), cut3_at (.inl rfl)⟩
      · exact ⟨gf b (.inr (.inl rfl)), cut3_at (.inr (.inl rfl))⟩
      · exact ⟨gp, cut3_of_none np⟩
theorem jk_wpast {k : List D → R (Out α)} (T : WCls X.K) (hi : ρ[i]? = some (.wlk a w)) (he : JN X E e ρ (ml.bind lstOb)) (hk : ∀ l, JK X E rest tR (ρ.set i (.wlk a { w with past := l })) fin (k l)) (hN : X.N[i]? = some x := by rfl) (hv : Vis X.env.scope x := by first | exact Or.inl rfl | exact Or.inr (Or.inl rfl) | exact Or.inr (Or.inr rfl)) (hd : (x == ("__debug__" : Str)) = false := by decide)
    (hcd : (x == ("__classdict__" : Str)) = false := by decide) (hs : swapsWith e (some (.Attribute (.Name x p1) "past" pos')) pos.line X.env = pure false := by rfl) : JK X E (.Assign [.Attribute (.Name x p1) "past" pos'] e pos :: rest) tR ρ fin (ml.bind k) := jk_cons fun H0 G0 G H σ De S p => by
  have p' : ((ml.bind lstOb).bind fun o => match o with | .lst ds => k ds | _ => .stuck).post (PoS E.T X.K H0 G0 fin De) (PoX H0 E) := by rw [R.bind_assoc]; exact p
  refine wS.of (ps_fld (pe_var hN hv hd hcd) (wE.pe e) hs) (he.useS S p' fun o q G1 H1 s1 s2 s3 S1 np gp hq q1 => ?_)
  cases o with
  | dic kvs => exact q1.elim
  | lst ds =>
    obtain ⟨zs, hz, hzs⟩ := hq
    obtain ⟨pp, pl, e1, hw⟩ := WS.at S (.inl hi)
    obtain ⟨n1, n2, n3⟩ := hw.ne
    obtain ⟨m1, m2, m3⟩ := hw.new np
    have gf : ∀ b, b = a ∨ b = pp ∨ b = pl → G1 b = none := fun b hb => S1.wfeet hi e1 (hw.mono s2.same s1) hb
    obtain ⟨dx, vo, vn, xs, ys, h1, h2, h3, h4, h5, h6, h7, h8⟩ := hw.mono s2.same s1
    refine ⟨_, e1, a, _, dx, _, rfl, h1, T.cl, T.nP, wfs_few _ _ _ _, ?_⟩
    rw [wfs_put_past]
    refine hk ds H0 G0 G1 _ σ De (S.wput hi e1 hw (((grow_cut S.tabs).trans s1).write (cut3_at (.inl rfl)) ⟨_, h1, rfl⟩) s2.cut (fun b o q => ?_) ⟨dx, vo, vn, zs, ys, upd_same, h2, h3, by rw [upd_ne m1]; exact hz, hzs, by rw [upd_ne n2.symm]; exact h6, h7, m3⟩ fun b hb => ?_) q1
    · rw [upd_ne (ne_of_none q (gf a (.inl rfl)))]
      exact s3 b o q
    · rcases hb with rfl | rfl | rfl
      · exact ⟨gf b (.inl rfl), cut3_at (.inl rfl)⟩
      · exact ⟨gp, cut3_of_none np⟩
      · exact ⟨gf b (.inr (.inr rfl)), cut3_at (.inr (.inr rfl))⟩

/-! ### x.past.append(e), x.later.append(e) -/
theorem jk_wappP {k : List D → R (Out α)} (T : WCls X.K) (hi : ρ[i]? = some (.wlk a w)) (he : JE X E e ρ m) (hk : ∀ l, JK X E rest tR (ρ.set i (.wlk a { w with past := l })) fin (k l)) (hN : X.N[i]? = some x := by rfl) (hv : Vis X.env.scope x := by first | exact Or.inl rfl | exact Or.inr (Or.inl rfl) | exact Or.inr (Or.inr rfl)) (hd : (x == ("__debug__" : Str)) = false := by decide)
    (hcd : (x == ("__classdict__" : Str)) = false := by decide) (hb : attributeBase (.Name x p1) "past" X.env (eval (.Name x p1) X.env) = eval (.Name x p1) X.env := by rfl)
    (hs : swapsWith (.Call (.Attribute (.Attribute (.Name x p1) "past" p2) "append" apos) [e] [] pos') none pos.line X.env = pure false := by rfl)
    (hbase : attributeBase (.Attribute (.Name x p1) "past" p2) "append" X.env (eval (.Attribute (.Name x p1) "past" p2) X.env) = eval (.Attribute (.Name x p1) "past" p2) X.env := by rfl)
    (hfew : ((backTo pos' (starEach [e] X.env)).all (fun x => !x.1) && (backToKw pos' (keywordEach [] X.env)).all (fun x => x.1.isSome)
      && decide (([e] : List Expr).length + ([] : List Keyword).length + (if ([] : List Keyword).isEmpty then 0 else 1) < 30)) = true := by rfl)
    (hline : (apos.endLine == pos'.line) = true := by rfl) (hst : noStar e = true := by rfl) :
    JK X E (.Expr (.Call (.Attribute (.Attribute (.Name x p1) "past" p2) "append" apos) [e] [] pos') pos :: rest) tR ρ fin (m.bind fun d => (app1 w.past d).bind k) := jk_cons fun H0 G0 G H σ De S p => by
  refine wS.of (ps_expr (pe_bm PySem.F.plainAttrs_list PySem.F.slot_list_append PySem.F.type_list_append mt_append (pe_fld (pe_var hN hv hd hcd) hb) (pa_cons (wE.pe e) pa_nil (star_cons hst)) hbase hfew hline (star_cons hst) rfl) hs) ?_
  obtain ⟨pp, pl, e1, hw⟩ := WS.at S (.inl hi)
  obtain ⟨n1, n2, n3⟩ := hw.ne
  obtain ⟨dx, vo, vn, xs, ys, h1, h2, h3, h4, h5, h6, h7, h8⟩ := id hw
  refine ⟨_, e1, a, _, dx, _, _, rfl, h1, T.cl, T.nP, wfs_past _ _ _ _, .inl ⟨rfl, _, SqL.of h4⟩, he.useS S p fun d y G1 H1 s1 s2 s3 S1 r q1 => ?_⟩
  have gf : ∀ b, b = a ∨ b = pp ∨ b = pl → G1 b = none := fun b hb => S1.wfeet hi e1 (hw.mono s2.same s1) hb
  unfold app1 at q1
  split at q1
  · rename_i hl
    have hl' := lineOk_iff.mp hl
    refine ⟨pp, xs, y, rfl, rfl, s1 _ _ h4, by rw [h5.len]; omega, ?_⟩
    refine hk (w.past ++ [d]) H0 G0 G1 _ σ De (S1.wput hi e1 (hw.mono s2.same s1) ((grow_cut S1.tabs).write (cut3_at (.inr (.inl rfl))) ⟨_, s1 _ _ h4, rfl⟩) (Ext.refl _ _) (fun b o q => ?_)
      ⟨dx, vo, vn, _, ys, by rw [upd_ne n1]; exact s1 _ _ h1, dp_mono s2.same h2, dp_mono s2.same h3, upd_same, (dpAll_mono s2.same h5).append (.one r), by rw [upd_ne n3.symm]; exact s1 _ _ h6, dpAll_mono s2.same h7, h8⟩ fun b hb => ⟨gf b hb, cut3_at hb⟩) q1
    rw [upd_ne (ne_of_none q (gf pp (.inr (.inl rfl))))]
    exact s3 b o q
  · exact q1.elim
theorem jk_wappL {k : List D → R (Out α)} (T : WCls X.K) (hi : ρ[i]? = some (.wlk a w)) (he : JE X E e ρ m) (hk : ∀ l, JK X E rest tR (ρ.set i (.wlk a { w with later := l })) fin (k l)) (hN : X.N[i]? = some x := by rfl) (hv : Vis X.env.scope x := by first | exact Or.inl rfl | exact Or.inr (Or.inl rfl) | exact Or.inr (Or.inr rfl)) (hd : (x == ("__debug__" : Str)) = false := by decide)
    (hcd : (x == ("__classdict__" : Str)) = false := by decide) (hb : attributeBase (.Name x p1) "later" X.env (eval (.Name x p1) X.env) = eval (.Name x p1) X.env := by rfl)
    (hs : swapsWith (.Call (.Attribute (.Attribute (.Name x p1) "later" p2) "append" apos) [e] [] pos') none pos.line X.env = pure false := by rfl)
    (hbase : attributeBase (.Attribute (.Name x p1) "later" p2) "append" X.env (eval (.Attribute (.Name x p1) "later" p2) X.env) = eval (.Attribute (.Name x p1) "later" p2) X.env := by rfl)
    (hfew : ((backTo pos' (starEach [e] X.env)).all (fun x => !x.1) && (backToKw pos' (keywordEach [] X.env)).all (fun x => x.1.isSome)
      && decide (([e] : List Expr).length + ([] : List Keyword).length + (if ([] : List Keyword).isEmpty then 0 else 1) < 30)) = true := by rfl)
    (hline : (apos.endLine == pos'.line) = true := by rfl) (hst : noStar e = true := by rfl) :
    JK X E (.Expr (.Call (.Attribute (.Attribute (.Name x p1) "later" p2) "append" apos) [e] [] pos') pos :: rest) tR ρ fin (m.bind fun d => (app1 w.later d).bind k) := jk_cons fun H0 G0 G H σ De S p => by
  refine wS.of (ps_expr (pe_bm PySem.F.plainAttrs_list PySem.F.slot_list_append PySem.F.type_list_append mt_append (pe_fld (pe_var hN hv hd hcd) hb) (pa_cons (wE.pe e) pa_nil (star_cons hst)) hbase hfew hline (star_cons hst) rfl) hs) ?_
  obtain ⟨pp, pl, e1, hw⟩ := WS.at S (.inl hi)
  obtain ⟨n1, n2, n3⟩ := hw.ne
  obtain ⟨dx, vo, vn, xs, ys, h1, h2, h3, h4, h5, h6, h7, h8⟩ := id hw
  refine ⟨_, e1, a, _, dx, _, _, rfl, h1, T.cl, T.nL, wfs_later _ _ _ _, .inl ⟨rfl, _, SqL.of h6⟩, he.useS S p fun d y G1 H1 s1 s2 s3 S1 r q1 => ?_⟩
  have gf : ∀ b, b = a ∨ b = pp ∨ b = pl → G1 b = none := fun b hb => S1.wfeet hi e1 (hw.mono s2.same s1) hb
  unfold app1 at q1
  split at q1
  · rename_i hl
    have hl' := lineOk_iff.mp hl
    refine ⟨pl, ys, y, rfl, rfl, s1 _ _ h6, by rw [h7.len]; omega, ?_⟩
    refine hk (w.later ++ [d]) H0 G0 G1 _ σ De (S1.wput hi e1 (hw.mono s2.same s1) ((grow_cut S1.tabs).write (cut3_at (.inr (.inr rfl))) ⟨_, s1 _ _ h6, rfl⟩) (Ext.refl _ _) (fun b o q => ?_)
      ⟨dx, vo, vn, xs, _, by rw [upd_ne n2]; exact s1 _ _ h1, dp_mono s2.same h2, dp_mono s2.same h3, by rw [upd_ne n3]; exact s1 _ _ h4, dpAll_mono s2.same h5, upd_same, (dpAll_mono s2.same h7).append (.one r), h8⟩ fun b hb => ⟨gf b hb, cut3_at hb⟩) q1
    rw [upd_ne (ne_of_none q (gf pl (.inr (.inr rfl))))]
    exact s3 b o q
  · exact q1.elim

/-! ### y, z = x.past.pop(), y, z = x.later.pop() -/
def popL (ds : List D) : R (D × D × List D) := match ds[ds.length - 1]? with
  | some d => (open2 d).bind fun z => .ok (z.1, z.2, ds.dropLast)
  | none => .stuck
theorem DqAll.dropLast {K : PySem.W.Frag} {G : Hp} {xs : List V} {ds : List D} (h : DqAll K G xs ds) : DqAll K G xs.dropLast ds.dropLast := by
  rw [List.dropLast_eq_take, List.dropLast_eq_take, h.len]
  exact h.take _
theorem popL_inv {ds : List D} {q : D × D × List D → Prop} {x : XC → Prop} (h : (popL ds).post q x) : ∃ a b, ds[ds.length - 1]? = some (.tuple [a, b]) ∧ q (a, b, ds.dropLast) := by
  unfold popL at h
  split at h
  · rename_i d e
    obtain ⟨z, ez, h⟩ := R.post_ok (R.post_bind h) (open2_nx d)
    cases open2_inv ez
    exact ⟨_, _, e, h⟩
  · exact h.elim
theorem jk_wpopP {i1 i2 : Nat} {kt : Nat} {k : D × D × List D → R (Out α)} (T : WCls X.K) (hi : ρ[i]? = some (.wlk a w)) (hk : ∀ z : D × D × List D, JK X E rest tR (((ρ.set i (.wlk a { w with past := z.2.2 })).set i1 (.dat z.1)).set i2 (.dat z.2.1)) fin (k z)) (hN : X.N.Nodup) (hc : X.calm = true) (hx : X.N[i]? = some x := by rfl) (hy : X.N[i1]? = some y := by rfl) (hz : X.N[i2]? = some z := by rfl)
    (hv : Vis X.env.scope x := by first | exact Or.inl rfl | exact Or.inr (Or.inl rfl) | exact Or.inr (Or.inr rfl)) (hd : (x == ("__debug__" : Str)) = false := by decide) (hcd : (x == ("__classdict__" : Str)) = false := by decide)
    (hb : attributeBase (.Name x p1) "past" X.env (eval (.Name x p1) X.env) = eval (.Name x p1) X.env := by rfl)
    (hly : L2.Loc X.env.scope y := by first | exact Or.inl rfl | exact Or.inr rfl) (hlz : L2.Loc X.env.scope z := by first | exact Or.inl rfl | exact Or.inr rfl) (hf : X.fn y = true ∨ X.env.scope.names.lookup y = some .local := by first | exact .inl rfl | exact .inr rfl | assumption) (hf2 : X.fn z = true ∨ X.env.scope.names.lookup z = some .local := by first | exact .inl rfl | exact .inr rfl | assumption)
    (hbase : attributeBase (.Attribute (.Name x p1) "past" p2) "pop" X.env (eval (.Attribute (.Name x p1) "past" p2) X.env) = eval (.Attribute (.Name x p1) "past" p2) X.env := by rfl) (hline : (apos.endLine == pos'.line) = true := by rfl)
    (hs : swapsWithSole [.Tuple [.Name y px, .Name z py] kt pt] (.Call (.Attribute (.Attribute (.Name x p1) "past" p2) "pop" apos) [] [] pos') pos.line X.env = pure false := by rfl) (hw : swappedStores [.Tuple [.Name y px, .Name z py] kt pt] (.Call (.Attribute (.Attribute (.Name x p1) "past" p2) "pop" apos) [] [] pos') X.env = pure none := by rfl) :
    JK X E (.Assign [.Tuple [.Name y px, .Name z py] kt pt] (.Call (.Attribute (.Attribute (.Name x p1) "past" p2) "pop" apos) [] [] pos') pos :: rest) tR ρ fin ((popL w.past).bind k) := jk_cons fun H0 G0 G H σ De S p => by
  refine wS.of (ps_asg (pe_bm0 PySem.F.plainAttrs_list PySem.F.slot_list_pop PySem.F.type_list_pop mt_pop (pe_fld (pe_var hx hv hd hcd) hb) hbase hline) (pg_tup hc (pgs_cons (pg_name hN hy hly hf) (pgs_cons (pg_name hN hz hlz hf2) pgs_nil))) hs hw) ?_
  obtain ⟨pp, pl, e1, hw⟩ := WS.at S (.inl hi)
  obtain ⟨n1, n2, n3⟩ := hw.ne
  have gf : ∀ b, b = a ∨ b = pp ∨ b = pl → G b = none := fun b hb => S.wfeet hi e1 hw hb
  obtain ⟨dx, vo, vn, xs, ys, h1, h2, h3, h4, h5, h6, h7, h8⟩ := id hw
  obtain ⟨da, db, ed, p1⟩ := popL_inv (R.post_bind p)
  have ex : xs.length = w.past.length := h5.len
  obtain ⟨v, hv', hq⟩ := h5.get ed
  refine ⟨_, e1, a, _, dx, _, _, rfl, h1, T.cl, T.nP, wfs_past _ _ _ _, .inl ⟨rfl, _, SqL.of h4⟩, pp, xs, v, rfl, rfl, h4, by rw [ex]; exact hv', ?_⟩
  obtain ⟨t, us, rfl, ht, hu⟩ := Dq.tup_inv hq
  obtain ⟨va, vb, rfl, q1, q2⟩ := dq2 (z := (da, db)) hu rfl
  have S1 := S.wput (w' := { w with past := w.past.dropLast }) hi e1 hw ((grow_cut S.tabs).write (u := .lst xs.dropLast) (cut3_at (.inr (.inl rfl))) ⟨_, h4, rfl⟩) (Ext.refl _ _) (fun b o q => by rw [upd_ne (ne_of_none q (gf pp (.inr (.inl rfl))))]; exact S.sub b o q)
      ⟨dx, vo, vn, _, ys, by rw [upd_ne n1]; exact h1, h2, h3, upd_same, h5.dropLast, by rw [upd_ne n3.symm]; exact h6, h7, h8⟩ fun b hb => ⟨gf b hb, cut3_at hb⟩
  exact ⟨t, _, rfl, Same.tup S1.sub ht, rfl, _, _, rfl, _, _, rfl, rfl, hk (da, db, w.past.dropLast) H0 G0 G _ _ De ((S1.set q1).set q2) p1⟩
theorem jk_wpopL {i1 i2 : Nat} {kt : Nat} {k : D × D × List D → R (Out α)} (T : WCls X.K) (hi : ρ[i]? = some (.wlk a w)) (hk : ∀ z : D × D × List D, JK X E rest tR (((ρ.set i (.wlk a { w with later := z.2.2 })).set i1 (.dat z.1)).set i2 (.dat z.2.1)) fin (k z)) (hN : X.N.Nodup) (hc : X.calm = true) (hx : X.N[i]? = some x := by rfl) (hy : X.N[i1]? = some y := by rfl) (hz : X.N[i2]? = some z := by rfl)
    (hv : Vis X.env.scope x := by first | exact Or.inl rfl | exact Or.inr (Or.inl rfl) | exact Or.inr (Or.inr rfl)) (hd : (x == ("__debug__" : Str)) = false := by decide) (hcd : (x == ("__classdict__" : Str)) = false := by decide)
    (hb : attributeBase (.Name x p1) "later" X.env (eval (.Name x p1) X.env) = eval (.Name x p1) X.env := by rfl)
    (hly : L2.Loc X.env.scope y := by first | exact Or.inl rfl | exact Or.inr rfl) (hlz : L2.Loc X.env.scope z := by first | exact Or.inl rfl | exact Or.inr rfl) (hf : X.fn y = true ∨ X.env.scope.names.lookup y = some .local := by first | exact .inl rfl | exact .inr rfl | assumption) (hf2 : X.fn z = true ∨ X.env.scope.names.lookup z = some .local := by first | exact .inl rfl | exact .inr rfl | assumption)
    (hbase : attributeBase (.Attribute (.Name x p1) "later" p2) "pop" X.env (eval (.Attribute (.Name x p1) "later" p2) X.env) = eval (.Attribute (.Name x p1) "later" p2) X.env := by rfl) (hline : (apos.endLine == pos'.line) = true := by rfl)
    (hs : swapsWithSole [.Tuple [.Name y px, .Name z py] kt pt] (.Call (.Attribute (.Attribute (.Name x p1) "later" p2) "pop" apos) [] [] pos') pos.line X.env = pure false := by rfl) (hw : swappedStores [.Tuple [.Name y px, .Name z py] kt pt] (.Call (.Attribute (.Attribute (.Name x p1) "later" p2) "pop" apos) [] [] pos') X.env = pure none := by rfl) :
    JK X E (.Assign [.Tuple [.Name y px, .Name z py] kt pt] (.Call (.Attribute (.Attribute (.Name x p1) "later" p2) "pop" apos) [] [] pos') pos :: rest) tR ρ fin ((popL w.later).bind k) := jk_cons fun H0 G0 G H σ De S p => by
  refine wS.of (ps_asg (pe_bm0 PySem.F.plainAttrs_list PySem.F.slot_list_pop PySem.F.type_list_pop mt_pop (pe_fld (pe_var hx hv hd hcd) hb) hbase hline) (pg_tup hc (pgs_cons (pg_name hN hy hly hf) (pgs_cons (pg_name hN hz hlz hf2) pgs_nil))) hs hw) ?_
  obtain ⟨pp, pl, e1, hw⟩ := WS.at S (.inl hi)
  obtain ⟨n1, n2, n3⟩ := hw.ne
  have gf : ∀ b, b = a ∨ b = pp ∨ b = pl → G b = none := fun b hb => S.wfeet hi e1 hw hb
  obtain ⟨dx, vo, vn, xs, ys, h1, h2, h3, h4, h5, h6, h7, h8⟩ := id hw
  obtain ⟨da, db, ed, p1⟩ := popL_inv (R.post_bind p)
  have ex : ys.length = w.later.length := h7.len
  obtain ⟨v, hv', hq⟩ := h7.get ed
  refine ⟨_, e1, a, _, dx, _, _, rfl, h1, T.cl, T.nL, wfs_later _ _ _ _, .inl ⟨rfl, _, SqL.of h6⟩, pl, ys, v, rfl, rfl, h6, by rw [ex]; exact hv', ?_⟩
  obtain ⟨t, us, rfl, ht, hu⟩ := Dq.tup_inv hq
  obtain ⟨va, vb, rfl, q1, q2⟩ := dq2 (z := (da, db)) hu rfl
  have S1 := S.wput (w' := { w with later := w.later.dropLast }) hi e1 hw ((grow_cut S.tabs).write (u := .lst ys.dropLast) (cut3_at (.inr (.inr rfl))) ⟨_, h6, rfl⟩) (Ext.refl _ _) (fun b o q => by rw [upd_ne (ne_of_none q (gf pl (.inr (.inr rfl))))]; exact S.sub b o q)
      ⟨dx, vo, vn, xs, _, by rw [upd_ne n2]; exact h1, h2, h3, by rw [upd_ne n3]; exact h4, h5, upd_same, h7.dropLast, h8⟩ fun b hb => ⟨gf b hb, cut3_at hb⟩
  exact ⟨t, _, rfl, Same.tup S1.sub ht, rfl, _, _, rfl, _, _, rfl, rfl, hk (da, db, w.later.dropLast) H0 G0 G _ _ De ((S1.set q1).set q2) p1⟩
end
end Br
/-! walks: promises of methods and defs, their calls; expressions that change walks -/
namespace Br
open PySem PySem.Spec PyProof.Rows L2
/-! ### method calls and makings, where the wish of an exception hangs on the slots -/
def tMethZ (C : Addr) (m : Str) (sp : Sp) (Ex : L2.St → XK) (ta : TE) (t : TA) : TE := fun σ H Q => ta σ H fun x H1 => ∃ a dx fs, x = .ref a ∧ H1 a = some (.ins C dx fs) ∧ fs.lookup m = none ∧ t σ H1 fun vs H2 => sp (x :: vs) H2 Q (Ex σ)
def tMakeZ (C : Addr) (sp : Sp) (Ex : L2.St → XK) (t : TA) : TE := fun σ H Q => t σ H fun vs H1 => ∀ x dx, H1 x = none → H1 dx = none → dx ≠ x → sp (.ref x :: vs) (upd (upd H1 dx (.own x)) x (.ins C dx [])) (fun v H2 => v = .non ∧ Q (.ref x) H2) (Ex σ)
section
variable {X : Cx} {CX : CXT} {k : Nat} {g C : Addr} {fd : FuncData} {ps : List Str} {sp : Sp} {Ex : L2.St → XK} {x m : Str} {p pos apos : Pos} {e o : Expr} {es : List Expr} {ta : TE} {t : TA}
theorem pe_methZ {pl : Sem Bool} (ho : PE X o ta) (c : Cls X.K C) (hm : Meth X.K C m g) (F : FnOk X.prog X.w X.K X.mg X.base CX k g fd ps sp) (hr : Room k X.A) (hb : Binds X.K fd ps []) (hx : ∀ σ, PassesAt CX X σ (Ex σ)) (ha : PA X (e :: es) t) (hs : noStar e = true) (hp : es.all noStar = true)
    (ht : eval (.Call (.Attribute o m apos) (e :: es) [] pos) X.env = (do let z ← eval o X.env; standAt apos.atName; let (g1, fst) ← holding [z] (getMethod z m pl); callWith pos g1 fst (backTo pos (starEach (e :: es) X.env)) (backToKw pos (keywordEach [] X.env))) := by rfl) :
    PE X (.Call (.Attribute o m apos) (e :: es) [] pos) (tMethZ C m sp Ex ta t) := ⟨fun pins s σ H Q I h =>
  PySem.W.methodCall_KW (pl := pl) (thn (ho.run pins s σ H _ I h) fun u s1 ⟨y, H1, I1, ry, a, dx, fs, ey, ea, l, q⟩ => by
    cases ey
    cases (show u = Value.ref a from ry)
    exact getmeth_ok I1 ea c hm l (PySem.W.callWith_K (first := [.ref a]) (h₀ := X.base) I.ok.mod.kin hm.kp (thn (ha.run pos pins s1 σ H1 _ I1 q) fun us s2 ⟨vs, H2, I2, rv, q2⟩ => ⟨I2.kIn, run_fnS (us := .ref a :: us) (vs := .ref a :: vs) F hr hb (hx σ) I2 (.cons rfl rv) q2⟩) (star_cons hs) (star_any hp))) ht⟩
theorem pe_methZ0 {pl : Sem Bool} (ho : PE X o ta) (c : Cls X.K C) (hm : Meth X.K C m g) (F : FnOk X.prog X.w X.K X.mg X.base CX k g fd ps sp) (hr : Room k X.A) (hb : Binds X.K fd ps []) (hx : ∀ σ, PassesAt CX X σ (Ex σ))
    (ht : eval (.Call (.Attribute o m apos) [] [] pos) X.env = (do let z ← eval o X.env; standAt apos.atName; let (g1, fst) ← holding [z] (getMethod z m pl); callWith pos g1 fst (backTo pos (starEach [] X.env)) (backToKw pos (keywordEach [] X.env))) := by rfl) :
    PE X (.Call (.Attribute o m apos) [] [] pos) (tMethZ C m sp Ex ta tNil) := ⟨fun pins s σ H Q I h =>
  PySem.W.methodCall_KW (pl := pl) (thn (ho.run pins s σ H _ I h) fun u s1 ⟨y, H1, I1, ry, a, dx, fs, ey, ea, l, q⟩ => by
    cases ey
    cases (show u = Value.ref a from ry)
    exact getmeth_ok I1 ea c hm l (PySem.W.callWith_K0 (first := [.ref a]) I1.kIn hm.kp (run_fnS (us := [.ref a]) (vs := [.ref a]) F hr hb (hx σ) I1 (.cons rfl .nil) q))) ht⟩
theorem run_makeZ {pins : List (Addr × Obj)} {σ : L2.St} {H : Hp} {s : Shared} {Q : VK} {us : List Value} {vs : List V} (M : Mk X.K C g) (F : FnOk X.prog X.w X.K X.mg X.base CX k g fd ps sp) (hr : Room (k + 1) X.A) (hb : Binds X.K fd ps []) (hx : PassesAt CX X σ (Ex σ)) (I : Inv X pins σ H s) (rv : Vals vs us)
    (h : ∀ x dx, H x = none → H dx = none → dx ≠ x → sp (.ref x :: vs) (upd (upd H dx (.own x)) x (.ins C dx [])) (fun v H2 => v = .non ∧ Q (.ref x) H2) (Ex σ)) : wpAny (model X.prog X.w) X.A (call (.ref C) us) (EP X pins σ Q) X.xe s := by
  let n := s.heap.objs.size
  have hn := h (n + 1) n (I.hok.fresh (Nat.le_succ _)) (I.hok.fresh (Nat.le_refl _)) (Nat.ne_of_lt (Nat.lt_succ_self _))
  have J := Inv.made (C := C) I
  have rv2 : Vals (V.ref (n + 1) :: vs) (Value.ref (n + 1) :: us) := .cons rfl rv
  have hl : (Value.ref (n + 1) :: us).length = ps.length := rv2.length.symm.trans (F.len _ _ _ _ hn)
  have hbind := hb _ (Value.ref (n + 1) :: us) J.kIn (by rw [List.append_nil]; exact hl)
  rw [List.append_nil] at hbind
  have run := F.run _ X.stack _ _ ⟨Value.ref (n + 1) :: us, []⟩ _ _ _ (Ex σ) (hr.make C us []) (J.env0.make C us []) hbind rv2 hn
  refine wpAny_call (make_map (f := g) I.kIn M.makes M.init (beq_iff_eq.mp M.fn) (codeAny_mono run fun z s' hz => ?_))
  match z, hz with
  | .error e, hz => exact hx pins _ _ e s' J hz
  | .ok (.ret u), hz =>
    obtain ⟨v, H', I3, rw3, ev, q3⟩ := J.after hz
    subst ev
    exact ⟨rw3, V.ref (n + 1), H', I3, rfl, q3⟩
theorem pe_makeZ (M : Mk X.K C g) (F : FnOk X.prog X.w X.K X.mg X.base CX k g fd ps sp) (hr : Room (k + 1) X.A) (hg : Gl X x) (hm : X.mg x = some (.ref C)) (hb : Binds X.K fd ps []) (hx : ∀ σ, PassesAt CX X σ (Ex σ)) (ha : PA X (e :: es) t) (hs : noStar e = true) (hp : es.all noStar = true)
    (hdb : (x == ("__debug__" : Str)) = false := by decide) : PE X (.Call (.Name x p) (e :: es) [] pos) (tMakeZ C sp Ex t) := ⟨fun pins s σ H Q I h =>
  wpAny_Call_Name_kw (ld_glob I hg hm (PySem.W.callWith_K (h₀ := X.base) I.ok.mod.kin M.kp (thn (ha.run pos pins s σ H _ I h) fun us s1 ⟨vs, H1, I1, rv, q⟩ => ⟨I1.kIn, run_makeZ M F hr hb (hx σ) I1 rv q⟩) (star_cons hs) (star_any hp)) hdb)⟩
end

/-! ### promises -/
/-- a def or method whose first argument is a walk that it may change -/
def spW (T : Tb) (K : PySem.W.Frag) (CA : XC → Addr) (n : Nat) (F : Wk → List D → R (D × Wk)) : Sp := fun vs H Q Ex => vs.length = n ∧ LamX.Tabs T H ∧ ∃ (G : Hp) (p pp pl : Addr) (w : Wk) (us : List V) (ds : List D), vs = .ref p :: us ∧ (∀ b ps, G b ≠ some (.tbl ps)) ∧ Same G H ∧
  WkAt K G H p pp pl w ∧ (∀ a, a = p ∨ a = pp ∨ a = pl → G a = none) ∧ DqAll K G us ds ∧
  (F w ds).post (fun x => ∀ (v : V) (G' H' : Hp) (pp' pl' : Addr), Grow T (cut3 H p pp pl) H' → Ext G (cut3 H p pp pl) G' → Same G' H' → WkAt K G' H' p pp' pl' x.2 → (∀ a, a = p ∨ a = pp' ∨ a = pl' → G' a = none ∧ cut3 H p pp pl a = none) → Dq K G' v x.1 → Q v H')
    (fun c => ∀ H', Grow T H H' → Ex (.ref (CA c)) none H')
/-- what a new walk is -/
def NewW (K : PySem.W.Frag) (H G H' : Hp) (p : Addr) (w : Wk) : Prop := ∃ pp pl, WkAt K G H' p pp pl w ∧ ∀ a, (a = p ∨ a = pp ∨ a = pl) → G a = none ∧ H a = none
/-- a def or method that tells a new walk -/
def spN (T : Tb) (K : PySem.W.Frag) (CA : XC → Addr) (n : Nat) (F : List Slot → R Wk) : Sp := fun vs H Q Ex => vs.length = n ∧ LamX.Tabs T H ∧ ∃ (G : Hp) (ss : List Slot), (∀ b ps, G b ≠ some (.tbl ps)) ∧ Same G H ∧ Paired (fun v s => ArgOk K G H v s) vs ss ∧
  (F ss).post (fun w => ∀ (p : Addr) (G' H' : Hp), Grow T H H' → Ext G H G' → Same G' H' → NewW K H G' H' p w → Q (.ref p) H') (fun c => ∀ H', Grow T H H' → Ex (.ref (CA c)) none H')
/-- __init__ -/
def spI (T : Tb) (K : PySem.W.Frag) (CA : XC → Addr) (F : D → R Wk) : Sp := fun vs H Q Ex => vs.length = 2 ∧ LamX.Tabs T H ∧ ∃ (G : Hp) (p dx : Addr) (u : V) (d : D), vs = [.ref p, u] ∧ (∀ b ps, G b ≠ some (.tbl ps)) ∧ Same G H ∧ H p = some (.ins (wkC K) dx []) ∧ G p = none ∧ Dq K G u d ∧
  (F d).post (fun w => ∀ (G' H' : Hp) (pp pl : Addr), Grow T (cut3 H p p p) H' → Ext G (cut3 H p p p) G' → Same G' H' → WkAt K G' H' p pp pl w → (∀ a, a = p ∨ a = pp ∨ a = pl → G' a = none ∧ cut3 H p p p a = none) → Q .non H')
    (fun c => ∀ H', Grow T H H' → Ex (.ref (CA c)) none H')
section
variable (T : Tb) (P : Program) (w : World) (K : PySem.W.Frag) (mg : Str → Option Value) (base : Heap) (CA : XC → Addr) (k : Nat) (x : Str) (ps : List Str)
/-- the name is no field of a walk -/
def NoFld (x : Str) : Prop := ∀ vo vn pp pl, (wfs vo vn pp pl).lookup x = none
/-- a method that reads -/
structure FnM (F : List Slot → R D) : Prop where
  ex : ∃ f fd, Meth K (wkC K) x f ∧ Binds K fd ps [] ∧ FnOk P w K mg base (L2.CX P w) k f fd ps (spD T K CA ps.length F)
  nf : NoFld x
/-- a method that changes -/
structure FnWM (F : Wk → List D → R (D × Wk)) : Prop where
  ex : ∃ f fd, Meth K (wkC K) x f ∧ Binds K fd ps [] ∧ FnOk P w K mg base (L2.CX P w) k f fd ps (spW T K CA ps.length F)
  nf : NoFld x
/-- a def that changes its first argument -/
structure FnWD (F : Wk → List D → R (D × Wk)) : Prop where
  ex : ∃ f fd, mg x = some (.ref f) ∧ PySem.W.keepIn K (.ref f) = true ∧ Binds K fd ps [] ∧ FnOk P w K mg base (L2.CX P w) k f fd ps (spW T K CA ps.length F)
/-- a method, a def that tells a new walk -/
structure FnNM (F : List Slot → R Wk) : Prop where
  ex : ∃ f fd, Meth K (wkC K) x f ∧ Binds K fd ps [] ∧ FnOk P w K mg base (L2.CX P w) k f fd ps (spN T K CA ps.length F)
  nf : NoFld x
structure FnND (F : List Slot → R Wk) : Prop where
  ex : ∃ f fd, mg x = some (.ref f) ∧ PySem.W.keepIn K (.ref f) = true ∧ Binds K fd ps [] ∧ FnOk P w K mg base (L2.CX P w) k f fd ps (spN T K CA ps.length F)
/-- the class itself, called -/
structure FnI (F : D → R Wk) : Prop where
  ex : ∃ f fd, mg "Walk" = some (.ref (wkC K)) ∧ Mk K (wkC K) f ∧ Binds K fd ps [] ∧ ps.length = 2 ∧ FnOk P w K mg base (L2.CX P w) k f fd ps (spI T K CA F)
end

/-! ### expressions that change walks: a value and a state -/
def EvM {β γ α : Type} (K : PySem.W.Frag) (E : XW) (t : EvT β) (ρ : Rho) (m : R (γ × α)) (fl : α → Rho) (rep : Hp → Hp → β → γ → Prop) : Prop :=
  ∀ (H0 G0 G H : Hp) (σ : L2.St) (Q : β → Hp → Prop), Stt E.T K H0 G0 G H σ ρ →
    m.post (fun x => ∀ (v : β) (G' H' : Hp), Same G G' → Stt E.T K H0 G0 G' H' σ (fl x.2) → rep G' H' v x.1 → Q v H') (fun c => ∀ H', Grow E.T H H' → E c σ H') → t σ H Q
/-- an expression that tells a new walk -/
def EvW (K : PySem.W.Frag) (E : XW) (t : TE) (ρ : Rho) (m : R Wk) : Prop :=
  ∀ (H0 G0 G H : Hp) (σ : L2.St) (Q : VK), Stt E.T K H0 G0 G H σ ρ →
    m.post (fun w => ∀ (p : Addr) (G' H' : Hp), Grow E.T H H' → Ext G H G' → Same G' H' → NewW K H G' H' p w → Q (.ref p) H') (fun c => ∀ H', Grow E.T H H' → E c σ H') → t σ H Q
section
variable {α : Type}
abbrev JM (X : Cx) (E : XW) (e : Expr) (ρ : Rho) (m : R (D × α)) (fl : α → Rho) : Prop := EvM X.K E (wE X e) ρ m fl (repE X.K)
abbrev JHM (X : Cx) (E : XW) (e : Expr) (ρ : Rho) (m : R (D × α)) (fl : α → Rho) : Prop := EvM X.K E (wE X e) ρ m fl (repH X.K)
abbrev JTM (X : Cx) (E : XW) (e : Expr) (ρ : Rho) (m : R (Bool × α)) (fl : α → Rho) : Prop := EvM X.K E (wT X e) ρ m fl repT
abbrev JWM (X : Cx) (E : XW) (e : Expr) (ρ : Rho) (m : R (Bool × α)) (fl : α → Rho) : Prop := EvM X.K E (wW X e) ρ m fl repT
abbrev JDM (X : Cx) (E : XW) (es : List Expr) (ρ : Rho) (m : R (List D × α)) (fl : α → Rho) : Prop := EvM X.K E (wA X es) ρ m fl (repD X.K es.length)
abbrev JNW (X : Cx) (E : XW) (e : Expr) (ρ : Rho) (m : R Wk) : Prop := EvW X.K E (wE X e) ρ m
end
section
variable {X : Cx} {E : XW} {ρ : Rho} {α β γ : Type} {fl : α → Rho} {e a b c : Expr} {es : List Expr} {pos p p1 apos : Pos} {CA : XC → Addr} {k : Nat} {x y : Str} {ps : List Str}
theorem EvM.wE_of {t : TE} (h : PE X e t) {m : R (γ × α)} {rep : Hp → Hp → V → γ → Prop} (q : EvM X.K E t ρ m fl rep) : EvM X.K E (wE X e) ρ m fl rep := fun H0 G0 G H σ Q S p => wE.of h (q H0 G0 G H σ Q S p)
theorem EvM.wT_of {t : TT} (h : PT X e t) {m : R (Bool × α)} (q : EvM X.K E t ρ m fl repT) : JTM X E e ρ m fl := fun H0 G0 G H σ Q S p => wT.of h (q H0 G0 G H σ Q S p)
theorem EvM.wW_of {t : TT} (h : PW X e t) {m : R (Bool × α)} (q : EvM X.K E t ρ m fl repT) : JWM X E e ρ m fl := fun H0 G0 G H σ Q S p => wW.of h (q H0 G0 G H σ Q S p)
theorem EvM.wA_of {t : TA} (h : PA X es t) {m : R (γ × α)} {rep : Hp → Hp → List V → γ → Prop} (q : EvM X.K E t ρ m fl rep) : EvM X.K E (wA X es) ρ m fl rep := fun H0 G0 G H σ Q S p => wA.of h (q H0 G0 G H σ Q S p)
theorem EvW.wE_of {t : TE} (h : PE X e t) {m : R Wk} (q : EvW X.K E t ρ m) : JNW X E e ρ m := fun H0 G0 G H σ Q S p => wE.of h (q H0 G0 G H σ Q S p)
/-- what changes nothing -/
theorem Ev.m {K : PySem.W.Frag} {t : EvT β} {m : R γ} {rep : Hp → Hp → β → γ → Prop} {s0 : α} (h : Ev K E t ρ m rep) (h0 : fl s0 = ρ) : EvM K E t ρ (m.bind fun x => .ok (x, s0)) fl rep := fun H0 G0 G H σ Q S p => by
  refine h.use0 S (R.post_bind p) fun d v G1 H1 s1 s2 s3 S1 r q => ?_
  exact q v G1 H1 s2.same (by rw [h0]; exact S1) r
/-- an expression ahead of others within a greater one -/
theorem EvM.use {δ : Type} {K : PySem.W.Frag} {t : EvT β} {m : R (γ × α)} {rep : Hp → Hp → β → γ → Prop} (h : EvM K E t ρ m fl rep) {H0 G0 G H : Hp} {σ : L2.St} {Q : β → Hp → Prop} (S : Stt E.T K H0 G0 G H σ ρ) {f : γ × α → R δ} {q : δ → Prop}
    (p : (m.bind fun x => noexc (f x)).post q (fun c => ∀ H', Grow E.T H H' → E c σ H'))
    (g : ∀ (d : γ) (s : α) (v : β) (G' H' : Hp), Same G G' → Stt E.T K H0 G0 G' H' σ (fl s) → rep G' H' v d → (∀ xx : XC → Prop, (f (d, s)).post q xx) → Q v H') : t σ H Q := by
  refine h H0 G0 G H σ Q S (R.post_mono (R.post_bind p) (fun x _ px v G' H' s1 S' r => ?_) fun c _ z => z)
  exact g x.1 x.2 v G' H' s1 S' r fun _ => noexc_post px
theorem JM.h {m : R (D × α)} (h : JM X E e ρ m fl) : JHM X E e ρ m fl := fun H0 G0 G H σ Q S p =>
  h H0 G0 G H σ Q S (R.post_mono p (fun x _ z v G' H' s1 S' r => z v G' H' s1 S' (dp_mono S'.sub r).dp) fun _ _ z => z)
/-! comparisons -/
theorem tOpM {K : PySem.W.Frag} {ta tb : TE} {r : R2} {f : D → D → Option D} {ma : R (D × α)} {mb : α → R (D × α)} (ok : OkH K r f) (ha : EvM K E ta ρ ma fl (repE K)) (hb : ∀ s, EvM K E tb (fl s) (mb s) fl (repH K)) :
    EvM K E (tOp r ta tb) ρ (ma.bind fun z => noexc ((mb z.2).bind fun y => (R.opt (f z.1 y.1)).bind fun t => .ok (t, y.2))) fl (repE K) := fun H0 G0 G H σ Q S p => by
  refine ha.use S p fun d s v G1 H1 s1 S1 r1 p1 => ?_
  refine hb s H0 G0 G1 H1 σ _ S1 (R.post_mono (R.post_bind (p1 _)) (fun y _ py w G2 H2 t1 S2 r2 => ?_) fun c _ z => z)
  obtain ⟨t, et, q⟩ := R.opt_post (R.post_bind py)
  refine ok (T := E.T) G2 H2 v w d y.1 t Q S2.sub (dp_mono S2.sub (dp_mono t1 r1)).dp r2 et fun u G3 H3 u1 u2 u3 r3 => ?_
  exact q u G3 H3 ((s1.trans t1).trans u2.same) (S2.grow u1 u2 u3) r3
theorem jm_c {op : CmpOp} {f : D → D → Option D} {ma : R (D × α)} {mb : α → R (D × α)} (h : CR X op f) (ha : JM X E a ρ ma fl) (hb : ∀ s, JHM X E b (fl s) (mb s) fl) (hm : behindInMarks op b = false := by first | exact nomark _ | rfl) :
    JM X E (.Compare a [op] [b] pos) ρ (ma.bind fun z => noexc ((mb z.2).bind fun y => (R.opt (f z.1 y.1)).bind fun t => .ok (t, y.2))) fl := by
  obtain ⟨r, ho, ok⟩ := h
  exact EvM.wE_of (pe_cmpR ho (wE.pe a) (wE.pe b) hm) (tOpM ok ha hb)
def asBM {α : Type} (x : D × α) : R (Bool × α) := (asB x.1).bind fun t => .ok (t, x.2)
theorem EvM.test {K : PySem.W.Frag} {t : TE} {m : R (D × α)} (h : EvM K E t ρ m fl (repE K)) : EvM K E (tTest t) ρ (m.bind asBM) fl repT := fun H0 G0 G H σ Q S p => by
  refine h H0 G0 G H σ _ S (R.post_mono (R.post_bind p) (fun x _ px v G' H' s1 S' r => ?_) fun c _ z => z)
  obtain ⟨d, s⟩ := x
  cases r with
  | bl b => exact ⟨b, rfl, px b G' H' s1 S' rfl⟩
  | _ => exact px.elim
theorem jmt_c {op : CmpOp} {f : D → D → Option D} {ma : R (D × α)} {mb : α → R (D × α)} (h : CR X op f) (ha : JM X E a ρ ma fl) (hb : ∀ s, JHM X E b (fl s) (mb s) fl) (hm : behindInMarks op b = false := by first | exact nomark _ | rfl) :
    JTM X E (.Compare a [op] [b] pos) ρ ((ma.bind fun z => noexc ((mb z.2).bind fun y => (R.opt (f z.1 y.1)).bind fun t => .ok (t, y.2))).bind asBM) fl := by
  obtain ⟨r, ho, ok⟩ := h
  exact EvM.wT_of (pt_cmpR ho (wE.pe a) (wE.pe b) hm) (EvM.test (tOpM ok ha hb))
/-! tests -/
variable {mt : R (Bool × α)} {mu : α → R (Bool × α)} {rest : List Expr}
theorem jmt_w (h : JWM X E e ρ mt fl) : JTM X E e ρ mt fl := EvM.wT_of (wW.pw e).pt h
theorem jmt_not (h : JTM X E a ρ mt fl) : JTM X E (.UnaryOp .Not a pos) ρ (mt.bind fun z => .ok (!z.1, z.2)) fl := EvM.wT_of (pt_not (wT.pt a)) fun H0 G0 G H σ Q S p => by
  refine h H0 G0 G H σ _ S (R.post_mono (R.post_bind p) (fun x _ px v G' H' s1 S' r => ?_) fun c _ z => z)
  cases r
  exact px (!x.1) G' H' s1 S' rfl
theorem jmw_and1 (ha : JTM X E a ρ mt fl) : JWM X E (.BoolOp .And [a] pos) ρ mt fl := EvM.wW_of (pw_and1 (wT.pt a)) ha
theorem jmw_or1 (ha : JTM X E a ρ mt fl) : JWM X E (.BoolOp .Or [a] pos) ρ mt fl := EvM.wW_of (pw_or1 (wT.pt a)) ha
theorem jmw_and (ha : JTM X E a ρ mt fl) (hb : ∀ s, JWM X E (.BoolOp .And (b :: rest) pos) (fl s) (mu s) fl) : JWM X E (.BoolOp .And (a :: b :: rest) pos) ρ (mt.bind fun z => noexc (if z.1 then mu z.2 else .ok (false, z.2))) fl :=
  EvM.wW_of (pw_and (wT.pt a) (wW.pw _)) fun H0 G0 G H σ Q S p => by
    refine ha.use S p fun t s t' G1 H1 s1 S1 r p1 => ?_
    cases r
    cases t with
    | false => rw [if_neg Bool.false_ne_true]; exact p1 (fun _ => True) false G1 H1 s1 S1 rfl
    | true => rw [if_pos rfl]; exact hb s H0 G0 G1 H1 σ _ S1 (R.post_mono (p1 _) (fun x _ px v G' H' u1 S' r => px v G' H' (s1.trans u1) S' r) fun c _ z => z)
theorem jmw_or (ha : JTM X E a ρ mt fl) (hb : ∀ s, JWM X E (.BoolOp .Or (b :: rest) pos) (fl s) (mu s) fl) : JWM X E (.BoolOp .Or (a :: b :: rest) pos) ρ (mt.bind fun z => noexc (if z.1 then .ok (true, z.2) else mu z.2)) fl :=
  EvM.wW_of (pw_or (wT.pt a) (wW.pw _)) fun H0 G0 G H σ Q S p => by
    refine ha.use S p fun t s t' G1 H1 s1 S1 r p1 => ?_
    cases r
    cases t with
    | true => rw [if_pos rfl]; exact p1 (fun _ => True) true G1 H1 s1 S1 rfl
    | false => rw [if_neg Bool.false_ne_true]; exact hb s H0 G0 G1 H1 σ _ S1 (R.post_mono (p1 _) (fun x _ px v G' H' u1 S' r => px v G' H' (s1.trans u1) S' r) fun c _ z => z)
/-! and as a value -/
variable {ma : R (D × α)} {mb : α → R (D × α)}
theorem jm_one {op} (h : JM X E a ρ ma fl) : JM X E (.BoolOp op [a] pos) ρ ma fl := EvM.wE_of (pe_one (wE.pe a)) h
theorem jm_and (ha : JM X E a ρ ma fl) (hb : ∀ s, JM X E (.BoolOp .And (b :: rest) pos) (fl s) (mb s) fl) : JM X E (.BoolOp .And (a :: b :: rest) pos) ρ (ma.bind fun z => noexc ((asB z.1).bind fun t => if t then mb z.2 else .ok (.bool false, z.2))) fl :=
  EvM.wE_of (pe_and (wE.pe a) (wE.pe _)) fun H0 G0 G H σ Q S p => by
    refine ha.use S p fun d s v G1 H1 s1 S1 r p1 => ?_
    cases r with
    | bl t =>
      refine ⟨t, rfl, ?_⟩
      cases t with
      | false => rw [if_neg Bool.false_ne_true]; exact p1 (fun _ => True) (.bl false) G1 H1 s1 S1 (.bl _)
      | true => rw [if_pos rfl]; exact hb s H0 G0 G1 H1 σ _ S1 (R.post_mono (p1 _) (fun x _ px v G' H' u1 S' r => px v G' H' (s1.trans u1) S' r) fun c _ z => z)
    | _ => exact (p1 (fun _ => False)).elim
/-- a if c else b -/
theorem jm_if {tc : R Bool} {ma mb : R (D × α)} (hc : JT X E c ρ tc) (ha : JM X E a ρ ma fl) (hb : JM X E b ρ mb fl) : JM X E (.IfExp c a b pos) ρ (tc.bind fun t => if t then ma else mb) fl :=
  EvM.wE_of (pe_ifExp (wT.pt c) (wE.pe a) (wE.pe b)) fun H0 G0 G H σ Q S p => by
    refine hc.use S p fun t t' G1 H1 s1 s2 s3 S1 r p1 => ?_
    cases r
    cases t with
    | true => rw [if_pos rfl] at p1 ⊢; exact ha H0 G0 G1 H1 σ _ S1 (R.post_mono p1 (fun x _ px v G' H' u1 S' r => px v G' H' (s2.same.trans u1) S' r) fun c _ z => z)
    | false => rw [if_neg Bool.false_ne_true] at p1 ⊢; exact hb H0 G0 G1 H1 σ _ S1 (R.post_mono p1 (fun x _ px v G' H' u1 S' r => px v G' H' (s2.same.trans u1) S' r) fun c _ z => z)
/-! lists of expressions -/
theorem jdm_nil {s0 : α} (h0 : fl s0 = ρ) : JDM X E [] ρ (.ok ([], s0)) fl := (jd_nil (X := X) (E := E) (ρ := ρ)).m h0
theorem jdm_cons {ma : R (D × α)} {ms : α → R (List D × α)} (ha : JM X E e ρ ma fl) (hr : ∀ s, JDM X E es (fl s) (ms s) fl) (hs : noStar e = true := by rfl) : JDM X E (e :: es) ρ (ma.bind fun z => noexc ((ms z.2).bind fun y => .ok (z.1 :: y.1, y.2))) fl :=
  EvM.wA_of (pa_cons (wE.pe e) (wA.pa es) (star_cons hs)) fun H0 G0 G H σ Q S p => by
    refine ha.use S p fun d s v G1 H1 s1 S1 r p1 => ?_
    refine hr s H0 G0 G1 H1 σ _ S1 (R.post_mono (R.post_bind (p1 _)) (fun y _ py vs G2 H2 t1 S2 r2 => ?_) fun c _ z => z)
    exact py (v :: vs) G2 H2 (s1.trans t1) S2 ⟨.cons (dp_mono t1 r) r2.1, congrArg (· + 1) r2.2⟩
end

/-! ### calls -/
section
variable {X : Cx} {E : XW} {ρ : Rho} {α : Type} {fl : α → Rho} {e : Expr} {es : List Expr} {pos p p1 apos : Pos} {CA : XC → Addr} {k i : Nat} {x y m : Str} {ps : List Str} {a : Addr} {w : Wk}
/-- o.m(), o.m(..), a method that reads -/
theorem je_meth0 {F : List Slot → R D} {F' : Wk → R D} (hF : ∀ p w, F [.bwk p w] = F' w) (h : FnM E.T X.prog X.w X.K X.mg X.base CA k m ps F) (hr : Room k X.A) (tk : Takes X (wOf CA E)) (T : WCls X.K) (hi : WS ρ i a w) (hn : ps.length = 1) (hN : X.N[i]? = some x := by rfl) (hv : Vis X.env.scope x := by first | exact Or.inl rfl | exact Or.inr (Or.inl rfl) | exact Or.inr (Or.inr rfl)) (hd : (x == ("__debug__" : Str)) = false := by decide)
    (hcd : (x == ("__classdict__" : Str)) = false := by decide) {pl : Sem Bool} (ht : eval (.Call (.Attribute (.Name x p1) m apos) [] [] pos) X.env = (do let z ← eval (.Name x p1) X.env; standAt apos.atName; let (g1, fst) ← holding [z] (getMethod z m pl); callWith pos g1 fst (backTo pos (starEach [] X.env)) (backToKw pos (keywordEach [] X.env))) := by rfl) :
    JE X E (.Call (.Attribute (.Name x p1) m apos) [] [] pos) ρ (F' w) := by
  rw [← hF a w]
  obtain ⟨f, fd, hm, hb, hf⟩ := h.ex
  refine Ev.wE_of (pe_methZ0 (pe_var hN hv hd hcd) T.cl hm hf hr hb (fun σ => passAt tk σ) ht) fun H0 G0 G H σ Q S q => ?_
  obtain ⟨pp, pl, e1, hw⟩ := hi.at S
  obtain ⟨dx, vo, vn, xs, ys, h1, _⟩ := id hw
  exact ⟨_, e1, a, dx, _, rfl, h1, h.nf _ _ _ _, hn.symm, S.tabs, G, [.bwk a w], S.plainG, S.sub, .cons ⟨rfl, pp, pl, hw⟩ .nil, R.post_mono q (fun d _ z => z) fun c _ z H' s => ⟨rfl, c, rfl, z H' s⟩⟩
/-- o.m(), a method that changes -/
theorem jm_meth0 {F : Wk → List D → R (D × Wk)} {u : Wk → α} (h : FnWM E.T X.prog X.w X.K X.mg X.base CA k m ps F) (hr : Room k X.A) (tk : Takes X (wOf CA E)) (T : WCls X.K) (hi : ρ[i]? = some (.wlk a w)) (hu : ∀ w', fl (u w') = ρ.set i (.wlk a w')) (hn : ps.length = 1) (hN : X.N[i]? = some x := by rfl) (hv : Vis X.env.scope x := by first | exact Or.inl rfl | exact Or.inr (Or.inl rfl) | exact Or.inr (Or.inr rfl)) (hd : (x == ("__debug__" : Str)) = false := by decide)
    (hcd : (x == ("__classdict__" : Str)) = false := by decide) {pl : Sem Bool} (ht : eval (.Call (.Attribute (.Name x p1) m apos) [] [] pos) X.env = (do let z ← eval (.Name x p1) X.env; standAt apos.atName; let (g1, fst) ← holding [z] (getMethod z m pl); callWith pos g1 fst (backTo pos (starEach [] X.env)) (backToKw pos (keywordEach [] X.env))) := by rfl) :
    JM X E (.Call (.Attribute (.Name x p1) m apos) [] [] pos) ρ ((F w []).bind fun z => .ok (z.1, u z.2)) fl := by
  obtain ⟨f, fd, hm, hb, hf⟩ := h.ex
  refine EvM.wE_of (pe_methZ0 (pe_var hN hv hd hcd) T.cl hm hf hr hb (fun σ => passAt tk σ) ht) fun H0 G0 G H σ Q S q => ?_
  obtain ⟨pp, pl, e1, hw⟩ := WS.at S (.inl hi)
  obtain ⟨dx, vo, vn, xs, ys, h1, _⟩ := id hw
  refine ⟨_, e1, a, dx, _, rfl, h1, h.nf _ _ _ _, hn.symm, S.tabs, G, a, pp, pl, w, [], [], rfl, S.plainG, S.sub, hw, fun b hb => S.wfeet hi e1 hw hb, .nil, R.post_mono (R.post_bind q) (fun z _ pz v G' H' pp' pl' g1 x1 s1 hw' nf hq => ?_) fun c _ z H' s => ⟨rfl, c, rfl, z H' s⟩⟩
  exact pz v G' H' x1.same (by rw [hu]; exact S.wput hi e1 hw g1 x1 s1 hw' nf) hq
theorem jm_meth {F : Wk → List D → R (D × Wk)} {ms : R (List D)} {u : Wk → α} (h : FnWM E.T X.prog X.w X.K X.mg X.base CA k m ps F) (hr : Room k X.A) (tk : Takes X (wOf CA E)) (T : WCls X.K) (hi : ρ[i]? = some (.wlk a w)) (hu : ∀ w', fl (u w') = ρ.set i (.wlk a w')) (ha : JD X E (e :: es) ρ ms) (hn : ps.length = es.length + 2) (hN : X.N[i]? = some x := by rfl) (hv : Vis X.env.scope x := by first | exact Or.inl rfl | exact Or.inr (Or.inl rfl) | exact Or.inr (Or.inr rfl)) (hd : (x == ("__debug__" : Str)) = false := by decide)
    (hcd : (x == ("__classdict__" : Str)) = false := by decide) (hs : noStar e = true := by rfl) (hp : es.all noStar = true := by rfl) {pl : Sem Bool} (ht : eval (.Call (.Attribute (.Name x p1) m apos) (e :: es) [] pos) X.env = (do let z ← eval (.Name x p1) X.env; standAt apos.atName; let (g1, fst) ← holding [z] (getMethod z m pl); callWith pos g1 fst (backTo pos (starEach (e :: es) X.env)) (backToKw pos (keywordEach [] X.env))) := by rfl) :
    JM X E (.Call (.Attribute (.Name x p1) m apos) (e :: es) [] pos) ρ (ms.bind fun ds => (F w ds).bind fun z => .ok (z.1, u z.2)) fl := by
  obtain ⟨f, fd, hm, hb, hf⟩ := h.ex
  refine EvM.wE_of (pe_methZ (pe_var hN hv hd hcd) T.cl hm hf hr hb (fun σ => passAt tk σ) (wA.pa _) hs hp ht) fun H0 G0 G H σ Q S q => ?_
  obtain ⟨pp, pl, e1, hw⟩ := WS.at S (.inl hi)
  obtain ⟨dx, vo, vn, xs, ys, h1, _⟩ := id hw
  refine ⟨_, e1, a, dx, _, rfl, h1, h.nf _ _ _ _, ha.use S q fun ds vs G1 H1 s1 s2 s3 S1 r q1 => ?_⟩
  have hw1 := hw.mono s2.same s1
  refine ⟨?_, S1.tabs, G1, a, pp, pl, w, vs, ds, rfl, S1.plainG, s3, hw1, fun b hb => S1.wfeet hi e1 hw1 hb, r.1, R.post_mono (R.post_bind q1) (fun z _ pz v G' H' pp' pl' g1 x1 u1 hw' nf hq => ?_) fun c _ z H' s => ⟨rfl, c, rfl, z H' s⟩⟩
  · rw [hn, List.length_cons, r.1.len, r.2]; rfl
  · exact pz v G' H' (s2.same.trans x1.same) (by rw [hu]; exact S1.wput hi e1 hw1 g1 x1 u1 hw' nf) hq
/-- f(x, ..), a def that changes its first argument -/
theorem jm_call {F : Wk → List D → R (D × Wk)} {ms : R (List D)} {u : Wk → α} (h : FnWD E.T X.prog X.w X.K X.mg X.base CA k y ps F) (hr : Room k X.A) (tk : Takes X (wOf CA E)) (hi : ρ[i]? = some (.wlk a w)) (hu : ∀ w', fl (u w') = ρ.set i (.wlk a w')) (ha : JD X E es ρ ms) (hn : ps.length = es.length + 1) (hg : Gl X y := by rfl) (hdb : (y == ("__debug__" : Str)) = false := by decide)
    (hN : X.N[i]? = some x := by rfl) (hv : Vis X.env.scope x := by first | exact Or.inl rfl | exact Or.inr (Or.inl rfl) | exact Or.inr (Or.inr rfl)) (hd : (x == ("__debug__" : Str)) = false := by decide) (hcd : (x == ("__classdict__" : Str)) = false := by decide) (hp : es.all noStar = true := by rfl) :
    JM X E (.Call (.Name y p) (.Name x p1 :: es) [] pos) ρ (ms.bind fun ds => (F w ds).bind fun z => .ok (z.1, u z.2)) fl := by
  obtain ⟨f, fd, hm, hk, hb, hf⟩ := h.ex
  refine EvM.wE_of (pe_callS hf hr hg hm hk hb (fun σ => passAt tk σ) (pa_cons (pe_var hN hv hd hcd) (wA.pa es) rfl) hdb rfl (star_any hp)) fun H0 G0 G H σ Q S q => ?_
  obtain ⟨pp, pl, e1, hw⟩ := WS.at S (.inl hi)
  refine ⟨_, e1, ha.use S q fun ds vs G1 H1 s1 s2 s3 S1 r q1 => ?_⟩
  have hw1 := hw.mono s2.same s1
  refine ⟨?_, S1.tabs, G1, a, pp, pl, w, vs, ds, rfl, S1.plainG, s3, hw1, fun b hb => S1.wfeet hi e1 hw1 hb, r.1, R.post_mono (R.post_bind q1) (fun z _ pz v G' H' pp' pl' g1 x1 u1 hw' nf hq => ?_) fun c _ z H' s => ⟨rfl, c, rfl, z H' s⟩⟩
  · rw [hn, List.length_cons, r.1.len, r.2]
  · exact pz v G' H' (s2.same.trans x1.same) (by rw [hu]; exact S1.wput hi e1 hw1 g1 x1 u1 hw' nf) hq
/-- Walk(e) -/
theorem jw_make {F : D → R Wk} {md : R D} (h : FnI E.T X.prog X.w X.K X.mg X.base CA k ps F) (hr : Room (k + 1) X.A) (tk : Takes X (wOf CA E)) (ha : JE X E e ρ md) (hg : Gl X "Walk" := by rfl) (hs : noStar e = true := by rfl) : JNW X E (.Call (.Name "Walk" p) [e] [] pos) ρ (md.bind F) := by
  obtain ⟨f, fd, hm, M, hb, hl, hf⟩ := h.ex
  refine EvW.wE_of (pe_makeZ M hf hr hg hm hb (fun σ => passAt tk σ) (pa_cons (wE.pe e) pa_nil (star_cons hs)) hs rfl) fun H0 G0 G H σ Q S q => ?_
  refine ha.use S q fun d v G1 H1 s1 s2 s3 S1 r q1 => ?_
  intro z dx hz hdx hne
  have c1 : ∀ b, b ≠ z → upd (upd H1 dx (HO.own z)) z (.ins (wkC X.K) dx []) b = upd H1 dx (HO.own z) b := fun b hb => upd_ne hb
  have s4 : Same H1 (upd (upd H1 dx (HO.own z)) z (.ins (wkC X.K) dx [])) := fun b o e => by rw [upd_ne (ne_of_none e hz), upd_ne (ne_of_none e hdx)]; exact e
  have s5 : Same H1 (cut3 (upd (upd H1 dx (HO.own z)) z (.ins (wkC X.K) dx [])) z z z) := fun b o e => by
    rw [cut3_ne (by have := ne_of_none e hz; simp [this])]
    exact s4 b o e
  refine ⟨rfl, S1.tabs.ext s4, G1, z, dx, v, d, rfl, S1.plainG, s3.trans s4, upd_same, s3.free hz, r, R.post_mono q1 (fun w _ pw G' H' pp pl g x u1 hw nf => ⟨rfl, ?_⟩) fun c _ y H' g => ⟨rfl, c, rfl, y H' ((Same.g s4).trans g)⟩⟩
  have f1 : ∀ b, cut3 (upd (upd H1 dx (HO.own z)) z (.ins (wkC X.K) dx [])) z z z b = none → H1 b = none := fun b hb => by
    cases q : H1 b with
    | none => rfl
    | some o => rw [s5 b o q] at hb; cases hb
  refine pw z G' H' (s1.trans ((Same.g s5).trans g)) ⟨s2.same.trans x.same, fun b o e => ?_, fun b ps e => s2.tab b ps (x.tab b ps e)⟩ u1 ⟨pp, pl, hw, fun b hb => ⟨(nf b hb).1, s1.free (f1 b (nf b hb).2)⟩⟩
  rcases x.new b o e with e | e
  · exact s2.new b o e
  · exact .inr (s1.free (f1 b e))
/-- f(..), a def that tells a new walk -/
theorem jw_call {F : List Slot → R Wk} {ms : R (List Slot)} (h : FnND E.T X.prog X.w X.K X.mg X.base CA k y ps F) (hr : Room k X.A) (tk : Takes X (wOf CA E)) (hn : ps.length = (e :: es).length) (ha : JA X E (e :: es) ρ ms) (hg : Gl X y := by rfl) (hdb : (y == ("__debug__" : Str)) = false := by decide) (hs : noStar e = true := by rfl) (hp : es.all noStar = true := by rfl) :
    JNW X E (.Call (.Name y p) (e :: es) [] pos) ρ (ms.bind F) := by
  obtain ⟨f, fd, hm, hk, hb, hf⟩ := h.ex
  refine EvW.wE_of (pe_callS hf hr hg hm hk hb (fun σ => passAt tk σ) (wA.pa _) hdb (star_cons hs) (star_any hp)) fun H0 G0 G H σ Q S q => ?_
  refine ha H0 G0 G H σ _ S (R.post_mono (R.post_bind q) (fun ss _ q1 vs G1 H1 s1 s2 s3 r => ?_) fun c _ z => z)
  refine ⟨(Paired.length r.1).trans (r.2.trans hn.symm), s1.tabs S.tabs, G1, ss, (S.grow s1 s2 s3).plainG, s3, r.1, R.post_mono q1 (fun w _ z a G' H' g x u nw => ?_) fun c _ z H' s => ⟨rfl, c, rfl, z H' (s1.trans s)⟩⟩
  obtain ⟨pp, pl, hw, nf⟩ := nw
  exact z a G' H' (s1.trans g) (s2.trans s1 x) u ⟨pp, pl, hw, fun b hb => ⟨(nf b hb).1, s1.free (nf b hb).2⟩⟩
/-- o.m() that tells a new walk -/
theorem jw_meth0 {F : List Slot → R Wk} {F' : Wk → R Wk} (hF : ∀ p w, F [.bwk p w] = F' w) (h : FnNM E.T X.prog X.w X.K X.mg X.base CA k m ps F) (hr : Room k X.A) (tk : Takes X (wOf CA E)) (T : WCls X.K) (hi : WS ρ i a w) (hn : ps.length = 1) (hN : X.N[i]? = some x := by rfl) (hv : Vis X.env.scope x := by first | exact Or.inl rfl | exact Or.inr (Or.inl rfl) | exact Or.inr (Or.inr rfl)) (hd : (x == ("__debug__" : Str)) = false := by decide)
    (hcd : (x == ("__classdict__" : Str)) = false := by decide) {pl : Sem Bool} (ht : eval (.Call (.Attribute (.Name x p1) m apos) [] [] pos) X.env = (do let z ← eval (.Name x p1) X.env; standAt apos.atName; let (g1, fst) ← holding [z] (getMethod z m pl); callWith pos g1 fst (backTo pos (starEach [] X.env)) (backToKw pos (keywordEach [] X.env))) := by rfl) :
    JNW X E (.Call (.Attribute (.Name x p1) m apos) [] [] pos) ρ (F' w) := by
  rw [← hF a w]
  obtain ⟨f, fd, hm, hb, hf⟩ := h.ex
  refine EvW.wE_of (pe_methZ0 (pe_var hN hv hd hcd) T.cl hm hf hr hb (fun σ => passAt tk σ) ht) fun H0 G0 G H σ Q S q => ?_
  obtain ⟨pp, pl, e1, hw⟩ := hi.at S
  obtain ⟨dx, vo, vn, xs, ys, h1, _⟩ := id hw
  exact ⟨_, e1, a, dx, _, rfl, h1, h.nf _ _ _ _, hn.symm, S.tabs, G, [.bwk a w], S.plainG, S.sub, .cons ⟨rfl, pp, pl, hw⟩ .nil, R.post_mono q (fun d _ z => z) fun c _ z H' s => ⟨rfl, c, rfl, z H' s⟩⟩
/-! walks handed to a def that reads -/
theorem ja_wk {ms : R (List Slot)} (hi : WS ρ i a w) (hr : JA X E es ρ ms) (hN : X.N[i]? = some x := by rfl) (hv : Vis X.env.scope x := by first | exact Or.inl rfl | exact Or.inr (Or.inl rfl) | exact Or.inr (Or.inr rfl)) (hd : (x == ("__debug__" : Str)) = false := by decide)
    (hcd : (x == ("__classdict__" : Str)) = false := by decide) : JA X E (.Name x p1 :: es) ρ (ms.bind fun xs => .ok (.bwk a w :: xs)) :=
  Ev.wA_of (pa_cons (pe_var hN hv hd hcd) (wA.pa es) rfl) fun H0 G0 G H σ Q S q => by
    obtain ⟨pp, pl, e1, hw⟩ := hi.at S
    refine ⟨_, e1, hr.use S q fun ss vs G1 H1 s1 s2 s3 S1 r q1 => ?_⟩
    exact q1 (.ref a :: vs) G1 H1 s1 s2 s3 ⟨.cons ⟨rfl, pp, pl, hw.mono s2.same s1⟩ r.1, congrArg (· + 1) r.2⟩
/-- f(x), a def that reads a walk -/
theorem je_callw {F : List Slot → R D} {F' : Wk → R D} (hF : ∀ p w, F [.bwk p w] = F' w) (h : FnD E.T X.prog X.w X.K X.mg X.base CA k y ps F) (hr : Room k X.A) (tk : Takes X (wOf CA E)) (hi : WS ρ i a w) (hn : ps.length = 1) (hg : Gl X y := by rfl) (hdb : (y == ("__debug__" : Str)) = false := by decide)
    (hN : X.N[i]? = some x := by rfl) (hv : Vis X.env.scope x := by first | exact Or.inl rfl | exact Or.inr (Or.inl rfl) | exact Or.inr (Or.inr rfl)) (hd : (x == ("__debug__" : Str)) = false := by decide) (hcd : (x == ("__classdict__" : Str)) = false := by decide) : JE X E (.Call (.Name y p) [.Name x p1] [] pos) ρ (F' w) := by
  rw [← hF a w]
  exact je_call h hr tk (by rw [hn]; rfl) (ja_wk hi ja_nil hN hv hd hcd) hg hdb rfl rfl
theorem JNW.never {mw : R Wk} (h : JNW X E e ρ mw) : JE X E e ρ (mw.bind fun _ => .stuck) := fun H0 G0 G H σ Q S p =>
  h H0 G0 G H σ Q S (R.post_mono (R.post_bind p) (fun _ _ z => z.elim) fun _ _ z => z)
theorem ja_wnew {mw : R Wk} {F : List Slot → R D} {F' : Wk → R D} (ha : JNW X E e ρ mw) (hF : ∀ p w, F [.bwk p w] = F' w) (h : FnD E.T X.prog X.w X.K X.mg X.base CA k y ps F) (hr : Room k X.A) (tk : Takes X (wOf CA E)) (hn : ps.length = 1) (hg : Gl X y := by rfl) (hdb : (y == ("__debug__" : Str)) = false := by decide) (hs : noStar e = true := by rfl) :
    JE X E (.Call (.Name y p) [e] [] pos) ρ (mw.bind F') := by
  obtain ⟨f, fd, hm, hk, hb, hf⟩ := h.ex
  refine Ev.wE_of (pe_callS hf hr hg hm hk hb (fun σ => passAt tk σ) (pa_cons (wE.pe e) pa_nil (star_cons hs)) hdb (star_cons hs) rfl) fun H0 G0 G H σ Q S q => ?_
  refine ha H0 G0 G H σ _ S (R.post_mono (R.post_bind q) (fun w _ q1 z G1 H1 s1 s2 s3 nw => ?_) fun c _ z => z)
  obtain ⟨pp, pl, hw, nf⟩ := nw
  refine ⟨hn.symm, s1.tabs S.tabs, G1, [.bwk z w], (S.grow s1 s2 s3).plainG, s3, .cons ⟨rfl, pp, pl, hw⟩ .nil, ?_⟩
  rw [hF]
  exact R.post_mono q1 (fun d _ z => Endv.back s1 s2 z) fun c _ z H' s => ⟨rfl, c, rfl, z H' (s1.trans s)⟩
end
end Br
/-! walks: statements; told(lambda: ..) of what changes a walk -/
namespace Br
open PySem PySem.Spec PyProof.Rows L2
theorem EvM.map {α β γ δ : Type} {K : PySem.W.Frag} {E : XW} {t : EvT β} {ρ : Rho} {m : R (γ × α)} {fl : α → Rho} {rep : Hp → Hp → β → γ → Prop} {fl' : δ → Rho} {g : α → δ} (h : EvM K E t ρ m fl rep) (hg : ∀ s, fl' (g s) = fl s) : EvM K E t ρ (m.bind fun z => .ok (z.1, g z.2)) fl' rep := fun H0 G0 G H σ Q S p =>
  h H0 G0 G H σ Q S (R.post_mono (R.post_bind p) (fun x _ z v G' H' s1 S' r => z v G' H' s1 (by rw [hg]; exact S') r) fun _ _ z => z)
section
variable {X : Cx} {E : XW} {ρ : Rho} {e a b c : Expr} {es : List Expr} {sts rest body : List Stmt} {tR : TS} {α β γ : Type} {fin : α → Rho} {fl : β → Rho} {pos pos' px py pz pt : Pos} {x y z : Str} {i : Nat}
/-- an expression that changes, ahead of what follows -/
theorem EvM.useS {δ ε : Type} {K : PySem.W.Frag} {t : EvT δ} {m : R (ε × β)} {rep : Hp → Hp → δ → ε → Prop} (h : EvM K E t ρ m fl rep) {H0 G0 G H : Hp} {σ : L2.St} {Q : δ → Hp → Prop} (S : Stt E.T K H0 G0 G H σ ρ) {f : ε × β → R (Out α)} {q : Out α → Prop} (p : (m.bind f).post q (PoX H0 E))
    (k : ∀ (d : ε) (s : β) (v : δ) (G' H' : Hp), Stt E.T K H0 G0 G' H' σ (fl s) → rep G' H' v d → (f (d, s)).post q (PoX H0 E) → Q v H') : t σ H Q := by
  refine h H0 G0 G H σ Q S (R.post_mono (R.post_bind p) (fun z _ pz v G' H' _ S' r => ?_) fun c _ z H' s => z σ H' (S.sub0.trans s))
  exact k z.1 z.2 v G' H' S' r pz
theorem jk_exprM {m : R (D × β)} {k : β → R (Out α)} (he : JM X E e ρ m fl) (hk : ∀ s, JK X E rest tR (fl s) fin (k s)) (hs : swapsWith e none pos.line X.env = pure false := by rfl) : JK X E (.Expr e pos :: rest) tR ρ fin (m.bind fun z => k z.2) := jk_cons fun H0 G0 G H σ De S p =>
  wS.of (ps_expr (wE.pe e) hs) (he.useS S p fun d s v G1 H1 S1 r p1 => hk s H0 G0 G1 H1 σ De S1 p1)
theorem jk_setM {m : R (D × β)} {k : D → β → R (Out α)} (he : JM X E e ρ m fl) (hk : ∀ d s, JK X E rest tR ((fl s).set i (.dat d)) fin (k d s)) (hN : X.N.Nodup) (hi : X.N[i]? = some x := by rfl) (hx : L2.Loc X.env.scope x := by first | exact Or.inl rfl | exact Or.inr rfl)
    (hs : swapsWith e (some (.Name x pos')) pos.line X.env = pure false := by rfl) (hf : X.fn x = true ∨ X.env.scope.names.lookup x = some .local := by first | exact .inl rfl | exact .inr rfl | assumption) :
    JK X E (.Assign [.Name x pos'] e pos :: rest) tR ρ fin (m.bind fun z => k z.1 z.2) := jk_cons fun H0 G0 G H σ De S p =>
  wS.of (ps_set hN hi hx (wE.pe e) hs hf) (he.useS S p fun d s v G1 H1 S1 r p1 => hk d s H0 G0 G1 H1 _ De (S1.set r) p1)
theorem jk_retM {m : R (D × β)} (he : JM X E e ρ m fl) : JK X E (.Return (some e) pos :: rest) tR ρ fin (m.bind fun z => .ok (.rt z.1)) := jk_cons fun H0 G0 G H σ De S p =>
  wS.of (ps_ret (wE.pe e)) (he.useS S p fun d s v G1 H1 S1 r p1 => p1 v G1 H1 S1.sub0 S1.ext S1.sub r)
theorem jk_ifM {A B : List Stmt} {mt : R (Bool × β)} {ka kb : β → R (Out α)} (hc : JTM X E c ρ mt fl) (ha : ∀ s, JK X E A (tSeq (wSs X rest) tR) (fl s) fin (ka s)) (hb : ∀ s, JK X E B (tSeq (wSs X rest) tR) (fl s) fin (kb s)) : JK X E (.If c A B pos :: rest) tR ρ fin (mt.bind fun z => if z.1 then ka z.2 else kb z.2) := jk_cons fun H0 G0 G H σ De S p => by
  refine wS.of (ps_if (wT.pt c) (wSs.pss A) (wSs.pss B)) (hc.useS S p fun t s t' G1 H1 S1 r p1 => ?_)
  cases r
  cases t with
  | true => rw [if_pos rfl] at p1 ⊢; exact ha s H0 G0 G1 H1 σ De S1 p1
  | false => rw [if_neg Bool.false_ne_true] at p1 ⊢; exact hb s H0 G0 G1 H1 σ De S1 p1
/-- while, its test changes -/
def whileMM {γ : Type} (c : γ → R (Bool × γ)) (f : γ → R (Out γ)) : Nat → γ → R (Out γ)
  | 0, _ => .stuck
  | n + 1, a => (c a).bind fun z => if z.1 then (f z.2).bind fun o => (match o with
    | .nx a' => whileMM c f n a'
    | .bk a' => .ok (.nx a')
    | .rt v => .ok (.rt v)) else .ok (.nx z.2)
theorem jk_whileM {fuel : Nat} {fl : γ → Rho} {a0 : γ} {mc : γ → R (Bool × γ)} {f : γ → R (Out γ)} {k : γ → R (Out α)} (h0 : Less (fl a0) ρ) (hc : ∀ a, JTM X E c (fl a) (mc a) fl)
    (hb : ∀ a, JK X E body tNext (fl a) fl (f a)) (hk : ∀ a, JK X E rest tR (fl a) fin (k a)) (hp : PassesOwn (model X.prog X.w) X.A X.env X.xe) :
    JK X E (.While c body [] pos :: rest) tR ρ fin ((whileMM mc f fuel a0).bind (Out.cont k)) := jk_cons fun H0 G0 G H σ De S p => by
  refine wS.of (ps_while hp (wT.pt c) (wSs.pss body)) ?_
  refine ⟨fun n σ' H' => ∃ (a : γ) (G' : Hp), Stt E.T X.K H0 G0 G' H' σ' (fl a) ∧ ((whileMM mc f n a).bind (Out.cont k)).post (PoS E.T X.K H0 G0 fin De) (PoX H0 E), ⟨fuel, a0, G, S.less h0, p⟩, fun n σ' H' hW => ?_⟩
  obtain ⟨a, G', S', pa⟩ := hW
  cases n with
  | zero => exact pa.elim
  | succ n =>
    refine (hc a).useS S' (f := fun z => (if z.1 = true then (f z.2).bind fun o => (match o with
      | .nx a' => whileMM mc f n a'
      | .bk a' => .ok (.nx a')
      | .rt v => .ok (.rt v)) else .ok (.nx z.2)).bind (Out.cont k)) (q := PoS E.T X.K H0 G0 fin De) (by rw [← R.bind_assoc]; exact pa) fun t s t' G1 H1 S1 r p1 => ?_
    cases r
    cases t with
    | false =>
      rw [if_neg Bool.false_ne_true] at p1 ⊢
      exact hk s H0 G0 G1 H1 σ' De S1 p1
    | true =>
      rw [if_pos rfl] at p1 ⊢
      refine ⟨fun σ2 H2 => ∃ (a : γ) (G' : Hp), Stt E.T X.K H0 G0 G' H2 σ2 (fl a) ∧ ((whileMM mc f n a).bind (Out.cont k)).post (PoS E.T X.K H0 G0 fin De) (PoX H0 E), fun σ2 H2 hN => ?_, ?_⟩
      · obtain ⟨a2, G2, z1, z2⟩ := hN
        exact ⟨n, by omega, a2, G2, z1, z2⟩
      · refine hb s H0 G0 G1 H1 σ' { nx := fun σ2 H2 => ∃ (a : γ) (G' : Hp), Stt E.T X.K H0 G0 G' H2 σ2 (fl a) ∧ ((whileMM mc f n a).bind (Out.cont k)).post (PoS E.T X.K H0 G0 fin De) (PoX H0 E), rt := De.rt, bk := tSeq (wSs X rest) tR De, ct := fun σ2 H2 => ∃ (a : γ) (G' : Hp), Stt E.T X.K H0 G0 G' H2 σ2 (fl a) ∧ ((whileMM mc f n a).bind (Out.cont k)).post (PoS E.T X.K H0 G0 fin De) (PoX H0 E) } S1 (R.post_mono (R.post_bind (R.post_bind p1)) (fun o _ po => ?_) fun _ _ z => z)
        cases o with
        | nx a' => exact fun G3 H3 σ3 S3 => ⟨a', G3, S3, R.bind_post po⟩
        | bk a' => exact fun G3 H3 σ3 S3 => hk a' H0 G0 G3 H3 σ3 De S3 po
        | rt v => exact po
/-- y, z = a, b, where a changes -/
theorem jk_unp2M {i1 i2 : Nat} {ml : R (List D × β)} {k : D × D → β → R (Out α)} {kt k2} {pt2} (he : JDM X E [a, b] ρ ml fl) (hk : ∀ (z : D × D) s, JK X E rest tR (((fl s).set i1 (.dat z.1)).set i2 (.dat z.2)) fin (k z s)) (hN : X.N.Nodup) (hc : X.calm = true) (hi : X.N[i1]? = some x := by rfl) (hj : X.N[i2]? = some y := by rfl)
    (hx : L2.Loc X.env.scope x := by first | exact Or.inl rfl | exact Or.inr rfl) (hy : L2.Loc X.env.scope y := by first | exact Or.inl rfl | exact Or.inr rfl) (hf : X.fn x = true ∨ X.env.scope.names.lookup x = some .local := by first | exact .inl rfl | exact .inr rfl | assumption) (hf2 : X.fn y = true ∨ X.env.scope.names.lookup y = some .local := by first | exact .inl rfl | exact .inr rfl | assumption)
    (hs : swapsWithSole [.Tuple [.Name x px, .Name y py] kt pt] (.Tuple [a, b] k2 pt2) pos.line X.env = pure false := by rfl) (hw : swappedStores [.Tuple [.Name x px, .Name y py] kt pt] (.Tuple [a, b] k2 pt2) X.env = pure none := by rfl) :
    JK X E (.Assign [.Tuple [.Name x px, .Name y py] kt pt] (.Tuple [a, b] k2 pt2) pos :: rest) tR ρ fin (ml.bind fun z => (open2l z.1).bind fun d => k d z.2) := jk_cons fun H0 G0 G H σ De S p => by
  refine wS.of (ps_asg (pe_tup (wA.pa _)) (pg_tup hc (pgs_cons (pg_name hN hi hx hf) (pgs_cons (pg_name hN hj hy hf2) pgs_nil))) hs hw) (he.useS S p fun ds s vs G1 H1 S1 r p1 => ?_)
  obtain ⟨z, ez, p2⟩ := R.post_ok (R.post_bind p1) (open2l_nx ds)
  obtain ⟨v, w, rfl, h1, h2⟩ := dq2 r.1 ez
  refine ⟨by show 2 ≤ sizeLine; decide, fun t ht => ?_⟩
  have S2 := S1.grow (grow_new (o := .tup [v, w]) ht) (Ext.refl _ _) (S1.sub.trans (same_new ht))
  exact ⟨t, _, rfl, SqT.of upd_same, rfl, _, _, rfl, _, _, rfl, rfl, hk z s H0 G0 G1 _ _ De ((S2.set h1).set h2) p2⟩

/-! ### new walks -/
theorem NewW.slot {K : PySem.W.Frag} {H G H' : Hp} {p : Addr} {w : Wk} (h : NewW K H G H' p w) : SlotOk K H G H' (some (.ref p)) (.wlk p w) := ⟨rfl, h⟩
theorem Stt.setW {K : PySem.W.Frag} {H0 G0 G H G' H' : Hp} {σ : L2.St} {p : Addr} {w : Wk} (S : Stt E.T K H0 G0 G H σ ρ) (g : Grow E.T H H') (S' : Stt E.T K H0 G0 G' H' σ ρ) (nw : NewW K H G' H' p w) : Stt E.T K H0 G0 G' H' (σ.set i (some (.ref p))) (ρ.set i (.wlk p w)) := by
  refine S'.put (nw.slot.base rfl fun a z => S.sub0.free z) fun j s u a hj e1 e2 f1 f2 => ?_
  have O := S.ok e1 e2
  obtain ⟨⟨o, ho, _⟩, _⟩ := O.foot (O.foot_back (fun b o _ q n => g.keep b o q n) f1)
  have z := (nw.slot.foot f2).2.2
  rw [ho] at z; cases z
theorem jk_setW {mw : R Wk} {k : Wk → R (Out α)} (he : JNW X E e ρ mw) (hk : ∀ p w, JK X E rest tR (ρ.set i (.wlk p w)) fin (k w)) (hN : X.N.Nodup) (hi : X.N[i]? = some x := by rfl) (hx : L2.Loc X.env.scope x := by first | exact Or.inl rfl | exact Or.inr rfl)
    (hs : swapsWith e (some (.Name x pos')) pos.line X.env = pure false := by rfl) (hf : X.fn x = true ∨ X.env.scope.names.lookup x = some .local := by first | exact .inl rfl | exact .inr rfl | assumption) :
    JK X E (.Assign [.Name x pos'] e pos :: rest) tR ρ fin (mw.bind k) := jk_cons fun H0 G0 G H σ De S p => by
  refine wS.of (ps_set hN hi hx (wE.pe e) hs hf) (he H0 G0 G H σ _ S (R.post_mono (R.post_bind p) (fun w _ q a G1 H1 s1 s2 s3 nw => ?_) fun c _ z H' s => z σ H' (S.sub0.trans s)))
  exact hk a w H0 G0 G1 H1 _ De (S.setW s1 (S.grow s1 s2 s3) nw) q
/-! several new things at once, walks among them -/
def EvY (K : PySem.W.Frag) (E : XW) (t : EvT (List V)) (ρ : Rho) (n : Nat) {γ : Type} (m : R γ) (f : γ → List Addr → List Slot) : Prop :=
  ∀ (H0 G0 G H : Hp) (σ : L2.St) (Q : List V → Hp → Prop), Stt E.T K H0 G0 G H σ ρ →
    m.post (fun a => ∀ (vs : List V) (as : List Addr) (G' H' : Hp), Grow E.T H H' → Ext G H G' → Same G' H' → News K H G' H' vs (f a as) → vs.length = n → Q vs H') (fun c => ∀ H', Grow E.T H H' → E c σ H') → t σ H Q
abbrev JY (X : Cx) (E : XW) (es : List Expr) (ρ : Rho) {γ : Type} (m : R γ) (f : γ → List Addr → List Slot) : Prop := EvY X.K E (wA X es) ρ es.length m f
theorem jy_nil : JY X E [] ρ (.ok ()) (fun _ _ => []) := fun H0 G0 G H σ Q S p => wA.of pa_nil (p [] [] G H (Grow.refl _ _) (Ext.refl _ _) S.sub .nil rfl)
theorem jy_dat {m : R D} {ms : R γ} {f : γ → List Addr → List Slot} (ha : JE X E e ρ m) (hr : JY X E es ρ ms f) (hs : noStar e = true := by rfl) : JY X E (e :: es) ρ (m.bind fun x => ms.bind fun y => .ok (x, y)) (fun z as => .dat z.1 :: f z.2 as) := fun H0 G0 G H σ Q S p =>
  wA.of (pa_cons (wE.pe e) (wA.pa es) (star_cons hs)) (by
    refine ha.use S p fun d v G1 H1 s1 s2 s3 S1 r p1 => ?_
    refine hr H0 G0 G1 H1 σ _ S1 (R.post_mono (R.post_bind p1) (fun z _ p2 vs as G2 H2 t1 t2 t3 nw hl => ?_) fun c _ z => z)
    exact p2 (v :: vs) as G2 H2 (s1.trans t1) (s2.trans s1 t2) t3 (.cons ⟨_, rfl, dp_mono t2.same r⟩ rfl (fun _ _ _ _ _ _ f _ => f) (nw.mono (fun p z => s1.free z) (Ext.refl _ _) (Grow.refl E.T _))) (congrArg (· + 1) hl))
theorem jy_lst {ml : R (List D)} {ms : R γ} {f : γ → List Addr → List Slot} (ha : JN X E e ρ (ml.bind lstOb)) (hr : JY X E es ρ ms f) (hs : noStar e = true := by rfl) : JY X E (e :: es) ρ (ml.bind fun x => ms.bind fun y => .ok (x, y)) (fun z as => .own (.lst z.1) :: f z.2 as) := fun H0 G0 G H σ Q S p =>
  wA.of (pa_cons (wE.pe e) (wA.pa es) (star_cons hs)) (by
    refine ha H0 G0 G H σ _ S (R.bind_post (R.post_mono (R.post_bind p) (fun ds _ p1 q G1 H1 s1 s2 s3 np gq hw => ?_) fun c _ z => z))
    have S1 := S.grow s1 s2 s3
    refine hr H0 G0 G1 H1 σ _ S1 (R.post_mono (R.post_bind p1) (fun z _ p2 vs as G2 H2 t1 t2 t3 nw hl => ?_) fun c _ z H' s => z H' (s1.trans s))
    obtain ⟨u, hu⟩ := hw.at
    exact p2 (.ref q :: vs) as G2 H2 (s1.trans t1) (s2.trans s1 t2) t3 (.cons ⟨q, rfl, hw.mono t2.same t1, t2.free hu gq, np⟩ rfl (fun j s' v' a e1 e2 f1 f2 => by cases (show some (V.ref q) = some (V.ref a) from f1); exact nw.old hu j s' v' e1 e2 f2) (nw.mono (fun p z => s1.free z) (Ext.refl _ _) (Grow.refl E.T _))) (congrArg (· + 1) hl))
theorem jy_wlk {mw : R Wk} {ms : R γ} {f : γ → List Addr → List Slot} (ha : JNW X E e ρ mw) (hr : JY X E es ρ ms f) (hs : noStar e = true := by rfl) : JY X E (e :: es) ρ (mw.bind fun x => ms.bind fun y => .ok (x, y)) (fun z as => .wlk (as.headD 0) z.1 :: f z.2 as.tail) := fun H0 G0 G H σ Q S p =>
  wA.of (pa_cons (wE.pe e) (wA.pa es) (star_cons hs)) (by
    refine ha H0 G0 G H σ _ S (R.post_mono (R.post_bind p) (fun w _ p1 q G1 H1 s1 s2 s3 nq => ?_) fun c _ z => z)
    have S1 := S.grow s1 s2 s3
    refine hr H0 G0 G1 H1 σ _ S1 (R.post_mono (R.post_bind p1) (fun z _ p2 vs as G2 H2 t1 t2 t3 nw hl => ?_) fun c _ z H' s => z H' (s1.trans s))
    obtain ⟨pp, pl, hw, nf⟩ := nq
    have hw2 := hw.mono t2.same t1
    refine p2 (.ref q :: vs) (q :: as) G2 H2 (s1.trans t1) (s2.trans s1 t2) t3 (.cons ⟨rfl, pp, pl, hw2, fun a ha => ⟨?_, (nf a ha).2⟩⟩ rfl (fun j s' v' a e1 e2 f1 f2 => ?_) (nw.mono (fun p z => s1.free z) (Ext.refl _ _) (Grow.refl E.T _))) (congrArg (· + 1) hl)
    · obtain ⟨u, hu, _⟩ := hw.plain ha
      exact t2.free hu (nf a ha).1
    · obtain ⟨u, hu, _⟩ := hw.plain (hw2.feet.mp f1)
      exact nw.old hu j s' v' e1 e2 f2)
theorem EvY.useS {K : PySem.W.Frag} {t : EvT (List V)} {n : Nat} {m : R γ} {f : γ → List Addr → List Slot} (h : EvY K E t ρ n m f) {H0 G0 G H : Hp} {σ : L2.St} {Q : List V → Hp → Prop} (S : Stt E.T K H0 G0 G H σ ρ) {k : γ → R (Out α)} {q : Out α → Prop} (p : (m.bind k).post q (PoX H0 E))
    (g : ∀ (a : γ) (vs : List V) (as : List Addr) (G' H' : Hp), Grow E.T H H' → Ext G H G' → Same G' H' → Stt E.T K H0 G0 G' H' σ ρ → News K H G' H' vs (f a as) → vs.length = n → (k a).post q (PoX H0 E) → Q vs H') : t σ H Q := by
  refine h H0 G0 G H σ Q S (R.post_mono (R.post_bind p) (fun a _ pa v as G' H' s1 s2 s3 r hl => ?_) fun c _ z H' s => z σ H' (S.sub0.trans s))
  exact g a v as G' H' s1 s2 s3 (S.grow s1 s2 s3) r hl pa
theorem len4 {vs : List V} (h : vs.length = 4) : ∃ u v w x, vs = [u, v, w, x] := by
  match vs, h with
  | [u, v, w, x], _ => exact ⟨u, v, w, x, rfl⟩
theorem jk_parY2 {i1 i2 : Nat} {mg : R γ} {f : γ → List Addr → List Slot} {k : γ → R (Out α)} {kt k2} {pt2} (he : JY X E [a, b] ρ mg f) (hk : ∀ (z : γ) (as : List Addr), JK X E rest tR (setAll ρ [i1, i2] (f z as)) fin (k z)) (hN : X.N.Nodup) (hc : X.calm = true) (hi : X.N[i1]? = some x := by rfl) (hj : X.N[i2]? = some y := by rfl) (hij : i1 ≠ i2 := by decide)
    (hx : X.env.scope.names.lookup x = some .local := by rfl) (hy : X.env.scope.names.lookup y = some .local := by rfl)
    (hw : swappedStores [.Tuple [.Name x px, .Name y py] kt pt] (.Tuple [a, b] k2 pt2) X.env = pure (some [x, y]) := by rfl)
    (hs : swapsWithSole [.Tuple [.Name x px, .Name y py] kt pt] (.Tuple [a, b] k2 pt2) pos.line X.env = pure false := by rfl) :
    JK X E (.Assign [.Tuple [.Name x px, .Name y py] kt pt] (.Tuple [a, b] k2 pt2) pos :: rest) tR ρ fin (mg.bind k) := jk_cons fun H0 G0 G H σ De S p => by
  refine wS.of (ps_par hc hN hi hj hij hx hy (wA.pa _) hw hs) (he.useS S p fun z vs as G1 H1 s1 s2 s3 S1 nw hl p1 => ?_)
  obtain ⟨v, w, rfl⟩ := len2 hl
  exact ⟨v, w, rfl, hk z as H0 G0 G1 H1 _ De (S.news0 (is := [i1, i2]) s1 S1 nw) p1⟩
theorem jk_parY3 {i1 i2 i3 : Nat} {mg : R γ} {f : γ → List Addr → List Slot} {k : γ → R (Out α)} {kt k2} {pt2} (he : JY X E [a, b, c] ρ mg f) (hk : ∀ (z : γ) (as : List Addr), JK X E rest tR (setAll ρ [i1, i2, i3] (f z as)) fin (k z)) (hN : X.N.Nodup) (hc : X.calm = true) (hi : X.N[i1]? = some x := by rfl) (hj : X.N[i2]? = some y := by rfl) (hl : X.N[i3]? = some z := by rfl) (hij : i1 ≠ i2 := by decide) (hil : i1 ≠ i3 := by decide) (hjl : i2 ≠ i3 := by decide)
    (hx : X.env.scope.names.lookup x = some .local := by rfl) (hy : X.env.scope.names.lookup y = some .local := by rfl) (hz : X.env.scope.names.lookup z = some .local := by rfl)
    (hw : swappedStores [.Tuple [.Name x px, .Name y py, .Name z pz] kt pt] (.Tuple [a, b, c] k2 pt2) X.env = pure (some [x, y, z]) := by rfl)
    (hs : swapsWithSole [.Tuple [.Name x px, .Name y py, .Name z pz] kt pt] (.Tuple [a, b, c] k2 pt2) pos.line X.env = pure false := by rfl) :
    JK X E (.Assign [.Tuple [.Name x px, .Name y py, .Name z pz] kt pt] (.Tuple [a, b, c] k2 pt2) pos :: rest) tR ρ fin (mg.bind k) := jk_cons fun H0 G0 G H σ De S p => by
  refine wS.of (ps_par3 hc hN hi hj hl hij hil hjl hx hy hz (wA.pa _) hw hs) (he.useS S p fun z vs as G1 H1 s1 s2 s3 S1 nw hl p1 => ?_)
  obtain ⟨u, v, w, rfl⟩ := len3 hl
  exact ⟨u, v, w, rfl, hk z as H0 G0 G1 H1 _ De (S.news0 (is := [i1, i2, i3]) s1 S1 nw) p1⟩
theorem jk_unpY2 {i1 i2 : Nat} {mg : R γ} {f : γ → List Addr → List Slot} {k : γ → R (Out α)} {kt k2} {pt2} (he : JY X E [a, b] ρ mg f) (hk : ∀ (z : γ) (as : List Addr), JK X E rest tR (setAll ρ [i1, i2] (f z as)) fin (k z)) (hN : X.N.Nodup) (hc : X.calm = true) (hi : X.N[i1]? = some x := by rfl) (hj : X.N[i2]? = some y := by rfl)
    (hx : L2.Loc X.env.scope x := by first | exact Or.inl rfl | exact Or.inr rfl) (hy : L2.Loc X.env.scope y := by first | exact Or.inl rfl | exact Or.inr rfl) (hf : X.fn x = true ∨ X.env.scope.names.lookup x = some .local := by first | exact .inl rfl | exact .inr rfl | assumption) (hf2 : X.fn y = true ∨ X.env.scope.names.lookup y = some .local := by first | exact .inl rfl | exact .inr rfl | assumption)
    (hs : swapsWithSole [.Tuple [.Name x px, .Name y py] kt pt] (.Tuple [a, b] k2 pt2) pos.line X.env = pure false := by rfl) (hw : swappedStores [.Tuple [.Name x px, .Name y py] kt pt] (.Tuple [a, b] k2 pt2) X.env = pure none := by rfl) :
    JK X E (.Assign [.Tuple [.Name x px, .Name y py] kt pt] (.Tuple [a, b] k2 pt2) pos :: rest) tR ρ fin (mg.bind k) := jk_cons fun H0 G0 G H σ De S p => by
  refine wS.of (ps_asg (pe_tup (wA.pa _)) (pg_tup hc (pgs_cons (pg_name hN hi hx hf) (pgs_cons (pg_name hN hj hy hf2) pgs_nil))) hs hw) (he.useS S p fun z vs as G1 H1 s1 s2 s3 S1 nw hl p1 => ?_)
  obtain ⟨v, w, rfl⟩ := len2 hl
  refine ⟨by show 2 ≤ sizeLine; decide, fun t ht => ?_⟩
  have S2 := S1.grow (grow_new (o := .tup [v, w]) ht) (Ext.refl _ _) (s3.trans (same_new ht))
  exact ⟨t, _, rfl, SqT.of upd_same, rfl, _, _, rfl, _, _, rfl, rfl, hk z as H0 G0 G1 _ _ De (S.news0 (is := [i1, i2]) (s1.trans (grow_new ht)) S2 (nw.pad ht)) p1⟩
theorem jk_unpY3 {i1 i2 i3 : Nat} {mg : R γ} {f : γ → List Addr → List Slot} {k : γ → R (Out α)} {kt k2} {pt2} (he : JY X E [a, b, c] ρ mg f) (hk : ∀ (z : γ) (as : List Addr), JK X E rest tR (setAll ρ [i1, i2, i3] (f z as)) fin (k z)) (hN : X.N.Nodup) (hc : X.calm = true) (hi : X.N[i1]? = some x := by rfl) (hj : X.N[i2]? = some y := by rfl) (hl : X.N[i3]? = some z := by rfl)
    (hx : L2.Loc X.env.scope x := by first | exact Or.inl rfl | exact Or.inr rfl) (hy : L2.Loc X.env.scope y := by first | exact Or.inl rfl | exact Or.inr rfl) (hz : L2.Loc X.env.scope z := by first | exact Or.inl rfl | exact Or.inr rfl) (hf : X.fn x = true ∨ X.env.scope.names.lookup x = some .local := by first | exact .inl rfl | exact .inr rfl | assumption) (hf2 : X.fn y = true ∨ X.env.scope.names.lookup y = some .local := by first | exact .inl rfl | exact .inr rfl | assumption) (hf3 : X.fn z = true ∨ X.env.scope.names.lookup z = some .local := by first | exact .inl rfl | exact .inr rfl | assumption)
    (hs : swapsWithSole [.Tuple [.Name x px, .Name y py, .Name z pz] kt pt] (.Tuple [a, b, c] k2 pt2) pos.line X.env = pure false := by rfl) (hw : swappedStores [.Tuple [.Name x px, .Name y py, .Name z pz] kt pt] (.Tuple [a, b, c] k2 pt2) X.env = pure none := by rfl) :
    JK X E (.Assign [.Tuple [.Name x px, .Name y py, .Name z pz] kt pt] (.Tuple [a, b, c] k2 pt2) pos :: rest) tR ρ fin (mg.bind k) := jk_cons fun H0 G0 G H σ De S p => by
  refine wS.of (ps_asg (pe_tup (wA.pa _)) (pg_tup hc (pgs_cons (pg_name hN hi hx hf) (pgs_cons (pg_name hN hj hy hf2) (pgs_cons (pg_name hN hl hz hf3) pgs_nil)))) hs hw) (he.useS S p fun z vs as G1 H1 s1 s2 s3 S1 nw hl p1 => ?_)
  obtain ⟨u, v, w, rfl⟩ := len3 hl
  refine ⟨by show 3 ≤ sizeLine; decide, fun t ht => ?_⟩
  have S2 := S1.grow (grow_new (o := .tup [u, v, w]) ht) (Ext.refl _ _) (s3.trans (same_new ht))
  exact ⟨t, _, rfl, SqT.of upd_same, rfl, _, _, rfl, _, _, rfl, _, _, rfl, rfl, hk z as H0 G0 G1 _ _ De (S.news0 (is := [i1, i2, i3]) (s1.trans (grow_new ht)) S2 (nw.pad ht)) p1⟩
theorem jk_unpY4 {i1 i2 i3 i4 : Nat} {z4 : Str} {d : Expr} {p4 : Pos} {mg : R γ} {f : γ → List Addr → List Slot} {k : γ → R (Out α)} {kt k2} {pt2} (he : JY X E [a, b, c, d] ρ mg f) (hk : ∀ (z : γ) (as : List Addr), JK X E rest tR (setAll ρ [i1, i2, i3, i4] (f z as)) fin (k z)) (hN : X.N.Nodup) (hc : X.calm = true) (hi : X.N[i1]? = some x := by rfl) (hj : X.N[i2]? = some y := by rfl) (hl : X.N[i3]? = some z := by rfl) (hl4 : X.N[i4]? = some z4 := by rfl)
    (hx : L2.Loc X.env.scope x := by first | exact Or.inl rfl | exact Or.inr rfl) (hy : L2.Loc X.env.scope y := by first | exact Or.inl rfl | exact Or.inr rfl) (hz : L2.Loc X.env.scope z := by first | exact Or.inl rfl | exact Or.inr rfl) (hz4 : L2.Loc X.env.scope z4 := by first | exact Or.inl rfl | exact Or.inr rfl) (hf : X.fn x = true ∨ X.env.scope.names.lookup x = some .local := by first | exact .inl rfl | exact .inr rfl | assumption) (hf2 : X.fn y = true ∨ X.env.scope.names.lookup y = some .local := by first | exact .inl rfl | exact .inr rfl | assumption) (hf3 : X.fn z = true ∨ X.env.scope.names.lookup z = some .local := by first | exact .inl rfl | exact .inr rfl | assumption) (hf4 : X.fn z4 = true ∨ X.env.scope.names.lookup z4 = some .local := by first | exact .inl rfl | exact .inr rfl | assumption)
    (hs : swapsWithSole [.Tuple [.Name x px, .Name y py, .Name z pz, .Name z4 p4] kt pt] (.Tuple [a, b, c, d] k2 pt2) pos.line X.env = pure false := by rfl) (hw : swappedStores [.Tuple [.Name x px, .Name y py, .Name z pz, .Name z4 p4] kt pt] (.Tuple [a, b, c, d] k2 pt2) X.env = pure none := by rfl) :
    JK X E (.Assign [.Tuple [.Name x px, .Name y py, .Name z pz, .Name z4 p4] kt pt] (.Tuple [a, b, c, d] k2 pt2) pos :: rest) tR ρ fin (mg.bind k) := jk_cons fun H0 G0 G H σ De S p => by
  refine wS.of (ps_asg (pe_tup (wA.pa _)) (pg_tup hc (pgs_cons (pg_name hN hi hx hf) (pgs_cons (pg_name hN hj hy hf2) (pgs_cons (pg_name hN hl hz hf3) (pgs_cons (pg_name hN hl4 hz4 hf4) pgs_nil))))) hs hw) (he.useS S p fun z vs as G1 H1 s1 s2 s3 S1 nw hl p1 => ?_)
  obtain ⟨u, v, w, q, rfl⟩ := len4 hl
  refine ⟨by show 4 ≤ sizeLine; decide, fun t ht => ?_⟩
  have S2 := S1.grow (grow_new (o := .tup [u, v, w, q]) ht) (Ext.refl _ _) (s3.trans (same_new ht))
  exact ⟨t, _, rfl, SqT.of upd_same, rfl, _, _, rfl, _, _, rfl, _, _, rfl, _, _, rfl, rfl, hk z as H0 G0 G1 _ _ De (S.news0 (is := [i1, i2, i3, i4]) (s1.trans (grow_new ht)) S2 (nw.pad ht)) p1⟩
end
/-! ### told(lambda: ..) of what changes a walk -/
def toldM {α : Type} (w : XC → Option Str) (s0 : α) : R (D × α) → R (D × α)
  | .ok z => .ok z
  | .exc c => match w c with
    | some t => .ok (.str t, s0)
    | none => .stuck
  | .stuck => .stuck
section
variable {X : Cx} {E : XW} {ρ : Rho} {α : Type} {fl : α → Rho} {CA : XC → Addr} {CR c P : Addr} {k kw : Nat} {x : Str} {w : XC → Option Str} {params : Arguments} {body : Expr} {scope : Scope} {m : R (D × α)} {p lpos pos : Pos}
theorem jm_told {s0 : α} (TF : ToldF E.T X.prog X.w X.K X.mg X.base CA CR kw x w) (hkw : kw ≤ k + 1) (hr : Room (k + 2) X.A) (L : LamF E.T X c P) (LS : LamX.LamS X.env.scope scope)
    (hb : ∀ (A : Around) (outer : List PySem.Env) (s : Shared) (H : Hp) (E1 : XK) (f c' : Addr), Ct (LamX.lamCx X A outer s H E1 scope f c') CA ⟨E.T, fun c _ H' => E1 (.ref (CA c)) none H'⟩ k → JM (LamX.lamCx X A outer s H E1 scope f c') ⟨E.T, fun c _ H' => E1 (.ref (CA c)) none H'⟩ body ρ m fl) (h0 : fl s0 = ρ)
    (hbind : ∀ (q : Str) (cl : List (Str × Addr)) (pm cv ctv : Value), bindArgs (PySem.W.kla_fn "<lambda>" q params body scope cl pm cv ctv) ⟨[], []⟩ = pure [] := by intros; rfl)
    (hdef : defaultsOf params X.env = ([], []) := by rfl) (hg : Gl X x := by rfl) (hdb : (x == ("__debug__" : Str)) = false := by decide) :
    JM X E (.Call (.Name x p) [.Lambda params body scope lpos] [] pos) ρ (toldM w s0 m) fl := by
  refine EvM.wE_of (pe_told (tl := fun E1 σ H Q => ∃ H0 G0 G, Stt E.T X.K H0 G0 G H σ ρ ∧ m.post (fun z => ∀ v G' H', Same G G' → Stt E.T X.K H0 G0 G' H' σ (fl z.2) → Dq X.K G' v z.1 → Q v H') (fun c => ∀ H', Grow E.T H H' → E1 (.ref (CA c)) none H')) TF hkw hr L LS (fun A outer s H E1 f c' hr2 => ⟨fun pins s2 σ H2 Q I h => ?_⟩) hbind hdef hg hdb) fun H0 G0 G H σ Q S p => ?_
  · obtain ⟨H0, G0, G, S, po⟩ := h
    have tk0 : Takes (LamX.lamCx X A outer s H E1 scope f c') (fun cls d _ H => E1 cls d H) := takes_of rfl rfl rfl rfl
    have J := hb A outer s H E1 f c' ⟨tk0.imp fun cls d σ H' hw => by obtain ⟨rfl, cc, rfl, q⟩ := hw; exact q, hr2, rfl, passes_of (X := LamX.lamCx X A outer s H E1 scope f c') rfl⟩
    exact (wE.pe body).run pins s2 σ H2 Q I (J H0 G0 G H2 σ Q S po)
  · refine ⟨S.tabs, fun H1 g1 t1 => ⟨H0, G0, G, S.grow g1 (Ext.refl _ _) (g1.sub S.plainG S.sub), ?_⟩⟩
    cases m with
    | stuck => exact p.elim
    | ok d => exact p
    | exc cc =>
      cases ew : w cc with
      | none => simp only [toldM, ew] at p; exact p.elim
      | some t =>
        simp only [toldM, ew] at p
        refine fun H2 g2 => ⟨cc, t, rfl, rfl, ew, g2.tabs t1, fun H3 g3 => p (.str t) G H3 (Same.refl _) ?_ (.str t)⟩
        have g := (g1.trans g2).trans g3
        rw [h0]
        exact S.grow g (Ext.refl _ _) (g.sub S.plainG S.sub)
end
end Br
/-! walks: defs and methods keep their promises -/
namespace Br
open PySem PySem.Spec PyProof.Rows L2
theorem execs_app (l r : List Stmt) (env : PySem.Env) : execs (l ++ r) env = (execs l env >>= fun f => match f with | .next => execs r env | f => pure f) := by
  induction l with
  | nil =>
    show execs r env = _
    rw [PySem.execs_nil, pure_bind]
  | cons s l ih =>
    rw [List.cons_append, PySem.execs_cons, PySem.execs_cons, bind_assoc]
    congr 1
    funext f
    cases f with
    | next => exact ih
    | _ => simp only [pure_bind]
theorem pss_app {X : Cx} {l r : List Stmt} {t u : TS} (h1 : PSs X l t) (h2 : PSs X r u) : PSs X (l ++ r) (tSeq t u) := ⟨fun pins s σ H D I h => by
  rw [execs_app]
  refine wpAny_bind (thn (h1.run pins s σ H { D with nx := u D } I h) fun f s1 q => ?_)
  cases f with
  | next =>
    obtain ⟨σ', H', I', q⟩ := q
    exact h2.run pins s1 σ' H' D I' q
  | ret v => exact wpAny_pure q
  | brk => exact wpAny_pure q
  | cont => exact wpAny_pure q⟩
/-- runs to an end, with a value, and the walk at p behind it -/
def EvR (K : PySem.W.Frag) (E : XW) (t : TS) (ρ : Rho) (p : Addr) (m : R (D × Wk)) : Prop :=
  ∀ (H0 G0 G H : Hp) (σ : L2.St) (Q : VK), Stt E.T K H0 G0 G H σ ρ →
    m.post (fun x => ∀ (v : V) (G' H' : Hp) (pp pl : Addr), Grow E.T H0 H' → Ext G0 H0 G' → Same G' H' → WkAt K G' H' p pp pl x.2 → (∀ a, a = p ∨ a = pp ∨ a = pl → G' a = none ∧ H0 a = none) → Dq K G' v x.1 → Q v H') (fun _ => False) → t { nx := fun _ H' => Q .non H', rt := Q } σ H
abbrev JR (X : Cx) (E : XW) (sts : List Stmt) (ρ : Rho) (p : Addr) (m : R (D × Wk)) : Prop := EvR X.K E (wSs X sts) ρ p m
def nxR {α β : Type} (k : α → R β) : Out α → R β
  | .nx a => noexc (k a)
  | _ => .stuck
section
variable {X : Cx} {E : XW} {ρ : Rho} {p : Addr} {w : Wk} {i : Nat} {α β : Type} {fin : α → Rho} {pre post : List Stmt} {e : Expr} {pos : Pos}
theorem jr_pre {m1 : R (Out α)} {m2 : α → R (D × Wk)} (h1 : JK X E pre tNext ρ fin m1) (h2 : ∀ a, JR X E post (fin a) p (m2 a)) : JR X E (pre ++ post) ρ p ((noexc m1).bind (nxR m2)) := fun H0 G0 G H σ Q S q => by
  refine wSs.of (pss_app (wSs.pss pre) (wSs.pss post)) ?_
  refine h1 H0 G0 G H σ { nx := fun σ' H' => wSs X post { nx := fun _ H' => Q .non H', rt := Q } σ' H', rt := Q } S (noexc_post (R.post_mono (R.post_bind q) (fun o _ po => ?_) fun _ _ z => z))
  cases o with
  | nx a => exact fun G' H' σ' S' => h2 a H0 G0 G' H' σ' Q S' (noexc_post po)
  | bk a => exact po.elim
  | rt d => exact po.elim
theorem jr_split {sts : List Stmt} {m : R (D × Wk)} (n : Nat) (h : JR X E (sts.take n ++ sts.drop n) ρ p m) : JR X E sts ρ p m := by
  rw [List.take_append_drop] at h
  exact h
theorem jr_end (hi : ρ[i]? = some (.wlk p w)) : JR X E [] ρ p (.ok (.none, w)) := fun H0 G0 G H σ Q S q => by
  obtain ⟨v, e1, rfl, pp, pl, hw, nf⟩ := S.slots i _ hi
  exact wSs.of pss_nil (q .non G H pp pl S.sub0 S.ext S.sub hw nf .non)
theorem jr_ret {fl : β → Rho} {m : R (D × β)} {wk : β → Wk} (he : JM X E e ρ m fl) (hi : ∀ s, (fl s)[i]? = some (.wlk p (wk s))) : JR X E [.Return (some e) pos] ρ p (m.bind fun z => .ok (z.1, wk z.2)) := fun H0 G0 G H σ Q S q => by
  refine wSs.of (pss_one (ps_ret (wE.pe e))) (he H0 G0 G H σ _ S (R.post_mono (R.post_bind q) (fun z _ pz v G' H' s1 S' r => ?_) fun _ _ z => z.elim))
  obtain ⟨u, e1, _, pp, pl, hw, nf⟩ := S'.slots i _ (hi z.2)
  exact pz v G' H' pp pl S'.sub0 S'.ext S'.sub hw nf r
theorem jr_retE {m : R D} (he : JE X E e ρ m) (hi : ρ[i]? = some (.wlk p w)) : JR X E [.Return (some e) pos] ρ p (m.bind fun d => .ok (d, w)) := fun H0 G0 G H σ Q S q => by
  refine wSs.of (pss_one (ps_ret (wE.pe e))) (he H0 G0 G H σ _ S (R.post_mono (R.post_bind q) (fun d _ pz v G' H' s1 s2 s3 r => ?_) fun _ _ z => z.elim))
  have S' := S.grow s1 s2 s3
  obtain ⟨u, e1, _, pp, pl, hw, nf⟩ := S'.slots i _ hi
  exact pz v G' H' pp pl S'.sub0 S'.ext S'.sub hw nf r
end
/-- a slot that holds nothing of what was handed in, but data -/
def udo : Slot → Bool
  | .un => true
  | .dat _ => true
  | .own _ => true
  | .ptr _ => true
  | _ => false
section
variable {T : Tb} {K : PySem.W.Frag} {H0 G0 G H : Hp} {σ : L2.St} {r : Rho} {p pp pl : Addr} {w : Wk}
theorem udo_at {i : Nat} {s : Slot} (h : r.all udo = true) (e : r[i]? = some s) : udo s = true := List.all_eq_true.mp h s (List.mem_of_getElem? e)
/-- what was read alone may be changed from here on -/
theorem Stt.switch (S : Stt T K H0 G0 G H σ (.bwk p w :: r)) (hr : r.all udo = true) (hw0 : ∃ Ga wa, WkAt K Ga H0 p pp pl wa) (gf : ∀ a, a = p ∨ a = pp ∨ a = pl → G0 a = none) : Stt T K (cut3 H0 p pp pl) G0 G H σ (.wlk p w :: r) := by
  obtain ⟨Ga, wa, hwa⟩ := hw0
  obtain ⟨v0, ev0, rfl, pp', pl', hw⟩ := S.slots 0 _ rfl
  have e2 : pp' = pp ∧ pl' = pl := by
    obtain ⟨dx, vo, vn, xs, ys, h1, _⟩ := hw
    obtain ⟨dx', vo', vn', xs', ys', h1', _⟩ := hwa
    rw [h1] at h1'
    exact wfs_inj h1'
  obtain ⟨rfl, rfl⟩ := e2
  have pln : ∀ a, a = p ∨ a = pp' ∨ a = pl' → ∃ u, H0 a = some u ∧ Br.plain u = true := fun a ha => hw.plain ha
  have gG : ∀ a, a = p ∨ a = pp' ∨ a = pl' → G a = none := fun a ha => by
    obtain ⟨u, hu, _⟩ := pln a ha
    exact S.ext.free hu (gf a ha)
  have hwH : WkAt K G H p pp' pl' w := hw.mono (Same.refl _) S.sub0
  have nofoot : ∀ (j : Nat) (s : Slot) (v : Option V) (a : Addr), r[j]? = some s → σ[j + 1]? = some v → Foot H v a s → H0 a = none := fun j s v a e1 e2 f => (S.ok (i := j + 1) (by simpa using e1) e2).foot f |>.2.2
  refine ⟨S.gt, tabs_cut S.tb pln, ⟨fun b o h n => S.sub0.keep b o (cut3_some h).2 n, fun b ps h => S.sub0.tbl b ps (cut3_some h).2, fun _ => S.tabs⟩, ⟨S.ext.same, fun b o h => (S.ext.new b o h).elim .inl fun z => .inr (cut3_of_none z), S.ext.tab⟩, S.sub, by simpa using S.len, fun j s e => ?_, fun j k s s' v v' a e1 e2 e3 e4 f1 f2 => ?_⟩
  · cases j with
    | zero =>
      simp at e
      subst e
      exact ⟨_, ev0, rfl, pp', pl', hwH, fun a ha => ⟨gG a ha, cut3_at ha⟩⟩
    | succ j =>
      have e' : r[j]? = some s := by simpa using e
      obtain ⟨v, h1, h2⟩ := S.slots (j + 1) s (by simpa using e')
      refine ⟨v, h1, ?_⟩
      have u := udo_at hr e'
      cases s with
      | un => trivial
      | dat d => exact h2
      | ptr a => exact h2
      | own o => obtain ⟨q, e, hq, g, z⟩ := h2; exact ⟨q, e, hq, g, cut3_of_none z⟩
      | _ => cases u
  · cases j with
    | zero =>
      cases k with
      | zero => rfl
      | succ k =>
        simp at e1
        subst e1
        have z := nofoot k s' v' a (by simpa using e2) e4 f2
        obtain ⟨u, hu, _⟩ := pln a (hwH.feet.mp f1)
        rw [hu] at z; cases z
    | succ j =>
      cases k with
      | zero =>
        simp at e2
        subst e2
        have z := nofoot j s v a (by simpa using e1) e3 f1
        obtain ⟨u, hu, _⟩ := pln a (hwH.feet.mp f2)
        rw [hu] at z; cases z
      | succ k => exact S.apart (j + 1) (k + 1) s s' v v' a (by simpa using e1) (by simpa using e2) e3 e4 f1 f2
end
section
variable {P : Program} {w : World} {K : PySem.W.Frag} {mg : Str → Option Value} {base : Heap} {CA : XC → Addr}
theorem args_dat {G H : Hp} : ∀ {us : List V} {ds : List D}, DqAll K G us ds → Paired (fun v s => ArgOk K G H v s) us (ds.map Slot.dat)
  | _, _, .nil => .nil
  | _, _, .cons h t => .cons h (args_dat t)
/-- a def or method that changes the walk it got first: pre reads, post changes -/
theorem fnW {T : Tb} {x qual : Str} {stm : Stmt} {f : Addr} {fd : FuncData} {N ps : List Str} {k : Nat} {F : Wk → List D → R (D × Wk)} (Fn : Fun K x qual stm f fd) (S : FnScope N ps (defScope stm))
    (hbody : ∀ (cdv : Value), cdv = fd.code → ∀ (A : Around) (outer : List PySem.Env) (s : Shared) (H : Hp) (Q : VK) (E : XK) (p : Addr) (w1 : Wk) (ds : List D), ds.length + 1 = ps.length →
      ∀ X : Cx, X = cxOf (L2.CX P w) P w K mg base N qual (defScope stm) f cdv A outer s H E → Ct X CA ⟨T, fun c _ H' => E (.ref (CA c)) none H'⟩ k →
      ∃ (α : Type) (pre post : List Stmt) (fin : α → Rho) (m1 : R (Out α)) (m2 : α → R (D × Wk)), defBody stm = pre ++ post ∧
        JK X ⟨T, fun c _ H' => E (.ref (CA c)) none H'⟩ pre tNext (.bwk p w1 :: (ds.map Slot.dat ++ List.replicate (N.length - ps.length) .un)) fin m1 ∧
        (∀ a, ∃ r, fin a = .bwk p w1 :: r ∧ r.all udo = true ∧ JR X ⟨T, fun c _ H' => E (.ref (CA c)) none H'⟩ post (.wlk p w1 :: r) p (m2 a)) ∧ F w1 ds = m1.bind (nxR m2)) (hN : ps.length ≤ N.length) :
    FnOk P w K mg base (L2.CX P w) (k + 1) f fd ps (spW T K CA ps.length F) := by
  refine fn_code Fn S (fun vs H Q E h => h.1) fun A outer s H vs Q E hr h => ?_
  obtain ⟨hl, tb, G, p, pp, pl, w1, us, ds, rfl, gt, sG, hw, gf, hds, po⟩ := h
  have hp : Paired (fun v s => ArgOk K G H v s) (.ref p :: us) (.bwk p w1 :: ds.map Slot.dat) := .cons ⟨rfl, pp, pl, hw⟩ (args_dat hds)
  have hld : ds.length + 1 = ps.length := by rw [← hds.len]; exact hl
  have tk0 : Takes (cxOf (L2.CX P w) P w K mg base N qual (defScope stm) f fd.code A outer s H E) (fun cls d _ H => E cls d H) := takes_of rfl rfl rfl rfl
  obtain ⟨α, pre, post, fin, m1, m2, hB, hj, hs, em⟩ := hbody fd.code rfl A outer s H Q E p w1 ds hld _ rfl ⟨tk0.imp fun c d σ H' hw => by obtain ⟨rfl, c', rfl, q⟩ := hw; exact q, hr, rfl, passes_of (X := cxOf (L2.CX P w) P w K mg base N qual (defScope stm) f fd.code A outer s H E) rfl⟩
  rw [hB]
  refine ⟨_, pss_app (wSs.pss pre) (wSs.pss post), ?_⟩
  have S0 := stt_start (N := N) gt tb sG hp (by rw [hl]; exact hN)
  have e0 : (Slot.bwk p w1 :: ds.map Slot.dat ++ List.replicate (N.length - (Slot.bwk p w1 :: ds.map Slot.dat).length) Slot.un : Rho) = .bwk p w1 :: (ds.map Slot.dat ++ List.replicate (N.length - ps.length) .un) := by
    rw [List.length_cons, List.length_map, hld]
    rfl
  rw [e0] at S0
  rw [em] at po
  refine hj H G G H (L2.start N (.ref p :: us)) { nx := fun σ' H' => wSs _ post { nx := fun _ H' => Q .non H', rt := Q } σ' H', rt := Q } S0 (R.post_mono (R.post_bind po) (fun o _ z => ?_) fun c _ z σ' H' s => z H' s)
  cases o with
  | nx a =>
    intro G' H' σ' S'
    obtain ⟨r, er, hr1, hR⟩ := hs a
    rw [er] at S'
    exact hR _ _ _ _ σ' Q (S'.switch hr1 ⟨G, w1, hw⟩ gf) (noexc_post (R.post_mono z (fun x _ y v G2 H2 pp' pl' g1 x1 s1 hw' nf hq => y v G2 H2 pp' pl' g1 x1 s1 hw' nf hq) fun _ _ y => y))
  | bk a => exact z.elim
  | rt d => exact z.elim
/-- a def or method that tells a new walk, the one in slot i -/
theorem fnN {T : Tb} {x qual : Str} {stm : Stmt} {f : Addr} {fd : FuncData} {N ps : List Str} {k : Nat} {F : List Slot → R Wk} (Fn : Fun K x qual stm f fd) (S : FnScope N ps (defScope stm)) (i : Nat) (y : Str)
    (hbody : ∀ (cdv : Value), cdv = fd.code → ∀ (A : Around) (outer : List PySem.Env) (s : Shared) (H : Hp) (Q : VK) (E : XK) (ss : List Slot), ss.length = ps.length →
      ∀ X : Cx, X = cxOf (L2.CX P w) P w K mg base N qual (defScope stm) f cdv A outer s H E → Ct X CA ⟨T, fun c _ H' => E (.ref (CA c)) none H'⟩ k →
      ∃ (pre : List Stmt) (p1 p2 : Pos) (fin : Wk → Rho) (m1 : R (Out Wk)), defBody stm = pre ++ [.Return (some (.Name y p1)) p2] ∧
        JK X ⟨T, fun c _ H' => E (.ref (CA c)) none H'⟩ pre tNext (ss ++ List.replicate (N.length - ss.length) .un) fin m1 ∧
        (∀ a, (fin a)[i]? = some (.wkx a)) ∧ F ss = m1.bind (nxR .ok)) (hN : ps.length ≤ N.length) (hy : N[i]? = some y) (hv : Vis (defScope stm) y) (hd : (y == ("__debug__" : Str)) = false) (hcd : (y == ("__classdict__" : Str)) = false) :
    FnOk P w K mg base (L2.CX P w) (k + 1) f fd ps (spN T K CA ps.length F) := by
  refine fn_code Fn S (fun vs H Q E h => h.1) fun A outer s H vs Q E hr h => ?_
  obtain ⟨hl, tb, G, ss, gt, sG, hp, po⟩ := h
  have hls : ss.length = ps.length := (paired_len hp).symm.trans hl
  have tk0 : Takes (cxOf (L2.CX P w) P w K mg base N qual (defScope stm) f fd.code A outer s H E) (fun cls d _ H => E cls d H) := takes_of rfl rfl rfl rfl
  obtain ⟨pre, p1, p2, fin, m1, hB, hj, hf, em⟩ := hbody fd.code rfl A outer s H Q E ss hls _ rfl ⟨tk0.imp fun c d σ H' hw => by obtain ⟨rfl, c', rfl, q⟩ := hw; exact q, hr, rfl, passes_of (X := cxOf (L2.CX P w) P w K mg base N qual (defScope stm) f fd.code A outer s H E) rfl⟩
  rw [hB]
  refine ⟨_, pss_app (wSs.pss pre) (pss_one (ps_ret (pe_var hy hv hd hcd))), ?_⟩
  have S0 := stt_start (N := N) gt tb sG hp (by rw [hl]; exact hN)
  rw [em] at po
  refine hj H G G H (L2.start N vs) { nx := fun σ' H' => ∃ v, σ'[i]? = some (some v) ∧ Q v H', rt := Q } S0 (R.post_mono (R.post_bind po) (fun o _ z => ?_) fun c _ z σ' H' s => z H' s)
  cases o with
  | nx a =>
    intro G' H' σ' S'
    obtain ⟨v, ev, p, rfl, pp, pl, hw, nf⟩ := S'.slots i _ (hf a)
    exact ⟨_, ev, z p G' H' S'.sub0 S'.ext S'.sub ⟨pp, pl, hw, nf⟩⟩
  | bk a => exact z.elim
  | rt d => exact z.elim
/-- __init__: a prelude, then the four fields -/
theorem putF1 (v : V) : putF "own" v [] = ([("own", v)] : List (Str × V)) := by kernel_rfl
theorem putF2 (v u : V) : putF "now" u ([("own", v)] : List (Str × V)) = ([("own", v), ("now", u)] : List (Str × V)) := by kernel_rfl
theorem putF3 (v u y : V) : putF "past" y ([("own", v), ("now", u)] : List (Str × V)) = ([("own", v), ("now", u), ("past", y)] : List (Str × V)) := by kernel_rfl
theorem putF4 (v u : V) (a b : Addr) : putF "later" (.ref b) ([("own", v), ("now", u), ("past", V.ref a)] : List (Str × V)) = wfs v u a b := by kernel_rfl
theorem fnInit {T : Tb} {stm st1 : Stmt} {f : Addr} {fd : FuncData} {k : Nat} {F : D → R Wk} {x y : Str} {m1 : D → R (Out Unit)} {a1 a2 a3 a4 b1 b2 b3 b4 b5 b6 c1 c2 c3 c4 d1 d2 d3 d4 : Pos} {k0 : Nat} (Fn : Fun K "__init__" "Walk.__init__" stm f fd) (S : FnScope [x, y] [x, y] (defScope stm)) (Tc : WCls K)
    (hB : defBody stm = [st1, .Assign [.Attribute (.Name x a1) "own" a2] (.Name y a3) a4, .Assign [.Attribute (.Name x b1) "now" b2] (.Subscript (.Name y b3) (.Constant (.int 0) k0 b4) b5) b6, .Assign [.Attribute (.Name x c1) "past" c2] (.List [] c3) c4, .Assign [.Attribute (.Name x d1) "later" d2] (.List [] d3) d4])
    (hx : Vis (defScope stm) x) (hy : Vis (defScope stm) y) (hxd : (x == ("__debug__" : Str)) = false) (hxc : (x == ("__classdict__" : Str)) = false) (hyd : (y == ("__debug__" : Str)) = false) (hyc : (y == ("__classdict__" : Str)) = false)
    (hbody : ∀ (cdv : Value), cdv = fd.code → ∀ (A : Around) (outer : List PySem.Env) (s : Shared) (H : Hp) (E : XK) (p : Addr) (d : D),
      ∀ X : Cx, X = cxOf (L2.CX P w) P w K mg base [x, y] "Walk.__init__" (defScope stm) f cdv A outer s H E → Ct X CA ⟨T, fun c _ H' => E (.ref (CA c)) none H'⟩ k →
      JK X ⟨T, fun c _ H' => E (.ref (CA c)) none H'⟩ [st1] tNext [.ptr p, .dat d] (fun _ => [.ptr p, .dat d]) (m1 d))
    (hF : ∀ d, F d = (m1 d).bind (nxR fun _ => (R.opt (pyIx d (.int 0))).bind fun r => .ok ⟨d, r, [], []⟩)) :
    FnOk P w K mg base (L2.CX P w) (k + 1) f fd [x, y] (spI T K CA F) := by
  refine fn_code Fn S (fun vs H Q E h => h.1) fun A outer s H vs Q E hr h => ?_
  obtain ⟨hl, tb, G, p, dx, u, d, rfl, gt, sG, hp, gp, hu, po⟩ := h
  have tk0 : Takes (cxOf (L2.CX P w) P w K mg base [x, y] "Walk.__init__" (defScope stm) f fd.code A outer s H E) (fun cls d _ H => E cls d H) := takes_of rfl rfl rfl rfl
  have ct : Ct (cxOf (L2.CX P w) P w K mg base [x, y] "Walk.__init__" (defScope stm) f fd.code A outer s H E) CA ⟨T, fun c _ H' => E (.ref (CA c)) none H'⟩ k := ⟨tk0.imp fun c d σ H' hw => by obtain ⟨rfl, c', rfl, q⟩ := hw; exact q, hr, rfl, passes_of (X := cxOf (L2.CX P w) P w K mg base [x, y] "Walk.__init__" (defScope stm) f fd.code A outer s H E) rfl⟩
  have hj := hbody fd.code rfl A outer s H E p d _ rfl ct
  generalize hXX : cxOf (L2.CX P w) P w K mg base [x, y] "Walk.__init__" (defScope stm) f fd.code A outer s H E = X at hj ct
  have eK : X.K = K := by rw [← hXX]; rfl
  have eN : X.N = [x, y] := by rw [← hXX]; rfl
  have eS : X.env.scope = defScope stm := by rw [← hXX]; rfl
  have vx : Vis X.env.scope x := by rw [eS]; exact hx
  have vy : Vis X.env.scope y := by rw [eS]; exact hy
  have n0 : X.N[0]? = some x := by rw [eN]; rfl
  have n1 : X.N[1]? = some y := by rw [eN]; rfl
  rw [hB]
  have tail := pss_cons (ps_fld (X := X) (f := "own") (pos' := a2) (pos := a4) (pe_var (pos := a1) n0 vx hxd hxc) (pe_var (pos := a3) n1 vy hyd hyc) rfl) (pss_cons (ps_fld (f := "now") (pos' := b2) (pos := b6) (pe_var (pos := b1) n0 vx hxd hxc) (wE.pe (.Subscript (.Name y b3) (.Constant (.int 0) k0 b4) b5)) rfl)
    (pss_cons (ps_fld (f := "past") (pos' := c2) (pos := c4) (pe_var (pos := c1) n0 vx hxd hxc) (pe_lst (pos := c3) pa_nil) rfl) (pss_one (ps_fld (f := "later") (pos' := d2) (pos := d4) (pe_var (pos := d1) n0 vx hxd hxc) (pe_lst (pos := d3) pa_nil) rfl))))
  obtain ⟨tt, htt⟩ : ∃ tt, tt = tSeq (sFld X.K (tVar 0) (tVar 1) "own") (tSeq (sFld X.K (tVar 0) (wE X (.Subscript (.Name y b3) (.Constant (.int 0) k0 b4) b5)) "now") (tSeq (sFld X.K (tVar 0) (tLst tNil) "past") (sFld X.K (tVar 0) (tLst tNil) "later"))) := ⟨_, rfl⟩
  rw [← htt] at tail
  refine ⟨_, pss_app (l := [st1]) (wSs.pss [st1]) tail, ?_⟩
  have S0 : Stt T K H G G H (L2.start [x, y] [.ref p, u]) [.ptr p, .dat d] := by
    refine ⟨gt, tb, Grow.refl _ _, Ext.refl _ _, sG, rfl, fun i t e => ?_, fun i j t t' v v' a e1 e2 _ _ f1 _ => ?_⟩
    · match i, e with
      | 0, e => cases e; exact ⟨_, rfl, rfl⟩
      | 1, e => cases e; exact ⟨_, rfl, u, rfl, hu⟩
      | i + 2, e => simp at e
    · match i, e1 with
      | 0, e => cases e; exact f1.elim
      | 1, e => cases e; exact f1.elim
      | i + 2, e => simp at e
  rw [hF] at po
  rw [← eK] at S0 hu
  refine hj H G G H (L2.start [x, y] [.ref p, u]) { nx := fun σ' H' => tt { nx := fun _ H' => Q .non H', rt := Q } σ' H', rt := Q } S0 (R.post_mono (R.post_bind po) (fun o _ z => ?_) fun c _ z σ' H' s => z H' s)
  cases o with
  | bk a => exact z.elim
  | rt d => exact z.elim
  | nx a =>
    intro G' H' σ' S'
    obtain ⟨v0, e0, ev0⟩ := S'.slots 0 _ rfl
    obtain ⟨v1, e1, v, ev1, hv⟩ := S'.slots 1 _ rfl
    cases (show v0 = some (V.ref p) from ev0)
    subst ev1
    have hp' : H' p = some (.ins (wkC K) dx []) := S'.sub0 _ _ hp
    have gp' : G' p = none := S'.ext.free hp gp
    show tt _ _ _
    rw [htt]
    refine ⟨v, e1, _, e0, p, _, dx, [], rfl, hp', by rw [eK]; exact Tc.cl, by rw [eK]; exact Tc.nO, (by show 0 < 1000; decide), ?_⟩
    rw [putF1]
    have g1 : Grow T (cut3 H p p p) (upd H' p (.ins (wkC K) dx [("own", v)])) := ((grow_cut tb).trans S'.sub0).write (cut3_at (.inl rfl)) ⟨_, hp', rfl⟩
    have S1 : Stt T X.K (cut3 H p p p) G G' (upd H' p (.ins (wkC K) dx [("own", v)])) σ' [.ptr p, .dat d] := by
      refine ⟨gt, tabs_cut tb fun a ha => ⟨_, by rcases ha with rfl | rfl | rfl <;> exact hp, rfl⟩, g1, S'.ext.cut, fun b o e => by rw [upd_ne (ne_of_none e gp')]; exact S'.sub b o e, S'.len, fun i t e => ?_, fun i j t t' v v' a e1 e2 _ _ f1 _ => ?_⟩
      · match i, e with
        | 0, e => cases e; exact ⟨_, e0, rfl⟩
        | 1, e => cases e; exact ⟨_, e1, v, rfl, hv⟩
        | i + 2, e => simp at e
      · match i, e1 with
        | 0, e => cases e; exact f1.elim
        | 1, e => cases e; exact f1.elim
        | i + 2, e => simp at e
    have je : JE X ⟨T, fun c _ H' => E (.ref (CA c)) none H'⟩ (.Subscript (.Name y b3) (.Constant (.int 0) k0 b4) b5) [.ptr p, .dat d] _ := je_ix (je_var (i := 1) rfl n1 vy hyd hyc) je_int
    refine je _ _ _ _ σ' _ S1 ?_
    have z' := noexc_post (y := fun c => ∀ H2, Grow T (upd H' p (.ins (wkC K) dx [("own", v)])) H2 → E (.ref (CA c)) none H2) z
    refine R.post_mono (R.post_bind z') (fun r _ pr u2 G2 H2 t1 t2 t3 hr2 => ?_) fun _ _ z => z
    have h2p : H2 p = some (.ins (wkC K) dx [("own", v)]) := t1 _ _ upd_same
    have gp2 : G2 p = none := t2.free upd_same gp'
    have g2 := g1.trans t1
    refine ⟨_, e0, p, _, dx, _, rfl, h2p, by rw [eK]; exact Tc.cl, by rw [eK]; exact Tc.nN, (by show 1 < 1000; decide), ?_⟩
    rw [putF2]
    refine ⟨Nat.zero_le _, fun l1 hl1 => ?_⟩
    have n1 : p ≠ l1 := fun q => by rw [← q, upd_same] at hl1; cases hl1
    have hl1' : H2 l1 = none := by rw [upd_ne n1.symm] at hl1; exact hl1
    refine ⟨_, e0, p, _, dx, _, rfl, Eq.trans (upd_ne n1) upd_same, by rw [eK]; exact Tc.cl, by rw [eK]; exact Tc.nP, (by show 2 < 1000; decide), ?_⟩
    rw [putF3]
    refine ⟨Nat.zero_le _, fun l2 hl2 => ?_⟩
    have n2 : p ≠ l2 := fun q => by rw [← q, upd_same] at hl2; cases hl2
    rw [upd_ne n2.symm] at hl2
    have n3 : l1 ≠ l2 := fun q => by rw [← q, upd_same] at hl2; cases hl2
    rw [upd_ne n3.symm, upd_ne n2.symm] at hl2
    refine ⟨_, e0, p, _, dx, _, rfl, Eq.trans (upd_ne n2) upd_same, by rw [eK]; exact Tc.cl, by rw [eK]; exact Tc.nL, (by show 3 < 1000; decide), ?_⟩
    rw [putF4]
    have g3 : Grow T (cut3 H p p p) (upd H2 p (.ins (wkC K) dx [("own", v), ("now", u2)])) := g2.write (cut3_at (.inl rfl)) ⟨_, h2p, rfl⟩
    have g4 := (g3.trans (grow_new (o := .lst []) hl1)).write (u := .ins (wkC K) dx [("own", v), ("now", u2), ("past", .ref l1)]) (cut3_at (.inl rfl)) ⟨_, Eq.trans (upd_ne n1) upd_same, rfl⟩
    have f4 : upd (upd (upd H2 p (.ins (wkC K) dx [("own", v), ("now", u2)])) l1 (.lst [])) p (.ins (wkC K) dx [("own", v), ("now", u2), ("past", .ref l1)]) l2 = none := by rw [upd_ne n2.symm, upd_ne n3.symm, upd_ne n2.symm]; exact hl2
    have g5 := (g4.trans (grow_new (o := .lst []) f4)).write (u := .ins (wkC K) dx (wfs v u2 l1 l2)) (cut3_at (.inl rfl)) ⟨_, Eq.trans (upd_ne n2) upd_same, rfl⟩
    have c1 : cut3 H p p p l1 = none := g2.free hl1'
    have c2 : cut3 H p p p l2 = none := g2.free hl2
    have eG : ∀ b o, G2 b = some o → b ≠ p ∧ b ≠ l1 ∧ b ≠ l2 := fun b o e => ⟨ne_of_none e gp2, ne_of_none (t3 _ _ e) hl1', ne_of_none (t3 _ _ e) hl2⟩
    refine pr G2 _ l1 l2 g5 (S'.ext.cut.trans g1 t2) (fun b o e => ?_) ⟨dx, v, u2, [], [], upd_same, ?_, ?_, ?_, .nil, ?_, .nil, n3⟩ fun a ha => ?_
    · obtain ⟨m1, m2, m3⟩ := eG b o e
      rw [upd_ne m1, upd_ne m3, upd_ne m1, upd_ne m2, upd_ne m1]
      exact t3 b o e
    · rw [← eK]; exact dp_mono t2.same hv
    · rw [← eK]; exact hr2
    · rw [upd_ne n1.symm, upd_ne n3, upd_ne n1.symm, upd_same]
    · rw [upd_ne n2.symm, upd_same]
    · rcases ha with rfl | rfl | rfl
      · exact ⟨gp2, cut3_at (.inl rfl)⟩
      · refine ⟨?_, c1⟩
        cases q : G2 a with
        | none => rfl
        | some o => exact absurd rfl (eG a o q).2.1
      · refine ⟨?_, c2⟩
        cases q : G2 a with
        | none => rfl
        | some o => exact absurd rfl (eG a o q).2.2
end
end Br
namespace Br
open PySem PySem.Spec PyProof.Rows L2
def m_is_whole (a_thing : D) (a_low : D) (a_high : D) : R D := R.bind (R.bind (R.bind (R.bind (R.ok a_thing) fun x1 => R.ok (PyData.bool (isTy Ty5.int x1))) fun x12 => R.bind (asB x12) fun t13 => if t13 then R.bind (R.bind (R.bind (R.ok a_thing) fun x2 => R.ok (PyData.bool (isTy Ty5.bool x2))) fun x3 => R.bind (asB x3) fun t4 => R.ok (PyData.bool !t4)) fun x10 => R.bind (asB x10) fun t11 => if t11 then R.bind (R.ok a_low) fun x5 => R.bind (R.ok a_thing) fun x6 => R.bind (R.opt (pyLe x5 x6)) fun x7 => R.bind (asB x7) fun x8 => if x8 then R.bind (R.ok a_high) fun x9 => R.opt (pyLe x6 x9) else R.ok (PyData.bool false) else R.ok (PyData.bool false) else R.ok (PyData.bool false)) fun x14 => R.ok (Out.rt x14)) outD
def F_is_whole : List Slot → R D
  | [.dat a_thing, .dat a_low, .dat a_high] => m_is_whole a_thing a_low a_high
  | _ => R.stuck
def m_is_term_in : Nat → D → D → R D
  | 0, _, _ => R.stuck
  | k + 1, a_thing, a_deep => R.bind (R.bind (R.bind (R.bind (R.bind (R.ok a_deep) fun x1 => R.bind (R.ok (PyData.int 0)) fun x2 => R.opt (pyEq x1 x2)) asB) fun t16 => if t16 then R.ok true else R.bind (R.bind (R.bind (R.bind (R.ok a_thing) fun x3 => R.ok (PyData.bool (isTy Ty5.tuple x3))) asB) fun t4 => R.ok (!t4)) fun t15 => if t15 then R.ok true else R.bind (R.bind (R.bind (R.bind (R.bind (R.ok a_thing) fun x5 => R.bind (R.ok []) fun x6 => R.ok (x5 :: x6)) fun x7 => R.opt (pyLen x7)) fun x8 => R.bind (R.ok (PyData.int 2)) fun x9 => R.opt (pyLt x8 x9)) asB) fun t14 => if t14 then R.ok true else R.bind (R.bind (R.bind (R.bind (R.ok a_thing) fun x10 => R.bind (R.ok (PyData.int 0)) fun x11 => R.opt (pyIx x10 x11)) fun x12 => R.ok (PyData.bool (isTy Ty5.str x12))) asB) fun t13 => R.ok (!t13)) fun t91 => if t91 then
 R.bind (R.ok (PyData.bool false)) fun x17 => R.ok (Out.rt x17)
 else
 R.bind (R.bind (R.bind (R.bind (R.ok a_thing) fun x18 => R.bind (R.ok (PyData.int 0)) fun x19 => R.opt (pyIx x18 x19)) fun x20 => R.bind (R.ok (PyData.str (PySem.Str.ofString "at"))) fun x21 => R.opt (pyEq x20 x21)) asB) fun t90 => if t90 then
 R.bind (R.bind (R.bind (R.bind (R.bind (R.ok a_thing) fun x22 => R.bind (R.ok []) fun x23 => R.ok (x22 :: x23)) fun x24 => R.opt (pyLen x24)) fun x25 => R.bind (R.ok (PyData.int 2)) fun x26 => R.opt (pyEq x25 x26)) fun x35 => R.bind (asB x35) fun t36 => if t36 then R.bind (R.bind (R.bind (R.ok a_thing) fun x29 => R.bind (R.ok (PyData.int 1)) fun x30 => R.opt (pyIx x29 x30)) fun x27 => R.bind (R.bind (R.ok (PyData.int 1)) fun x31 => R.bind (R.bind (R.ok (PyData.int 5)) fun x33 => R.bind (R.ok []) fun x34 => R.ok (Slot.dat x33 :: x34)) fun x32 => R.ok (Slot.dat x31 :: x32)) fun x28 => R.ok (Slot.dat x27 :: x28)) F_is_whole else R.ok (PyData.bool false)) fun x37 => R.ok (Out.rt x37)
 else
 R.bind (R.bind (R.bind (R.bind (R.ok a_thing) fun x38 => R.bind (R.ok (PyData.int 0)) fun x39 => R.opt (pyIx x38 x39)) fun x40 => R.bind (R.ok (PyData.str (PySem.Str.ofString "of"))) fun x41 => R.opt (pyEq x40 x41)) asB) fun t89 => if t89 then
 R.bind (R.bind (R.bind (R.bind (R.bind (R.ok a_thing) fun x42 => R.bind (R.ok []) fun x43 => R.ok (x42 :: x43)) fun x44 => R.opt (pyLen x44)) fun x45 => R.bind (R.ok (PyData.int 2)) fun x46 => R.opt (pyEq x45 x46)) fun x55 => R.bind (asB x55) fun t56 => if t56 then R.bind (R.bind (R.bind (R.ok a_thing) fun x49 => R.bind (R.ok (PyData.int 1)) fun x50 => R.opt (pyIx x49 x50)) fun x47 => R.bind (R.bind (R.bind (R.ok a_deep) fun x53 => R.bind (R.ok (PyData.int 1)) fun x54 => R.opt (pySub x53 x54)) fun x51 => R.bind (R.ok []) fun x52 => R.ok (Slot.dat x51 :: x52)) fun x48 => R.ok (Slot.dat x47 :: x48)) (fun ss => match ss with | [.dat a_thing, .dat a_deep] => m_is_term_in k a_thing a_deep | _ => R.stuck) else R.ok (PyData.bool false)) fun x57 => R.ok (Out.rt x57)
 else
 R.bind (R.bind (R.bind (R.bind (R.bind (R.ok a_thing) fun x58 => R.bind (R.ok (PyData.int 0)) fun x59 => R.opt (pyIx x58 x59)) fun x60 => R.bind (R.ok (PyData.tuple [PyData.str (PySem.Str.ofString "back"), PyData.str (PySem.Str.ofString "rest")])) fun x61 => R.opt (pyIn true x60 x61)) asB) fun t77 => if t77 then R.ok true else R.bind (R.bind (R.bind (R.bind (R.bind (R.ok a_thing) fun x62 => R.bind (R.ok []) fun x63 => R.ok (x62 :: x63)) fun x64 => R.opt (pyLen x64)) fun x65 => R.bind (R.ok (PyData.int 3)) fun x66 => R.opt (pyNe x65 x66)) asB) fun t76 => if t76 then R.ok true else R.bind (R.bind (R.bind (R.bind (R.bind (R.ok a_thing) fun x69 => R.bind (R.ok (PyData.int 1)) fun x70 => R.opt (pyIx x69 x70)) fun x67 => R.bind (R.bind (R.ok (PyData.int 0)) fun x71 => R.bind (R.bind (R.ok (PyData.int 5)) fun x73 => R.bind (R.ok []) fun x74 => R.ok (Slot.dat x73 :: x74)) fun x72 => R.ok (Slot.dat x71 :: x72)) fun x68 => R.ok (Slot.dat x67 :: x68)) F_is_whole) asB) fun t75 => R.ok (!t75)) fun t88 => if t88 then
 R.bind (R.ok (PyData.bool false)) fun x78 => R.ok (Out.rt x78)
 else
 R.bind (R.bind (R.bind (R.bind (R.ok a_thing) fun x81 => R.bind (R.ok (PyData.int 2)) fun x82 => R.opt (pyIx x81 x82)) fun x79 => R.bind (R.bind (R.bind (R.ok a_deep) fun x85 => R.bind (R.ok (PyData.int 1)) fun x86 => R.opt (pySub x85 x86)) fun x83 => R.bind (R.ok []) fun x84 => R.ok (Slot.dat x83 :: x84)) fun x80 => R.ok (Slot.dat x79 :: x80)) (fun ss => match ss with | [.dat a_thing, .dat a_deep] => m_is_term_in k a_thing a_deep | _ => R.stuck)) fun x87 => R.ok (Out.rt x87)) outD
def F_is_term_in (k : Nat) : List Slot → R D
  | [.dat a_thing, .dat a_deep] => m_is_term_in k a_thing a_deep
  | _ => R.stuck
def m_is_term (a_thing : D) : R D := R.bind (R.bind (R.bind (R.bind (R.ok a_thing) fun x1 => R.bind (R.bind (R.ok (PyData.int 3)) fun x3 => R.bind (R.ok []) fun x4 => R.ok (Slot.dat x3 :: x4)) fun x2 => R.ok (Slot.dat x1 :: x2)) (F_is_term_in 14)) fun x5 => R.ok (Out.rt x5)) outD
def F_is_term : List Slot → R D
  | [.dat a_thing] => m_is_term a_thing
  | _ => R.stuck
def m_is_rule (a_thing : D) : R D := R.bind (R.bind (R.bind (R.bind (R.bind (R.bind (R.ok a_thing) fun x1 => R.ok (PyData.bool (isTy Ty5.tuple x1))) asB) fun t2 => R.ok (!t2)) fun t8 => if t8 then R.ok true else R.bind (R.bind (R.bind (R.bind (R.ok a_thing) fun x3 => R.bind (R.ok []) fun x4 => R.ok (x3 :: x4)) fun x5 => R.opt (pyLen x5)) fun x6 => R.bind (R.ok (PyData.int 3)) fun x7 => R.opt (pyNe x6 x7)) asB) fun t82 => if t82 then
 R.bind (R.ok (PyData.bool false)) fun x9 => R.ok (Out.rt x9)
 else
 R.bind (R.bind (R.bind (R.bind (R.bind (R.bind (R.ok a_thing) fun x10 => R.bind (R.ok (PyData.int 0)) fun x11 => R.opt (pyIx x10 x11)) fun x12 => R.ok (PyData.bool (isTy Ty5.tuple x12))) asB) fun t13 => R.ok (!t13)) fun t18 => if t18 then R.ok true else R.bind (R.bind (R.bind (R.bind (R.ok a_thing) fun x14 => R.bind (R.ok (PyData.int 2)) fun x15 => R.opt (pyIx x14 x15)) fun x16 => R.ok (PyData.bool (isTy Ty5.tuple x16))) asB) fun t17 => R.ok (!t17)) fun t81 => if t81 then
 R.bind (R.ok (PyData.bool false)) fun x19 => R.ok (Out.rt x19)
 else
 R.bind (R.bind (R.bind (R.bind (R.bind (R.ok (PyData.int 1)) fun x25 => R.bind (R.bind (R.bind (R.bind (R.ok a_thing) fun x20 => R.bind (R.ok (PyData.int 0)) fun x21 => R.opt (pyIx x20 x21)) fun x22 => R.bind (R.ok []) fun x23 => R.ok (x22 :: x23)) fun x24 => R.opt (pyLen x24)) fun x26 => R.bind (R.opt (pyLe x25 x26)) fun x27 => R.bind (asB x27) fun x28 => if x28 then R.bind (R.ok (PyData.int 6)) fun x29 => R.opt (pyLe x26 x29) else R.ok (PyData.bool false)) asB) fun t30 => R.ok (!t30)) fun t45 => if t45 then R.ok true else R.bind (R.bind (R.bind (R.bind (R.bind (R.bind (R.bind (R.bind (R.ok a_thing) fun x31 => R.bind (R.ok (PyData.int 0)) fun x32 => R.opt (pyIx x31 x32)) asSeq) (compD R.ok (fun _ => R.ok true) (fun d33 => R.bind (R.bind (R.ok d33) fun x35 => R.bind (R.bind (R.ok (PyData.int 0)) fun x37 => R.bind (R.bind (R.ok (PyData.int 9)) fun x39 => R.bind (R.ok []) fun x40 => R.ok (Slot.dat x39 :: x40)) fun x38 => R.ok (Slot.dat x37 :: x38)) fun x36 => R.ok (Slot.dat x35 :: x36)) F_is_whole))) lstD) fun x41 => R.bind (R.ok []) fun x42 => R.ok (x41 :: x42)) fun x43 => R.opt (pyAll x43)) asB) fun t44 => R.ok (!t44)) fun t80 => if t80 then
 R.bind (R.ok (PyData.bool false)) fun x46 => R.ok (Out.rt x46)
 else
 R.bind (R.bind (R.bind (R.bind (R.bind (R.bind (R.bind (R.ok a_thing) fun x49 => R.bind (R.ok (PyData.int 1)) fun x50 => R.opt (pyIx x49 x50)) fun x47 => R.bind (R.bind (R.ok (PyData.int 0)) fun x51 => R.bind (R.bind (R.ok (PyData.int 9)) fun x53 => R.bind (R.ok []) fun x54 => R.ok (Slot.dat x53 :: x54)) fun x52 => R.ok (Slot.dat x51 :: x52)) fun x48 => R.ok (Slot.dat x47 :: x48)) F_is_whole) asB) fun t55 => R.ok (!t55)) fun t67 => if t67 then R.ok true else R.bind (R.bind (R.bind (R.ok (PyData.int 1)) fun x61 => R.bind (R.bind (R.bind (R.bind (R.ok a_thing) fun x56 => R.bind (R.ok (PyData.int 2)) fun x57 => R.opt (pyIx x56 x57)) fun x58 => R.bind (R.ok []) fun x59 => R.ok (x58 :: x59)) fun x60 => R.opt (pyLen x60)) fun x62 => R.bind (R.opt (pyLe x61 x62)) fun x63 => R.bind (asB x63) fun x64 => if x64 then R.bind (R.ok (PyData.int 3)) fun x65 => R.opt (pyLe x62 x65) else R.ok (PyData.bool false)) asB) fun t66 => R.ok (!t66)) fun t79 => if t79 then
 R.bind (R.ok (PyData.bool false)) fun x68 => R.ok (Out.rt x68)
 else
 R.bind (R.bind (R.bind (R.bind (R.bind (R.bind (R.bind (R.ok a_thing) fun x69 => R.bind (R.ok (PyData.int 2)) fun x70 => R.opt (pyIx x69 x70)) asSeq) (compD R.ok (fun _ => R.ok true) (fun d71 => R.bind (R.bind (R.ok d71) fun x73 => R.bind (R.ok []) fun x74 => R.ok (Slot.dat x73 :: x74)) F_is_term))) lstD) fun x75 => R.bind (R.ok []) fun x76 => R.ok (x75 :: x76)) fun x77 => R.opt (pyAll x77)) fun x78 => R.ok (Out.rt x78)) outD
def F_is_rule : List Slot → R D
  | [.dat a_thing] => m_is_rule a_thing
  | _ => R.stuck
def m_look_rule (a_rule : D) : R D := R.bind (R.bind (R.bind (R.bind (R.bind (R.bind (R.ok a_rule) fun x1 => R.bind (R.ok []) fun x2 => R.ok (Slot.dat x1 :: x2)) F_is_rule) asB) fun t3 => R.ok (!t3)) fun t4 => if t4 then
 R.exc XC.noRule
 else
 R.ok (Out.nx ())) outD
def F_look_rule : List Slot → R D
  | [.dat a_rule] => m_look_rule a_rule
  | _ => R.stuck
def m_look_many (a_many : D) : R D := R.bind (R.bind (R.bind (R.bind (R.bind (R.bind (R.ok a_many) fun x1 => R.bind (R.bind (R.ok (PyData.int 1)) fun x3 => R.bind (R.bind (R.ok (PyData.int 200)) fun x5 => R.bind (R.ok []) fun x6 => R.ok (Slot.dat x5 :: x6)) fun x4 => R.ok (Slot.dat x3 :: x4)) fun x2 => R.ok (Slot.dat x1 :: x2)) F_is_whole) asB) fun t7 => R.ok (!t7)) fun t8 => if t8 then
 R.exc XC.noNumber
 else
 R.ok (Out.nx ())) outD
def F_look_many : List Slot → R D
  | [.dat a_many] => m_look_many a_many
  | _ => R.stuck
def m_named (a_word : D) : R D := R.bind (R.bind (R.bind (R.bind (R.ok a_word) fun x1 => R.bind (R.ok (PyData.str (PySem.Str.ofString "both back"))) fun x2 => R.opt (pyEq x1 x2)) asB) fun t20 => if t20 then
 R.bind (R.ok (PyData.tuple [PyData.tuple [PyData.int 1, PyData.int 1], PyData.int 0, PyData.tuple [PyData.tuple [PyData.str (PySem.Str.ofString "back"), PyData.int 0, PyData.tuple [PyData.str (PySem.Str.ofString "at"), PyData.int 1]], PyData.tuple [PyData.str (PySem.Str.ofString "back"), PyData.int 0, PyData.tuple [PyData.str (PySem.Str.ofString "at"), PyData.int 2]]]])) fun x3 => R.ok (Out.rt x3)
 else
 R.bind (R.bind (R.bind (R.ok a_word) fun x4 => R.bind (R.ok (PyData.str (PySem.Str.ofString "slow"))) fun x5 => R.opt (pyEq x4 x5)) asB) fun t19 => if t19 then
 R.bind (R.ok (PyData.tuple [PyData.tuple [PyData.int 1, PyData.int 1], PyData.int 0, PyData.tuple [PyData.tuple [PyData.str (PySem.Str.ofString "back"), PyData.int 0, PyData.tuple [PyData.str (PySem.Str.ofString "at"), PyData.int 1]], PyData.tuple [PyData.str (PySem.Str.ofString "back"), PyData.int 1, PyData.tuple [PyData.str (PySem.Str.ofString "at"), PyData.int 2]]]])) fun x6 => R.ok (Out.rt x6)
 else
 R.bind (R.bind (R.bind (R.ok a_word) fun x7 => R.bind (R.ok (PyData.str (PySem.Str.ofString "half"))) fun x8 => R.opt (pyEq x7 x8)) asB) fun t18 => if t18 then
 R.bind (R.ok (PyData.tuple [PyData.tuple [PyData.int 1, PyData.int 1], PyData.int 0, PyData.tuple [PyData.tuple [PyData.str (PySem.Str.ofString "of"), PyData.tuple [PyData.str (PySem.Str.ofString "at"), PyData.int 1]], PyData.tuple [PyData.str (PySem.Str.ofString "back"), PyData.int 0, PyData.tuple [PyData.str (PySem.Str.ofString "at"), PyData.int 1]]]])) fun x9 => R.ok (Out.rt x9)
 else
 R.bind (R.bind (R.bind (R.ok a_word) fun x10 => R.bind (R.ok (PyData.str (PySem.Str.ofString "golden"))) fun x11 => R.opt (pyEq x10 x11)) asB) fun t17 => if t17 then
 R.bind (R.ok (PyData.tuple [PyData.tuple [PyData.int 1], PyData.int 0, PyData.tuple [PyData.tuple [PyData.str (PySem.Str.ofString "rest"), PyData.int 0, PyData.tuple [PyData.str (PySem.Str.ofString "of"), PyData.tuple [PyData.str (PySem.Str.ofString "at"), PyData.int 1]]]]])) fun x12 => R.ok (Out.rt x12)
 else
 R.bind (R.bind (R.bind (R.ok a_word) fun x13 => R.bind (R.ok (PyData.str (PySem.Str.ofString "own counts"))) fun x14 => R.opt (pyEq x13 x14)) asB) fun t16 => if t16 then
 R.bind (R.ok (PyData.tuple [PyData.tuple [PyData.int 1], PyData.int 1, PyData.tuple [PyData.tuple [PyData.str (PySem.Str.ofString "back"), PyData.int 0, PyData.tuple [PyData.str (PySem.Str.ofString "of"), PyData.tuple [PyData.str (PySem.Str.ofString "at"), PyData.int 1]]]]])) fun x15 => R.ok (Out.rt x15)
 else
 R.exc XC.noRule) outD
def F_named : List Slot → R D
  | [.dat a_word] => m_named a_word
  | _ => R.stuck
mutual
def m_place_of : Nat → D → List D → R D
  | 0, _, _ => R.stuck
  | k + 1, a_term, a_row => R.bind (R.bind (R.bind (R.bind (R.bind (R.bind (R.ok a_row) lstD) fun x1 => R.bind (R.ok []) fun x2 => R.ok (x1 :: x2)) fun x3 => R.opt (pyLen x3)) fun x4 => R.bind (R.ok (PyData.int 1)) fun x5 => R.opt (pyAdd x4 x5)) fun v6 =>
 R.bind (R.bind (R.bind (R.bind (R.ok a_term) fun x7 => R.bind (R.ok (PyData.int 0)) fun x8 => R.opt (pyIx x7 x8)) fun x9 => R.bind (R.ok (PyData.str (PySem.Str.ofString "at"))) fun x10 => R.opt (pyEq x9 x10)) asB) fun t40 => if t40 then
 R.bind (R.bind (R.ok v6) fun x13 => R.bind (R.bind (R.ok a_term) fun x11 => R.bind (R.ok (PyData.int 1)) fun x12 => R.opt (pyIx x11 x12)) fun x14 => R.opt (pySub x13 x14)) fun x15 => R.ok (Out.rt x15)
 else
 R.bind (R.bind (R.bind (R.bind (R.ok a_term) fun x19 => R.bind (R.bind (R.ok (PyData.int 1)) fun x18 => R.opt (pyNeg x18)) fun x20 => R.opt (pyIx x19 x20)) fun x16 => R.bind (R.bind (R.ok a_row) fun x21 => R.bind (R.ok []) fun x22 => R.ok (Slot.bor (Ob.lst x21) :: x22)) fun x17 => R.ok (Slot.dat x16 :: x17)) (fun ss => match ss with | [.dat a_term, .bor (.lst a_row)] => m_number_of k a_term a_row | _ => R.stuck)) fun v23 =>
 R.bind (R.bind (R.bind (R.ok v23) fun x24 => R.bind (R.ok PyData.none) fun x25 => R.opt (pyIs x24 x25)) asB) fun t39 => if t39 then
 R.bind (R.ok PyData.none) fun x26 => R.ok (Out.rt x26)
 else
 R.bind (R.bind (R.bind (R.bind (R.bind (R.ok a_term) fun x27 => R.bind (R.ok (PyData.int 0)) fun x28 => R.opt (pyIx x27 x28)) fun x29 => R.bind (R.ok (PyData.str (PySem.Str.ofString "of"))) fun x30 => R.opt (pyEq x29 x30)) asB) fun t37 => if t37 then R.ok v23 else R.bind (R.bind (R.ok v6) fun x33 => R.bind (R.bind (R.ok a_term) fun x31 => R.bind (R.ok (PyData.int 1)) fun x32 => R.opt (pyIx x31 x32)) fun x34 => R.opt (pySub x33 x34)) fun x35 => R.bind (R.ok v23) fun x36 => R.opt (pySub x35 x36)) fun x38 => R.ok (Out.rt x38)) outD
def m_number_of : Nat → D → List D → R D
  | 0, _, _ => R.stuck
  | k + 1, a_term, a_row => R.bind (R.bind (R.bind (R.bind (R.ok a_term) fun x1 => R.bind (R.bind (R.ok a_row) fun x3 => R.bind (R.ok []) fun x4 => R.ok (Slot.bor (Ob.lst x3) :: x4)) fun x2 => R.ok (Slot.dat x1 :: x2)) (fun ss => match ss with | [.dat a_term, .bor (.lst a_row)] => m_place_of k a_term a_row | _ => R.stuck)) fun v5 =>
 R.bind (R.bind (R.bind (R.bind (R.ok v5) fun x6 => R.bind (R.ok PyData.none) fun x7 => R.opt (pyIs x6 x7)) asB) fun t12 => if t12 then R.ok true else R.bind (R.bind (R.bind (R.ok a_term) fun x8 => R.bind (R.ok (PyData.int 0)) fun x9 => R.opt (pyIx x8 x9)) fun x10 => R.bind (R.ok (PyData.str (PySem.Str.ofString "rest"))) fun x11 => R.opt (pyEq x10 x11)) asB) fun t28 => if t28 then
 R.bind (R.ok v5) fun x13 => R.ok (Out.rt x13)
 else
 R.bind (R.bind (R.bind (R.bind (R.ok (PyData.int 1)) fun x17 => R.bind (R.ok v5) fun x18 => R.bind (R.opt (pyLe x17 x18)) fun x19 => R.bind (asB x19) fun x20 => if x20 then R.bind (R.bind (R.bind (R.bind (R.ok a_row) lstD) fun x14 => R.bind (R.ok []) fun x15 => R.ok (x14 :: x15)) fun x16 => R.opt (pyLen x16)) fun x21 => R.opt (pyLe x18 x21) else R.ok (PyData.bool false)) asB) fun t26 => if t26 then R.bind (R.ok a_row) fun x24 => R.bind (R.bind (R.ok v5) fun x22 => R.bind (R.ok (PyData.int 1)) fun x23 => R.opt (pySub x22 x23)) fun x25 => R.opt (pyIx (PyData.list x24) x25) else R.ok PyData.none) fun x27 => R.ok (Out.rt x27)) outD
end
def F_place_of (k : Nat) : List Slot → R D
  | [.dat a_term, .bor (.lst a_row)] => m_place_of k a_term a_row
  | _ => R.stuck
def F_number_of (k : Nat) : List Slot → R D
  | [.dat a_term, .bor (.lst a_row)] => m_number_of k a_term a_row
  | _ => R.stuck
def m_next_number (a_rule : D) (a_row : List D) : R D := R.bind (R.bind (R.bind (R.bind (R.bind (R.bind (R.ok a_rule) fun x1 => R.bind (R.ok (PyData.int 2)) fun x2 => R.opt (pyIx x1 x2)) asSeq) (compD R.ok (fun _ => R.ok true) (fun d3 => R.bind (R.bind (R.ok d3) fun x5 => R.bind (R.bind (R.ok a_row) fun x7 => R.bind (R.ok []) fun x8 => R.ok (Slot.bor (Ob.lst x7) :: x8)) fun x6 => R.ok (Slot.dat x5 :: x6)) (F_number_of 14)))) lstD) fun v9 =>
 R.bind (R.bind (R.bind (R.ok PyData.none) fun x10 => R.bind (R.ok v9) fun x11 => R.opt (pyIn false x10 x11)) asB) fun t21 => if t21 then
 R.bind (R.ok PyData.none) fun x12 => R.ok (Out.rt x12)
 else
 R.bind (R.bind (R.bind (R.ok a_rule) fun x13 => R.bind (R.ok (PyData.int 1)) fun x14 => R.opt (pyIx x13 x14)) fun x18 => R.bind (R.bind (R.bind (R.ok v9) fun x15 => R.bind (R.ok []) fun x16 => R.ok (x15 :: x16)) fun x17 => R.opt (pySum x17)) fun x19 => R.opt (pyAdd x18 x19)) fun x20 => R.ok (Out.rt x20)) outD
def F_next_number : List Slot → R D
  | [.dat a_rule, .bor (.lst a_row)] => m_next_number a_rule a_row
  | _ => R.stuck
def m_row_of (a_rule : D) (a_many : D) : R D := R.bind (R.bind (R.bind (R.bind (R.bind (R.ok a_rule) fun x1 => R.bind (R.ok (PyData.int 0)) fun x2 => R.opt (pyIx x1 x2)) fun x3 => R.bind (R.ok none) fun x4 => R.bind (R.bind (R.ok a_many) asI) fun x5 => R.opt (pySl x3 x4 x5)) asSeq) fun l6 =>
 R.bind (whileM (fun (z8 : List D) => R.bind (R.bind (R.bind (R.bind (R.bind (R.ok z8) lstD) fun x11 => R.bind (R.ok []) fun x12 => R.ok (x11 :: x12)) fun x13 => R.opt (pyLen x13)) fun x14 => R.bind (R.ok a_many) fun x15 => R.opt (pyLt x14 x15)) asB) (fun (z9 : List D) =>
 R.bind (R.bind (R.bind (R.ok a_rule) fun x16 => R.bind (R.bind (R.ok z9) fun x18 => R.bind (R.ok []) fun x19 => R.ok (Slot.bor (Ob.lst x18) :: x19)) fun x17 => R.ok (Slot.dat x16 :: x17)) F_next_number) fun v20 =>
 R.bind (R.bind (R.bind (R.ok v20) fun x21 => R.bind (R.ok PyData.none) fun x22 => R.opt (pyIs x21 x22)) asB) fun t25 => if t25 then
 R.ok (Out.rt (PyData.list z9))
 else
 R.bind (R.ok v20) fun d23 => if lineOk (List.length z9 + 1) then (fun l24 =>
 R.ok (Out.nx l24)) (z9 ++ [d23]) else R.stuck) 3000 l6) (Out.cont fun (z26 : List D) =>
 R.ok (Out.rt (PyData.list z26)))) outD
def F_row_of : List Slot → R D
  | [.dat a_rule, .dat a_many] => m_row_of a_rule a_many
  | _ => R.stuck
def m_numbers (a_rule : D) (a_many : D) : R D := R.bind (R.bind (R.bind (R.bind (R.ok a_rule) fun x1 => R.bind (R.ok []) fun x2 => R.ok (Slot.dat x1 :: x2)) F_look_rule) fun _ =>
 R.bind (R.bind (R.bind (R.ok a_many) fun x3 => R.bind (R.ok []) fun x4 => R.ok (Slot.dat x3 :: x4)) F_look_many) fun _ =>
 R.bind (R.bind (R.bind (R.ok a_rule) fun x5 => R.bind (R.bind (R.ok a_many) fun x7 => R.bind (R.ok []) fun x8 => R.ok (Slot.dat x7 :: x8)) fun x6 => R.ok (Slot.dat x5 :: x6)) F_row_of) fun x9 => R.ok (Out.rt x9)) outD
def F_numbers : List Slot → R D
  | [.dat a_rule, .dat a_many] => m_numbers a_rule a_many
  | _ => R.stuck
def m__law_cell (a_script : List D) (a_k : D) : R D := R.bind (R.bind (R.bind (R.bind (R.ok a_k) fun x4 => R.bind (R.bind (R.bind (R.bind (R.ok a_script) lstD) fun x1 => R.bind (R.ok []) fun x2 => R.ok (x1 :: x2)) fun x3 => R.opt (pyLen x3)) fun x5 => R.opt (pyLt x4 x5)) asB) fun t25 => if t25 then
 R.bind (R.bind (R.ok a_script) fun x6 => R.bind (R.ok a_k) fun x7 => R.opt (pyIx (PyData.list x6) x7)) fun x8 => R.ok (Out.rt x8)
 else
 R.bind (R.bind (R.bind (R.bind (R.ok a_script) lstD) fun x9 => R.bind (R.bind (R.ok []) lstD) fun x10 => R.opt (pyEq x9 x10)) asB) fun t24 => if t24 then
 R.bind (R.ok (PyData.int 0)) fun x11 => R.ok (Out.rt x11)
 else
 R.bind (R.bind (R.bind (R.bind (R.ok a_script) fun x17 => R.bind (R.bind (R.ok a_k) fun x15 => R.bind (R.bind (R.bind (R.bind (R.ok a_script) lstD) fun x12 => R.bind (R.ok []) fun x13 => R.ok (x12 :: x13)) fun x14 => R.opt (pyLen x14)) fun x16 => R.opt (pyMod x15 x16)) fun x18 => R.opt (pyIx (PyData.list x17) x18)) fun x19 => R.bind (R.ok (PyData.int 31)) fun x20 => R.opt (pyMul x19 x20)) fun x21 => R.bind (R.ok a_k) fun x22 => R.opt (pyAdd x21 x22)) fun x23 => R.ok (Out.rt x23)) outD
def F__law_cell : List Slot → R D
  | [.bor (.lst a_script), .dat a_k] => m__law_cell a_script a_k
  | _ => R.stuck
def m__law_pick (a_script : List D) (a_k : D) (a_many : D) : R D := R.bind (R.bind (R.bind (R.bind (R.bind (R.bind (R.bind (R.ok a_script) fun x1 => R.bind (R.bind (R.ok a_k) fun x3 => R.bind (R.ok []) fun x4 => R.ok (Slot.dat x3 :: x4)) fun x2 => R.ok (Slot.bor (Ob.lst x1) :: x2)) F__law_cell) fun x9 => R.bind (R.bind (R.ok (PyData.int 6151)) fun x7 => R.bind (R.bind (R.ok a_k) fun x5 => R.bind (R.ok (PyData.int 1)) fun x6 => R.opt (pyAdd x5 x6)) fun x8 => R.opt (pyMul x7 x8)) fun x10 => R.opt (pyAdd x9 x10)) fun x11 => R.bind (R.ok (PyData.int 40692)) fun x12 => R.opt (pyMul x11 x12)) fun x13 => R.bind (R.ok (PyData.int 2147483399)) fun x14 => R.opt (pyMod x13 x14)) fun v15 =>
 R.bind (R.bind (R.bind (R.bind (R.bind (R.ok v15) fun x16 => R.bind (R.ok v15) fun x17 => R.opt (pyMul x16 x17)) fun x20 => R.bind (R.bind (R.ok v15) fun x18 => R.bind (R.ok (PyData.int 31)) fun x19 => R.opt (pyDiv x18 x19)) fun x21 => R.opt (pyAdd x20 x21)) fun x22 => R.bind (R.ok (PyData.int 2147483629)) fun x23 => R.opt (pyMod x22 x23)) fun x24 => R.bind (R.ok a_many) fun x25 => R.opt (pyMod x24 x25)) fun x26 => R.ok (Out.rt x26)) outD
def F__law_pick : List Slot → R D
  | [.bor (.lst a_script), .dat a_k, .dat a_many] => m__law_pick a_script a_k a_many
  | _ => R.stuck
def m__law_term : Nat → List D → D → D → R D
  | 0, _, _, _ => R.stuck
  | k + 1, a_script, a_at, a_deep => R.bind (R.bind (R.bind (R.bind (R.ok a_script) fun x1 => R.bind (R.bind (R.ok a_at) fun x3 => R.bind (R.bind (R.ok (PyData.int 7)) fun x5 => R.bind (R.ok []) fun x6 => R.ok (Slot.dat x5 :: x6)) fun x4 => R.ok (Slot.dat x3 :: x4)) fun x2 => R.ok (Slot.bor (Ob.lst x1) :: x2)) F__law_pick) fun v7 =>
 R.bind (R.bind (R.bind (R.bind (R.ok v7) fun x8 => R.bind (R.ok (PyData.int 2)) fun x9 => R.opt (pyLt x8 x9)) asB) fun t12 => if t12 then R.ok true else R.bind (R.bind (R.ok a_deep) fun x10 => R.bind (R.ok (PyData.int 1)) fun x11 => R.opt (pyEq x10 x11)) asB) fun t68 => if t68 then
 R.bind (R.bind (R.bind (R.ok (PyData.str (PySem.Str.ofString "at"))) fun x25 => R.bind (R.bind (R.bind (R.ok (PyData.int 1)) fun x21 => R.bind (R.bind (R.bind (R.ok a_script) fun x13 => R.bind (R.bind (R.bind (R.ok a_at) fun x17 => R.bind (R.ok (PyData.int 1)) fun x18 => R.opt (pyAdd x17 x18)) fun x15 => R.bind (R.bind (R.ok (PyData.int 3)) fun x19 => R.bind (R.ok []) fun x20 => R.ok (Slot.dat x19 :: x20)) fun x16 => R.ok (Slot.dat x15 :: x16)) fun x14 => R.ok (Slot.bor (Ob.lst x13) :: x14)) F__law_pick) fun x22 => R.opt (pyAdd x21 x22)) fun x23 => R.bind (R.ok []) fun x24 => R.ok (x23 :: x24)) fun x26 => R.ok (x25 :: x26)) fun x27 => R.ok (PyData.tuple x27)) fun x28 => R.ok (Out.rt x28)
 else
 R.bind (R.bind (R.bind (R.ok a_script) fun x29 => R.bind (R.bind (R.bind (R.ok a_at) fun x33 => R.bind (R.ok (PyData.int 3)) fun x34 => R.opt (pyAdd x33 x34)) fun x31 => R.bind (R.bind (R.bind (R.ok a_deep) fun x37 => R.bind (R.ok (PyData.int 1)) fun x38 => R.opt (pySub x37 x38)) fun x35 => R.bind (R.ok []) fun x36 => R.ok (Slot.dat x35 :: x36)) fun x32 => R.ok (Slot.dat x31 :: x32)) fun x30 => R.ok (Slot.bor (Ob.lst x29) :: x30)) (fun ss => match ss with | [.bor (.lst a_script), .dat a_at, .dat a_deep] => m__law_term k a_script a_at a_deep | _ => R.stuck)) fun v39 =>
 R.bind (R.bind (R.bind (R.ok v7) fun x40 => R.bind (R.ok (PyData.int 2)) fun x41 => R.opt (pyEq x40 x41)) asB) fun t67 => if t67 then
 R.bind (R.bind (R.bind (R.ok (PyData.str (PySem.Str.ofString "of"))) fun x44 => R.bind (R.bind (R.ok v39) fun x42 => R.bind (R.ok []) fun x43 => R.ok (x42 :: x43)) fun x45 => R.ok (x44 :: x45)) fun x46 => R.ok (PyData.tuple x46)) fun x47 => R.ok (Out.rt x47)
 else
 R.bind (R.bind (R.bind (R.bind (R.bind (R.bind (R.ok v7) fun x48 => R.bind (R.ok (PyData.int 3)) fun x49 => R.opt (pyEq x48 x49)) asB) fun t50 => if t50 then R.ok (PyData.str (PySem.Str.ofString "rest")) else R.ok (PyData.str (PySem.Str.ofString "back"))) fun x63 => R.bind (R.bind (R.bind (R.bind (R.ok a_script) fun x51 => R.bind (R.bind (R.bind (R.ok a_at) fun x55 => R.bind (R.ok (PyData.int 2)) fun x56 => R.opt (pyAdd x55 x56)) fun x53 => R.bind (R.bind (R.ok (PyData.int 3)) fun x57 => R.bind (R.ok []) fun x58 => R.ok (Slot.dat x57 :: x58)) fun x54 => R.ok (Slot.dat x53 :: x54)) fun x52 => R.ok (Slot.bor (Ob.lst x51) :: x52)) F__law_pick) fun x61 => R.bind (R.bind (R.ok v39) fun x59 => R.bind (R.ok []) fun x60 => R.ok (x59 :: x60)) fun x62 => R.ok (x61 :: x62)) fun x64 => R.ok (x63 :: x64)) fun x65 => R.ok (PyData.tuple x65)) fun x66 => R.ok (Out.rt x66)) outD
def F__law_term (k : Nat) : List Slot → R D
  | [.bor (.lst a_script), .dat a_at, .dat a_deep] => m__law_term k a_script a_at a_deep
  | _ => R.stuck
def m__law_rule (a_script : List D) (a_at : D) : R D := R.bind (R.bind (R.bind (R.bind (R.ok a_script) fun x1 => R.bind (R.bind (R.ok a_at) fun x3 => R.bind (R.bind (R.ok (PyData.int 8)) fun x5 => R.bind (R.ok []) fun x6 => R.ok (Slot.dat x5 :: x6)) fun x4 => R.ok (Slot.dat x3 :: x4)) fun x2 => R.ok (Slot.bor (Ob.lst x1) :: x2)) F__law_pick) fun v7 =>
 R.bind (R.bind (R.bind (R.bind (R.bind (R.bind (R.bind (R.bind (R.ok (PyData.int 1)) fun x16 => R.bind (R.bind (R.bind (R.ok a_script) fun x8 => R.bind (R.bind (R.bind (R.ok a_at) fun x12 => R.bind (R.ok (PyData.int 9)) fun x13 => R.opt (pyAdd x12 x13)) fun x10 => R.bind (R.bind (R.ok (PyData.int 4)) fun x14 => R.bind (R.ok []) fun x15 => R.ok (Slot.dat x14 :: x15)) fun x11 => R.ok (Slot.dat x10 :: x11)) fun x9 => R.ok (Slot.bor (Ob.lst x8) :: x9)) F__law_pick) fun x17 => R.opt (pyAdd x16 x17)) fun x18 => R.bind (R.ok []) fun x19 => R.ok (x18 :: x19)) rng1) (compD R.ok (fun _ => R.ok true) (fun d20 => R.bind (R.ok (PyData.int 1)) fun x32 => R.bind (R.bind (R.bind (R.ok a_script) fun x22 => R.bind (R.bind (R.bind (R.bind (R.ok a_at) fun x26 => R.bind (R.ok (PyData.int 1)) fun x27 => R.opt (pyAdd x26 x27)) fun x28 => R.bind (R.ok d20) fun x29 => R.opt (pyAdd x28 x29)) fun x24 => R.bind (R.bind (R.ok (PyData.int 2)) fun x30 => R.bind (R.ok []) fun x31 => R.ok (Slot.dat x30 :: x31)) fun x25 => R.ok (Slot.dat x24 :: x25)) fun x23 => R.ok (Slot.bor (Ob.lst x22) :: x23)) F__law_pick) fun x33 => R.opt (pyAdd x32 x33)))) lstD) asSeq) tupD) fun v34 =>
 R.bind (R.bind (R.bind (R.ok v7) fun x35 => R.bind (R.ok (PyData.int 5)) fun x36 => R.opt (pyLt x35 x36)) asB) fun t119 => if t119 then
 R.bind (R.bind (R.ok (PyData.tuple [PyData.tuple [PyData.int 1, PyData.int 1], PyData.int 0, PyData.tuple [PyData.tuple [PyData.str (PySem.Str.ofString "back"), PyData.int 0, PyData.tuple [PyData.str (PySem.Str.ofString "at"), PyData.int 1]], PyData.tuple [PyData.str (PySem.Str.ofString "back"), PyData.int 0, PyData.tuple [PyData.str (PySem.Str.ofString "at"), PyData.int 2]]]])) fun x37 => R.bind (R.ok []) fun x38 => R.ok (x37 :: x38)) fun l39 =>
 R.bind (R.ok (PyData.tuple [PyData.tuple [PyData.int 1, PyData.int 1], PyData.int 0, PyData.tuple [PyData.tuple [PyData.str (PySem.Str.ofString "back"), PyData.int 0, PyData.tuple [PyData.str (PySem.Str.ofString "at"), PyData.int 1]], PyData.tuple [PyData.str (PySem.Str.ofString "back"), PyData.int 1, PyData.tuple [PyData.str (PySem.Str.ofString "at"), PyData.int 2]]]])) fun d40 => if lineOk (List.length l39 + 1) then (fun l41 =>
 R.bind (R.ok (PyData.tuple [PyData.tuple [PyData.int 1, PyData.int 1], PyData.int 0, PyData.tuple [PyData.tuple [PyData.str (PySem.Str.ofString "of"), PyData.tuple [PyData.str (PySem.Str.ofString "at"), PyData.int 1]], PyData.tuple [PyData.str (PySem.Str.ofString "back"), PyData.int 0, PyData.tuple [PyData.str (PySem.Str.ofString "at"), PyData.int 1]]]])) fun d42 => if lineOk (List.length l41 + 1) then (fun l43 =>
 R.bind (R.ok (PyData.tuple [PyData.tuple [PyData.int 1], PyData.int 0, PyData.tuple [PyData.tuple [PyData.str (PySem.Str.ofString "rest"), PyData.int 0, PyData.tuple [PyData.str (PySem.Str.ofString "of"), PyData.tuple [PyData.str (PySem.Str.ofString "at"), PyData.int 1]]]]])) fun d44 => if lineOk (List.length l43 + 1) then (fun l45 =>
 R.bind (R.ok (PyData.tuple [PyData.tuple [PyData.int 1], PyData.int 1, PyData.tuple [PyData.tuple [PyData.str (PySem.Str.ofString "back"), PyData.int 0, PyData.tuple [PyData.str (PySem.Str.ofString "of"), PyData.tuple [PyData.str (PySem.Str.ofString "at"), PyData.int 1]]]]])) fun d46 => if lineOk (List.length l45 + 1) then (fun l47 =>
 R.bind (R.bind (R.ok l47) fun x48 => R.bind (R.ok v7) fun x49 => R.opt (pyIx (PyData.list x48) x49)) fun v50 =>
 R.bind (R.bind (R.bind (R.bind (R.bind (R.bind (R.ok a_script) fun x51 => R.bind (R.bind (R.bind (R.ok a_at) fun x55 => R.bind (R.ok (PyData.int 10)) fun x56 => R.opt (pyAdd x55 x56)) fun x53 => R.bind (R.bind (R.ok (PyData.int 3)) fun x57 => R.bind (R.ok []) fun x58 => R.ok (Slot.dat x57 :: x58)) fun x54 => R.ok (Slot.dat x53 :: x54)) fun x52 => R.ok (Slot.bor (Ob.lst x51) :: x52)) F__law_pick) fun x59 => R.bind (R.ok (PyData.int 0)) fun x60 => R.opt (pyGt x59 x60)) asB) fun t72 => if t72 then R.ok v50 else R.bind (R.bind (R.ok v34) fun x69 => R.bind (R.bind (R.bind (R.ok v50) fun x61 => R.bind (R.ok (PyData.int 1)) fun x62 => R.opt (pyIx x61 x62)) fun x67 => R.bind (R.bind (R.bind (R.ok v50) fun x63 => R.bind (R.ok (PyData.int 2)) fun x64 => R.opt (pyIx x63 x64)) fun x65 => R.bind (R.ok []) fun x66 => R.ok (x65 :: x66)) fun x68 => R.ok (x67 :: x68)) fun x70 => R.ok (x69 :: x70)) fun x71 => R.ok (PyData.tuple x71)) fun x73 => R.ok (Out.rt x73)) (l45 ++ [d46]) else R.stuck) (l43 ++ [d44]) else R.stuck) (l41 ++ [d42]) else R.stuck) (l39 ++ [d40]) else R.stuck
 else
 R.bind (R.bind (R.bind (R.bind (R.bind (R.bind (R.ok (PyData.int 1)) fun x82 => R.bind (R.bind (R.bind (R.ok a_script) fun x74 => R.bind (R.bind (R.bind (R.ok a_at) fun x78 => R.bind (R.ok (PyData.int 8)) fun x79 => R.opt (pyAdd x78 x79)) fun x76 => R.bind (R.bind (R.ok (PyData.int 2)) fun x80 => R.bind (R.ok []) fun x81 => R.ok (Slot.dat x80 :: x81)) fun x77 => R.ok (Slot.dat x76 :: x77)) fun x75 => R.ok (Slot.bor (Ob.lst x74) :: x75)) F__law_pick) fun x83 => R.opt (pyAdd x82 x83)) fun x84 => R.bind (R.ok []) fun x85 => R.ok (x84 :: x85)) rng1) (compD R.ok (fun _ => R.ok true) (fun d86 => R.bind (R.bind (R.ok a_script) fun x88 => R.bind (R.bind (R.bind (R.bind (R.ok a_at) fun x92 => R.bind (R.ok (PyData.int 11)) fun x93 => R.opt (pyAdd x92 x93)) fun x96 => R.bind (R.bind (R.ok (PyData.int 10)) fun x94 => R.bind (R.ok d86) fun x95 => R.opt (pyMul x94 x95)) fun x97 => R.opt (pyAdd x96 x97)) fun x90 => R.bind (R.bind (R.ok (PyData.int 3)) fun x98 => R.bind (R.ok []) fun x99 => R.ok (Slot.dat x98 :: x99)) fun x91 => R.ok (Slot.dat x90 :: x91)) fun x89 => R.ok (Slot.bor (Ob.lst x88) :: x89)) (F__law_term 14)))) lstD) fun v100 =>
 R.bind (R.bind (R.bind (R.ok v34) fun x115 => R.bind (R.bind (R.bind (R.bind (R.bind (R.ok a_script) fun x101 => R.bind (R.bind (R.bind (R.ok a_at) fun x105 => R.bind (R.ok (PyData.int 7)) fun x106 => R.opt (pyAdd x105 x106)) fun x103 => R.bind (R.bind (R.ok (PyData.int 4)) fun x107 => R.bind (R.ok []) fun x108 => R.ok (Slot.dat x107 :: x108)) fun x104 => R.ok (Slot.dat x103 :: x104)) fun x102 => R.ok (Slot.bor (Ob.lst x101) :: x102)) F__law_pick) fun x109 => R.bind (R.ok (PyData.int 3)) fun x110 => R.opt (pyDiv x109 x110)) fun x113 => R.bind (R.bind (R.bind (R.bind (R.ok v100) asSeq) tupD) fun x111 => R.bind (R.ok []) fun x112 => R.ok (x111 :: x112)) fun x114 => R.ok (x113 :: x114)) fun x116 => R.ok (x115 :: x116)) fun x117 => R.ok (PyData.tuple x117)) fun x118 => R.ok (Out.rt x118)) outD
def F__law_rule : List Slot → R D
  | [.bor (.lst a_script), .dat a_at] => m__law_rule a_script a_at
  | _ => R.stuck
def m__law_places : Nat → D → R D
  | 0, _ => R.stuck
  | k + 1, a_thing => R.bind (R.bind (R.bind (R.ok (PyData.tuple [])) fun x1 => R.bind (R.ok []) fun x2 => R.ok (x1 :: x2)) fun l3 =>
 R.bind (R.bind (R.bind (R.ok a_thing) fun x4 => R.ok (PyData.bool (isTy Ty5.tuple x4))) asB) fun t31 => R.bind (if t31 then
 R.bind (R.bind (R.bind (R.bind (R.bind (R.ok a_thing) fun x6 => R.bind (R.ok []) fun x7 => R.ok (x6 :: x7)) fun x8 => R.opt (pyLen x8)) fun x9 => R.bind (R.ok []) fun x10 => R.ok (x9 :: x10)) rng1) fun ds29 => R.bind (forM (fun (z13 : List D) (d14 : D) =>
 R.bind (R.bind (R.bind (R.bind (R.bind (R.bind (R.bind (R.bind (R.ok a_thing) fun x17 => R.bind (R.ok d14) fun x18 => R.opt (pyIx x17 x18)) fun x15 => R.bind (R.ok []) fun x16 => R.ok (Slot.dat x15 :: x16)) (fun ss => match ss with | [.dat a_thing] => m__law_places k a_thing | _ => R.stuck)) asSeq) (compD R.ok (fun _ => R.ok true) (fun d19 => R.bind (R.bind (R.bind (R.ok d14) fun x21 => R.bind (R.ok []) fun x22 => R.ok (x21 :: x22)) fun x23 => R.ok (PyData.tuple x23)) fun x24 => R.bind (R.ok d19) fun x25 => R.opt (pyAdd x24 x25)))) lstD) asLst) fun d26 => if lineOk (List.length z13 + List.length d26) then (fun l27 =>
 R.ok (Out.nx l27)) (z13 ++ d26) else R.stuck) ds29 l3) (Out.cont fun (z28 : List D) =>
 R.ok (Out.nx z28))
 else
 R.ok (Out.nx l3)) (Out.meet fun (z30 : List D) =>
 R.ok (Out.rt (PyData.list z30)))) outD
def F__law_places (k : Nat) : List Slot → R D
  | [.dat a_thing] => m__law_places k a_thing
  | _ => R.stuck
def m__law_put : Nat → D → D → D → R D
  | 0, _, _, _ => R.stuck
  | k + 1, a_thing, a_place, a_new => R.bind (R.bind (R.bind (R.bind (R.ok a_place) fun x1 => R.bind (R.ok (PyData.tuple [])) fun x2 => R.opt (pyEq x1 x2)) asB) fun t34 => if t34 then
 R.bind (R.ok a_new) fun x3 => R.ok (Out.rt x3)
 else
 R.bind (R.bind (R.ok a_place) fun x4 => R.bind (R.ok (PyData.int 0)) fun x5 => R.opt (pyIx x4 x5)) fun v6 =>
 R.bind (R.bind (R.bind (R.bind (R.ok a_thing) fun x7 => R.bind (R.ok none) fun x8 => R.bind (R.bind (R.ok v6) asI) fun x9 => R.opt (pySl x7 x8 x9)) fun x24 => R.bind (R.bind (R.bind (R.bind (R.bind (R.bind (R.ok a_thing) fun x12 => R.bind (R.ok v6) fun x13 => R.opt (pyIx x12 x13)) fun x10 => R.bind (R.bind (R.bind (R.ok a_place) fun x16 => R.bind (R.bind (R.ok (PyData.int 1)) asI) fun x17 => R.bind (R.ok none) fun x18 => R.opt (pySl x16 x17 x18)) fun x14 => R.bind (R.bind (R.ok a_new) fun x19 => R.bind (R.ok []) fun x20 => R.ok (Slot.dat x19 :: x20)) fun x15 => R.ok (Slot.dat x14 :: x15)) fun x11 => R.ok (Slot.dat x10 :: x11)) (fun ss => match ss with | [.dat a_thing, .dat a_place, .dat a_new] => m__law_put k a_thing a_place a_new | _ => R.stuck)) fun x21 => R.bind (R.ok []) fun x22 => R.ok (x21 :: x22)) fun x23 => R.ok (PyData.tuple x23)) fun x25 => R.opt (pyAdd x24 x25)) fun x31 => R.bind (R.bind (R.ok a_thing) fun x28 => R.bind (R.bind (R.bind (R.ok v6) fun x26 => R.bind (R.ok (PyData.int 1)) fun x27 => R.opt (pyAdd x26 x27)) asI) fun x29 => R.bind (R.ok none) fun x30 => R.opt (pySl x28 x29 x30)) fun x32 => R.opt (pyAdd x31 x32)) fun x33 => R.ok (Out.rt x33)) outD
def F__law_put (k : Nat) : List Slot → R D
  | [.dat a_thing, .dat a_place, .dat a_new] => m__law_put k a_thing a_place a_new
  | _ => R.stuck
def m__law_spoilt_thing (a_script : List D) (a_at : D) (a_thing : D) : R D := R.bind (R.bind (R.bind (R.bind (R.ok a_thing) fun x1 => R.bind (R.ok []) fun x2 => R.ok (Slot.dat x1 :: x2)) (F__law_places 14)) fun v3 =>
 R.bind (R.bind (R.ok v3) fun x13 => R.bind (R.bind (R.bind (R.ok a_script) fun x4 => R.bind (R.bind (R.ok a_at) fun x6 => R.bind (R.bind (R.bind (R.bind (R.ok v3) fun x10 => R.bind (R.ok []) fun x11 => R.ok (x10 :: x11)) fun x12 => R.opt (pyLen x12)) fun x8 => R.bind (R.ok []) fun x9 => R.ok (Slot.dat x8 :: x9)) fun x7 => R.ok (Slot.dat x6 :: x7)) fun x5 => R.ok (Slot.bor (Ob.lst x4) :: x5)) F__law_pick) fun x14 => R.opt (pyIx x13 x14)) fun v15 =>
 R.bind (R.ok a_thing) fun v16 =>
 R.bind (R.bind (R.ok v15) asSeq) fun ds150 => R.bind (forM (fun (z19 : D) (d20 : D) =>
 R.bind (R.bind (R.ok z19) fun x21 => R.bind (R.ok d20) fun x22 => R.opt (pyIx x21 x22)) fun v23 =>
 R.ok (Out.nx v23)) ds150 v16) (Out.cont fun (z24 : D) =>
 R.bind (R.bind (R.bind (R.ok (PyData.int 0)) fun x68 => R.bind (R.bind (R.ok (PyData.int 1)) fun x66 => R.bind (R.bind (R.ok (PyData.int 5)) fun x64 => R.bind (R.bind (R.ok (PyData.int 6)) fun x62 => R.bind (R.bind (R.ok (PyData.int 9)) fun x60 => R.bind (R.bind (R.ok (PyData.int 10)) fun x58 => R.bind (R.bind (R.bind (R.ok (PyData.int 1)) fun x25 => R.opt (pyNeg x25)) fun x56 => R.bind (R.bind (R.ok (PyData.bool true)) fun x54 => R.bind (R.bind (R.ok PyData.none) fun x52 => R.bind (R.bind (R.ok (PyData.str (PySem.Str.ofString "at"))) fun x50 => R.bind (R.bind (R.ok (PyData.tuple [PyData.str (PySem.Str.ofString "at"), PyData.int 1])) fun x48 => R.bind (R.bind (R.ok (PyData.tuple [])) fun x46 => R.bind (R.bind (R.ok (PyData.tuple [PyData.int 1])) fun x44 => R.bind (R.bind (R.ok (PyData.tuple [PyData.str (PySem.Str.ofString "at"), PyData.int 0])) fun x42 => R.bind (R.bind (R.bind (R.bind (R.ok (PyData.int 0)) fun x26 => R.bind (R.ok []) fun x27 => R.ok (x26 :: x27)) lstD) fun x40 => R.bind (R.bind (R.bind (R.bind (R.ok z24) fun x28 => R.bind (R.ok []) fun x29 => R.ok (x28 :: x29)) fun x30 => R.ok (PyData.tuple x30)) fun x38 => R.bind (R.bind (R.bind (R.bind (R.ok z24) fun x33 => R.bind (R.bind (R.ok z24) fun x31 => R.bind (R.ok []) fun x32 => R.ok (x31 :: x32)) fun x34 => R.ok (x33 :: x34)) fun x35 => R.ok (PyData.tuple x35)) fun x36 => R.bind (R.ok []) fun x37 => R.ok (x36 :: x37)) fun x39 => R.ok (x38 :: x39)) fun x41 => R.ok (x40 :: x41)) fun x43 => R.ok (x42 :: x43)) fun x45 => R.ok (x44 :: x45)) fun x47 => R.ok (x46 :: x47)) fun x49 => R.ok (x48 :: x49)) fun x51 => R.ok (x50 :: x51)) fun x53 => R.ok (x52 :: x53)) fun x55 => R.ok (x54 :: x55)) fun x57 => R.ok (x56 :: x57)) fun x59 => R.ok (x58 :: x59)) fun x61 => R.ok (x60 :: x61)) fun x63 => R.ok (x62 :: x63)) fun x65 => R.ok (x64 :: x65)) fun x67 => R.ok (x66 :: x67)) fun x69 => R.ok (x68 :: x69)) lstD) fun v70 =>
 R.bind (R.bind (R.bind (R.ok a_script) fun x71 => R.bind (R.bind (R.bind (R.ok a_at) fun x75 => R.bind (R.ok (PyData.int 1)) fun x76 => R.opt (pyAdd x75 x76)) fun x73 => R.bind (R.bind (R.ok (PyData.int 23)) fun x77 => R.bind (R.ok []) fun x78 => R.ok (Slot.dat x77 :: x78)) fun x74 => R.ok (Slot.dat x73 :: x74)) fun x72 => R.ok (Slot.bor (Ob.lst x71) :: x72)) F__law_pick) fun v79 =>
 R.bind (R.bind (R.bind (R.ok v79) fun x80 => R.bind (R.ok (PyData.int 17)) fun x81 => R.opt (pyLt x80 x81)) asB) fun t149 => if t149 then
 R.bind (R.bind (R.bind (R.ok a_thing) fun x82 => R.bind (R.bind (R.ok v15) fun x84 => R.bind (R.bind (R.bind (R.ok v70) fun x88 => R.bind (R.ok v79) fun x89 => R.opt (pyIx x88 x89)) fun x86 => R.bind (R.ok []) fun x87 => R.ok (Slot.dat x86 :: x87)) fun x85 => R.ok (Slot.dat x84 :: x85)) fun x83 => R.ok (Slot.dat x82 :: x83)) (F__law_put 14)) fun x90 => R.ok (Out.rt x90)
 else
 R.bind (R.bind (R.bind (R.bind (R.ok z24) fun x91 => R.ok (PyData.bool (isTy Ty5.tuple x91))) asB) fun t94 => if t94 then R.bind (R.bind (R.ok z24) fun x92 => R.bind (R.ok (PyData.tuple [])) fun x93 => R.opt (pyNe x92 x93)) asB else R.ok false) fun t148 => if t148 then
 R.bind (R.bind (R.bind (R.ok a_script) fun x95 => R.bind (R.bind (R.bind (R.ok a_at) fun x99 => R.bind (R.ok (PyData.int 2)) fun x100 => R.opt (pyAdd x99 x100)) fun x97 => R.bind (R.bind (R.bind (R.bind (R.ok z24) fun x103 => R.bind (R.ok []) fun x104 => R.ok (x103 :: x104)) fun x105 => R.opt (pyLen x105)) fun x101 => R.bind (R.ok []) fun x102 => R.ok (Slot.dat x101 :: x102)) fun x98 => R.ok (Slot.dat x97 :: x98)) fun x96 => R.ok (Slot.bor (Ob.lst x95) :: x96)) F__law_pick) fun v106 =>
 R.bind (R.bind (R.bind (R.ok a_thing) fun x107 => R.bind (R.bind (R.ok v15) fun x109 => R.bind (R.bind (R.bind (R.bind (R.bind (R.ok v79) fun x113 => R.bind (R.ok (PyData.int 20)) fun x114 => R.opt (pyLt x113 x114)) asB) fun t135 => if t135 then R.bind (R.bind (R.ok z24) fun x115 => R.bind (R.ok none) fun x116 => R.bind (R.bind (R.ok v106) asI) fun x117 => R.opt (pySl x115 x116 x117)) fun x123 => R.bind (R.bind (R.ok z24) fun x120 => R.bind (R.bind (R.bind (R.ok v106) fun x118 => R.bind (R.ok (PyData.int 1)) fun x119 => R.opt (pyAdd x118 x119)) asI) fun x121 => R.bind (R.ok none) fun x122 => R.opt (pySl x120 x121 x122)) fun x124 => R.opt (pyAdd x123 x124) else R.bind (R.bind (R.ok z24) fun x127 => R.bind (R.ok none) fun x128 => R.bind (R.bind (R.bind (R.ok v106) fun x125 => R.bind (R.ok (PyData.int 1)) fun x126 => R.opt (pyAdd x125 x126)) asI) fun x129 => R.opt (pySl x127 x128 x129)) fun x133 => R.bind (R.bind (R.ok z24) fun x130 => R.bind (R.bind (R.ok v106) asI) fun x131 => R.bind (R.ok none) fun x132 => R.opt (pySl x130 x131 x132)) fun x134 => R.opt (pyAdd x133 x134)) fun x111 => R.bind (R.ok []) fun x112 => R.ok (Slot.dat x111 :: x112)) fun x110 => R.ok (Slot.dat x109 :: x110)) fun x108 => R.ok (Slot.dat x107 :: x108)) (F__law_put 14)) fun x136 => R.ok (Out.rt x136)
 else
 R.bind (R.bind (R.bind (R.ok a_thing) fun x137 => R.bind (R.bind (R.ok v15) fun x139 => R.bind (R.bind (R.bind (R.bind (R.bind (R.ok z24) fun x143 => R.ok (PyData.bool (isTy Ty5.int x143))) asB) fun t146 => if t146 then R.bind (R.ok (PyData.int 0)) fun x144 => R.bind (R.ok z24) fun x145 => R.opt (pySub x144 x145) else R.ok (PyData.int 7)) fun x141 => R.bind (R.ok []) fun x142 => R.ok (Slot.dat x141 :: x142)) fun x140 => R.ok (Slot.dat x139 :: x140)) fun x138 => R.ok (Slot.dat x137 :: x138)) (F__law_put 14)) fun x147 => R.ok (Out.rt x147))) outD
def F__law_spoilt_thing : List Slot → R D
  | [.bor (.lst a_script), .dat a_at, .dat a_thing] => m__law_spoilt_thing a_script a_at a_thing
  | _ => R.stuck
def m__law_whole (a_thing : D) (a_low : D) (a_high : D) : R D := R.bind (R.bind (R.bind (R.bind (R.ok a_thing) fun x1 => R.ok (PyData.bool (isTy Ty5.int x1))) fun x12 => R.bind (asB x12) fun t13 => if t13 then R.bind (R.bind (R.bind (R.ok a_thing) fun x2 => R.ok (PyData.bool (isTy Ty5.bool x2))) fun x3 => R.bind (asB x3) fun t4 => R.ok (PyData.bool !t4)) fun x10 => R.bind (asB x10) fun t11 => if t11 then R.bind (R.ok a_low) fun x5 => R.bind (R.ok a_thing) fun x6 => R.bind (R.opt (pyLe x5 x6)) fun x7 => R.bind (asB x7) fun x8 => if x8 then R.bind (R.ok a_high) fun x9 => R.opt (pyLe x6 x9) else R.ok (PyData.bool false) else R.ok (PyData.bool false) else R.ok (PyData.bool false)) fun x14 => R.ok (Out.rt x14)) outD
def F__law_whole : List Slot → R D
  | [.dat a_thing, .dat a_low, .dat a_high] => m__law_whole a_thing a_low a_high
  | _ => R.stuck
def m__law_is_term : Nat → D → D → R D
  | 0, _, _ => R.stuck
  | k + 1, a_thing, a_deep => R.bind (R.bind (R.bind (R.bind (R.bind (R.ok a_deep) fun x1 => R.bind (R.ok (PyData.int 1)) fun x2 => R.opt (pyLt x1 x2)) asB) fun t16 => if t16 then R.ok true else R.bind (R.bind (R.bind (R.bind (R.ok a_thing) fun x3 => R.ok (PyData.bool (isTy Ty5.tuple x3))) asB) fun t4 => R.ok (!t4)) fun t15 => if t15 then R.ok true else R.bind (R.bind (R.bind (R.bind (R.bind (R.ok a_thing) fun x5 => R.bind (R.ok []) fun x6 => R.ok (x5 :: x6)) fun x7 => R.opt (pyLen x7)) fun x8 => R.bind (R.ok (PyData.int 2)) fun x9 => R.opt (pyLt x8 x9)) asB) fun t14 => if t14 then R.ok true else R.bind (R.bind (R.bind (R.bind (R.ok a_thing) fun x10 => R.bind (R.ok (PyData.int 0)) fun x11 => R.opt (pyIx x10 x11)) fun x12 => R.ok (PyData.bool (isTy Ty5.str x12))) asB) fun t13 => R.ok (!t13)) fun t91 => if t91 then
 R.bind (R.ok (PyData.bool false)) fun x17 => R.ok (Out.rt x17)
 else
 R.bind (R.bind (R.bind (R.bind (R.ok a_thing) fun x18 => R.bind (R.ok (PyData.int 0)) fun x19 => R.opt (pyIx x18 x19)) fun x20 => R.bind (R.ok (PyData.str (PySem.Str.ofString "at"))) fun x21 => R.opt (pyEq x20 x21)) asB) fun t90 => if t90 then
 R.bind (R.bind (R.bind (R.bind (R.bind (R.ok a_thing) fun x22 => R.bind (R.ok []) fun x23 => R.ok (x22 :: x23)) fun x24 => R.opt (pyLen x24)) fun x25 => R.bind (R.ok (PyData.int 2)) fun x26 => R.opt (pyEq x25 x26)) fun x35 => R.bind (asB x35) fun t36 => if t36 then R.bind (R.bind (R.bind (R.ok a_thing) fun x29 => R.bind (R.ok (PyData.int 1)) fun x30 => R.opt (pyIx x29 x30)) fun x27 => R.bind (R.bind (R.ok (PyData.int 1)) fun x31 => R.bind (R.bind (R.ok (PyData.int 5)) fun x33 => R.bind (R.ok []) fun x34 => R.ok (Slot.dat x33 :: x34)) fun x32 => R.ok (Slot.dat x31 :: x32)) fun x28 => R.ok (Slot.dat x27 :: x28)) F__law_whole else R.ok (PyData.bool false)) fun x37 => R.ok (Out.rt x37)
 else
 R.bind (R.bind (R.bind (R.bind (R.ok a_thing) fun x38 => R.bind (R.ok (PyData.int 0)) fun x39 => R.opt (pyIx x38 x39)) fun x40 => R.bind (R.ok (PyData.str (PySem.Str.ofString "of"))) fun x41 => R.opt (pyEq x40 x41)) asB) fun t89 => if t89 then
 R.bind (R.bind (R.bind (R.bind (R.bind (R.ok a_thing) fun x42 => R.bind (R.ok []) fun x43 => R.ok (x42 :: x43)) fun x44 => R.opt (pyLen x44)) fun x45 => R.bind (R.ok (PyData.int 2)) fun x46 => R.opt (pyEq x45 x46)) fun x55 => R.bind (asB x55) fun t56 => if t56 then R.bind (R.bind (R.bind (R.ok a_thing) fun x49 => R.bind (R.ok (PyData.int 1)) fun x50 => R.opt (pyIx x49 x50)) fun x47 => R.bind (R.bind (R.bind (R.ok a_deep) fun x53 => R.bind (R.ok (PyData.int 1)) fun x54 => R.opt (pySub x53 x54)) fun x51 => R.bind (R.ok []) fun x52 => R.ok (Slot.dat x51 :: x52)) fun x48 => R.ok (Slot.dat x47 :: x48)) (fun ss => match ss with | [.dat a_thing, .dat a_deep] => m__law_is_term k a_thing a_deep | _ => R.stuck) else R.ok (PyData.bool false)) fun x57 => R.ok (Out.rt x57)
 else
 R.bind (R.bind (R.bind (R.bind (R.bind (R.ok a_thing) fun x58 => R.bind (R.ok (PyData.int 0)) fun x59 => R.opt (pyIx x58 x59)) fun x60 => R.bind (R.ok (PyData.tuple [PyData.str (PySem.Str.ofString "back"), PyData.str (PySem.Str.ofString "rest")])) fun x61 => R.opt (pyIn true x60 x61)) asB) fun t67 => if t67 then R.ok true else R.bind (R.bind (R.bind (R.bind (R.ok a_thing) fun x62 => R.bind (R.ok []) fun x63 => R.ok (x62 :: x63)) fun x64 => R.opt (pyLen x64)) fun x65 => R.bind (R.ok (PyData.int 3)) fun x66 => R.opt (pyNe x65 x66)) asB) fun t88 => if t88 then
 R.bind (R.ok (PyData.bool false)) fun x68 => R.ok (Out.rt x68)
 else
 R.bind (R.bind (R.bind (R.bind (R.bind (R.ok a_thing) fun x71 => R.bind (R.ok (PyData.int 1)) fun x72 => R.opt (pyIx x71 x72)) fun x69 => R.bind (R.bind (R.ok (PyData.int 0)) fun x73 => R.bind (R.bind (R.ok (PyData.int 5)) fun x75 => R.bind (R.ok []) fun x76 => R.ok (Slot.dat x75 :: x76)) fun x74 => R.ok (Slot.dat x73 :: x74)) fun x70 => R.ok (Slot.dat x69 :: x70)) F__law_whole) fun x85 => R.bind (asB x85) fun t86 => if t86 then R.bind (R.bind (R.bind (R.ok a_thing) fun x79 => R.bind (R.ok (PyData.int 2)) fun x80 => R.opt (pyIx x79 x80)) fun x77 => R.bind (R.bind (R.bind (R.ok a_deep) fun x83 => R.bind (R.ok (PyData.int 1)) fun x84 => R.opt (pySub x83 x84)) fun x81 => R.bind (R.ok []) fun x82 => R.ok (Slot.dat x81 :: x82)) fun x78 => R.ok (Slot.dat x77 :: x78)) (fun ss => match ss with | [.dat a_thing, .dat a_deep] => m__law_is_term k a_thing a_deep | _ => R.stuck) else R.ok (PyData.bool false)) fun x87 => R.ok (Out.rt x87)) outD
def F__law_is_term (k : Nat) : List Slot → R D
  | [.dat a_thing, .dat a_deep] => m__law_is_term k a_thing a_deep
  | _ => R.stuck
def m__law_is_rule (a_thing : D) : R D := R.bind (R.bind (R.bind (R.bind (R.bind (R.bind (R.ok a_thing) fun x1 => R.ok (PyData.bool (isTy Ty5.tuple x1))) asB) fun t2 => R.ok (!t2)) fun t13 => if t13 then R.ok true else R.bind (R.bind (R.bind (R.bind (R.bind (R.ok a_thing) fun x3 => R.bind (R.ok []) fun x4 => R.ok (x3 :: x4)) fun x5 => R.opt (pyLen x5)) fun x6 => R.bind (R.ok (PyData.int 3)) fun x7 => R.opt (pyNe x6 x7)) asB) fun t12 => if t12 then R.ok true else R.bind (R.bind (R.bind (R.bind (R.ok a_thing) fun x8 => R.bind (R.ok (PyData.int 0)) fun x9 => R.opt (pyIx x8 x9)) fun x10 => R.ok (PyData.bool (isTy Ty5.tuple x10))) asB) fun t11 => R.ok (!t11)) fun t82 => if t82 then
 R.bind (R.ok (PyData.bool false)) fun x14 => R.ok (Out.rt x14)
 else
 R.bind (R.bind (R.bind (R.bind (R.bind (R.ok (PyData.int 1)) fun x20 => R.bind (R.bind (R.bind (R.bind (R.ok a_thing) fun x15 => R.bind (R.ok (PyData.int 0)) fun x16 => R.opt (pyIx x15 x16)) fun x17 => R.bind (R.ok []) fun x18 => R.ok (x17 :: x18)) fun x19 => R.opt (pyLen x19)) fun x21 => R.bind (R.opt (pyLe x20 x21)) fun x22 => R.bind (asB x22) fun x23 => if x23 then R.bind (R.ok (PyData.int 6)) fun x24 => R.opt (pyLe x21 x24) else R.ok (PyData.bool false)) asB) fun t25 => R.ok (!t25)) fun t39 => if t39 then R.ok true else R.bind (R.bind (R.bind (R.bind (R.bind (R.bind (R.ok a_thing) fun x26 => R.bind (R.ok (PyData.int 0)) fun x27 => R.opt (pyIx x26 x27)) asSeq) (compD R.ok (fun d28 => R.bind (R.bind (R.bind (R.bind (R.ok d28) fun x30 => R.bind (R.bind (R.ok (PyData.int 0)) fun x32 => R.bind (R.bind (R.ok (PyData.int 9)) fun x34 => R.bind (R.ok []) fun x35 => R.ok (Slot.dat x34 :: x35)) fun x33 => R.ok (Slot.dat x32 :: x33)) fun x31 => R.ok (Slot.dat x30 :: x31)) F__law_whole) asB) fun t36 => R.ok (!t36)) (fun d28 => R.ok d28))) lstD) fun x37 => R.bind (R.bind (R.ok []) lstD) fun x38 => R.opt (pyNe x37 x38)) asB) fun t81 => if t81 then
 R.bind (R.ok (PyData.bool false)) fun x40 => R.ok (Out.rt x40)
 else
 R.bind (R.bind (R.bind (R.bind (R.bind (R.bind (R.bind (R.ok a_thing) fun x43 => R.bind (R.ok (PyData.int 1)) fun x44 => R.opt (pyIx x43 x44)) fun x41 => R.bind (R.bind (R.ok (PyData.int 0)) fun x45 => R.bind (R.bind (R.ok (PyData.int 9)) fun x47 => R.bind (R.ok []) fun x48 => R.ok (Slot.dat x47 :: x48)) fun x46 => R.ok (Slot.dat x45 :: x46)) fun x42 => R.ok (Slot.dat x41 :: x42)) F__law_whole) asB) fun t49 => R.ok (!t49)) fun t66 => if t66 then R.ok true else R.bind (R.bind (R.bind (R.bind (R.bind (R.ok a_thing) fun x50 => R.bind (R.ok (PyData.int 2)) fun x51 => R.opt (pyIx x50 x51)) fun x52 => R.ok (PyData.bool (isTy Ty5.tuple x52))) asB) fun t53 => R.ok (!t53)) fun t65 => if t65 then R.ok true else R.bind (R.bind (R.bind (R.ok (PyData.int 1)) fun x59 => R.bind (R.bind (R.bind (R.bind (R.ok a_thing) fun x54 => R.bind (R.ok (PyData.int 2)) fun x55 => R.opt (pyIx x54 x55)) fun x56 => R.bind (R.ok []) fun x57 => R.ok (x56 :: x57)) fun x58 => R.opt (pyLen x58)) fun x60 => R.bind (R.opt (pyLe x59 x60)) fun x61 => R.bind (asB x61) fun x62 => if x62 then R.bind (R.ok (PyData.int 3)) fun x63 => R.opt (pyLe x60 x63) else R.ok (PyData.bool false)) asB) fun t64 => R.ok (!t64)) fun t80 => if t80 then
 R.bind (R.ok (PyData.bool false)) fun x67 => R.ok (Out.rt x67)
 else
 R.bind (R.bind (R.bind (R.bind (R.bind (R.bind (R.ok a_thing) fun x68 => R.bind (R.ok (PyData.int 2)) fun x69 => R.opt (pyIx x68 x69)) asSeq) (compD R.ok (fun d70 => R.bind (R.bind (R.bind (R.bind (R.ok d70) fun x72 => R.bind (R.bind (R.ok (PyData.int 3)) fun x74 => R.bind (R.ok []) fun x75 => R.ok (Slot.dat x74 :: x75)) fun x73 => R.ok (Slot.dat x72 :: x73)) (F__law_is_term 14)) asB) fun t76 => R.ok (!t76)) (fun d70 => R.ok d70))) lstD) fun x77 => R.bind (R.bind (R.ok []) lstD) fun x78 => R.opt (pyEq x77 x78)) fun x79 => R.ok (Out.rt x79)) outD
def F__law_is_rule : List Slot → R D
  | [.dat a_thing] => m__law_is_rule a_thing
  | _ => R.stuck
def W__law_word : XC → Option Str
  | .noRule => some (PySem.Str.ofString "no rule")
  | .noNumber => some (PySem.Str.ofString "no number")
  | .ended => some (PySem.Str.ofString "ended")
  | .noText => some (PySem.Str.ofString "no text")
  | _ => none
def m_number_at (a_rule : D) (a_place : D) : R D := R.bind (R.bind (R.bind (R.bind (R.ok a_rule) fun x1 => R.bind (R.ok []) fun x2 => R.ok (Slot.dat x1 :: x2)) F_look_rule) fun _ =>
 R.bind (R.bind (R.bind (R.ok a_place) fun x3 => R.bind (R.ok []) fun x4 => R.ok (Slot.dat x3 :: x4)) F_look_many) fun _ =>
 R.bind (R.bind (R.bind (R.ok a_rule) fun x5 => R.bind (R.bind (R.ok a_place) fun x7 => R.bind (R.ok []) fun x8 => R.ok (Slot.dat x7 :: x8)) fun x6 => R.ok (Slot.dat x5 :: x6)) F_row_of) fun v9 =>
 R.bind (R.bind (R.bind (R.bind (R.bind (R.ok v9) fun x10 => R.bind (R.ok []) fun x11 => R.ok (x10 :: x11)) fun x12 => R.opt (pyLen x12)) fun x13 => R.bind (R.ok a_place) fun x14 => R.opt (pyLt x13 x14)) asB) fun t20 => if t20 then
 R.exc XC.ended
 else
 R.bind (R.bind (R.ok v9) fun x17 => R.bind (R.bind (R.ok a_place) fun x15 => R.bind (R.ok (PyData.int 1)) fun x16 => R.opt (pySub x15 x16)) fun x18 => R.opt (pyIx x17 x18)) fun x19 => R.ok (Out.rt x19)) outD
def F_number_at : List Slot → R D
  | [.dat a_rule, .dat a_place] => m_number_at a_rule a_place
  | _ => R.stuck
def m_end_of (a_rule : D) (a_many : D) : R D := R.bind (R.bind (R.bind (R.bind (R.ok a_rule) fun x1 => R.bind (R.bind (R.ok a_many) fun x3 => R.bind (R.ok []) fun x4 => R.ok (Slot.dat x3 :: x4)) fun x2 => R.ok (Slot.dat x1 :: x2)) F_numbers) fun v5 =>
 R.bind (R.bind (R.bind (R.bind (R.bind (R.bind (R.ok v5) fun x6 => R.bind (R.ok []) fun x7 => R.ok (x6 :: x7)) fun x8 => R.opt (pyLen x8)) fun x9 => R.bind (R.ok a_many) fun x10 => R.opt (pyLt x9 x10)) asB) fun t14 => if t14 then R.bind (R.bind (R.ok v5) fun x11 => R.bind (R.ok []) fun x12 => R.ok (x11 :: x12)) fun x13 => R.opt (pyLen x13) else R.ok PyData.none) fun x15 => R.ok (Out.rt x15)) outD
def F_end_of : List Slot → R D
  | [.dat a_rule, .dat a_many] => m_end_of a_rule a_many
  | _ => R.stuck
def m_looks (a_rule : D) (a_place : D) : R D := R.bind (R.bind (R.bind (R.bind (R.ok a_rule) fun x1 => R.bind (R.bind (R.ok a_place) fun x3 => R.bind (R.ok []) fun x4 => R.ok (Slot.dat x3 :: x4)) fun x2 => R.ok (Slot.dat x1 :: x2)) F_number_at) fun _ =>
 R.bind (R.bind (R.bind (R.ok a_place) fun x10 => R.bind (R.bind (R.bind (R.bind (R.ok a_rule) fun x5 => R.bind (R.ok (PyData.int 0)) fun x6 => R.opt (pyIx x5 x6)) fun x7 => R.bind (R.ok []) fun x8 => R.ok (x7 :: x8)) fun x9 => R.opt (pyLen x9)) fun x11 => R.opt (pyLe x10 x11)) asB) fun t29 => if t29 then
 R.bind (R.bind (R.ok []) lstD) fun x12 => R.ok (Out.rt x12)
 else
 R.bind (R.bind (R.bind (R.ok a_rule) fun x13 => R.bind (R.bind (R.bind (R.ok a_place) fun x17 => R.bind (R.ok (PyData.int 1)) fun x18 => R.opt (pySub x17 x18)) fun x15 => R.bind (R.ok []) fun x16 => R.ok (Slot.dat x15 :: x16)) fun x14 => R.ok (Slot.dat x13 :: x14)) F_row_of) fun v19 =>
 R.bind (R.bind (R.bind (R.bind (R.bind (R.ok a_rule) fun x20 => R.bind (R.ok (PyData.int 2)) fun x21 => R.opt (pyIx x20 x21)) asSeq) (compD R.ok (fun _ => R.ok true) (fun d22 => R.bind (R.bind (R.ok d22) fun x24 => R.bind (R.bind (R.bind (R.ok v19) asLst) fun x26 => R.bind (R.ok []) fun x27 => R.ok (Slot.bor (Ob.lst x26) :: x27)) fun x25 => R.ok (Slot.dat x24 :: x25)) (F_place_of 14)))) lstD) fun x28 => R.ok (Out.rt x28)) outD
def F_looks : List Slot → R D
  | [.dat a_rule, .dat a_place] => m_looks a_rule a_place
  | _ => R.stuck
def m_why_ends (a_rule : D) (a_many : D) : R D := R.bind (R.bind (R.bind (R.bind (R.ok a_rule) fun x1 => R.bind (R.bind (R.ok a_many) fun x3 => R.bind (R.ok []) fun x4 => R.ok (Slot.dat x3 :: x4)) fun x2 => R.ok (Slot.dat x1 :: x2)) F_numbers) fun v5 =>
 R.bind (R.bind (R.bind (R.bind (R.bind (R.ok v5) fun x6 => R.bind (R.ok []) fun x7 => R.ok (x6 :: x7)) fun x8 => R.opt (pyLen x8)) fun x9 => R.bind (R.ok a_many) fun x10 => R.opt (pyEq x9 x10)) asB) fun t35 => if t35 then
 R.bind (R.ok PyData.none) fun x11 => R.ok (Out.rt x11)
 else
 R.bind (R.bind (R.bind (R.bind (R.bind (R.bind (R.ok v5) fun x12 => R.bind (R.ok []) fun x13 => R.ok (x12 :: x13)) fun x14 => R.opt (pyLen x14)) fun x15 => R.bind (R.ok (PyData.int 1)) fun x16 => R.opt (pyAdd x15 x16)) fun x31 => R.bind (R.bind (R.bind (R.bind (R.bind (R.bind (R.bind (R.bind (R.ok a_rule) fun x17 => R.bind (R.ok (PyData.int 2)) fun x18 => R.opt (pyIx x17 x18)) asLst) enumD) (compD open2 (fun d19 => R.bind (R.bind (R.bind (R.bind (R.ok d19.2) fun x21 => R.bind (R.bind (R.bind (R.ok v5) asLst) fun x23 => R.bind (R.ok []) fun x24 => R.ok (Slot.bor (Ob.lst x23) :: x24)) fun x22 => R.ok (Slot.dat x21 :: x22)) (F_number_of 14)) fun x25 => R.bind (R.ok PyData.none) fun x26 => R.opt (pyIs x25 x26)) asB) (fun d19 => R.ok d19.1))) lstD) fun x27 => R.bind (R.ok (PyData.int 0)) fun x28 => R.opt (pyIx x27 x28)) fun x29 => R.bind (R.ok []) fun x30 => R.ok (x29 :: x30)) fun x32 => R.ok (x31 :: x32)) fun x33 => R.ok (PyData.tuple x33)) fun x34 => R.ok (Out.rt x34)) outD
def F_why_ends : List Slot → R D
  | [.dat a_rule, .dat a_many] => m_why_ends a_rule a_many
  | _ => R.stuck
def m__law_number : Nat → D → List (Key × D) → D → R D
  | 0, _, _, _ => R.stuck
  | k + 1, a_term, a_book, a_here => R.bind (R.bind (R.bind (R.bind (R.bind (R.ok a_term) fun x1 => R.bind (R.ok (PyData.int 0)) fun x2 => R.opt (pyIx x1 x2)) fun x3 => R.bind (R.ok (PyData.str (PySem.Str.ofString "at"))) fun x4 => R.opt (pyEq x3 x4)) asB) fun t77 => if t77 then
 R.bind (R.bind (R.ok a_here) fun x7 => R.bind (R.bind (R.ok a_term) fun x5 => R.bind (R.ok (PyData.int 1)) fun x6 => R.opt (pyIx x5 x6)) fun x8 => R.opt (pySub x7 x8)) fun v9 =>
 R.bind (R.bind (R.bind (R.bind (R.ok v9) fun x11 => R.opt (obGet1 (Ob.dic a_book) x11)) fun x14 => R.bind (R.bind (R.ok v9) fun x12 => R.bind (R.ok []) fun x13 => R.ok (x12 :: x13)) fun x15 => R.ok (x14 :: x15)) fun x16 => R.ok (PyData.tuple x16)) fun x17 => R.ok (Out.rt x17)
 else
 R.bind (R.bind (R.bind (R.bind (R.bind (R.ok a_term) fun x21 => R.bind (R.bind (R.ok (PyData.int 1)) fun x20 => R.opt (pyNeg x20)) fun x22 => R.opt (pyIx x21 x22)) fun x18 => R.bind (R.bind (R.ok (Ob.dic a_book)) fun x23 => R.bind (R.bind (R.ok a_here) fun x25 => R.bind (R.ok []) fun x26 => R.ok (Slot.dat x25 :: x26)) fun x24 => R.ok (Slot.bor x23 :: x24)) fun x19 => R.ok (Slot.dat x18 :: x19)) (fun ss => match ss with | [.dat a_term, .bor (.dic a_book), .dat a_here] => m__law_number k a_term a_book a_here | _ => R.stuck)) fun x27 => R.bind (R.ok (PyData.int 0)) fun x28 => R.opt (pyIx x27 x28)) fun v29 =>
 R.bind (R.bind (R.bind (R.ok v29) fun x30 => R.bind (R.ok PyData.none) fun x31 => R.opt (pyIs x30 x31)) asB) fun t76 => if t76 then
 R.bind (R.ok (PyData.tuple [PyData.none, PyData.none])) fun x32 => R.ok (Out.rt x32)
 else
 R.bind (R.bind (R.bind (R.bind (R.ok a_term) fun x33 => R.bind (R.ok (PyData.int 0)) fun x34 => R.opt (pyIx x33 x34)) fun x35 => R.bind (R.ok (PyData.str (PySem.Str.ofString "rest"))) fun x36 => R.opt (pyEq x35 x36)) asB) fun t75 => if t75 then
 R.bind (R.bind (R.bind (R.bind (R.bind (R.ok a_here) fun x39 => R.bind (R.bind (R.ok a_term) fun x37 => R.bind (R.ok (PyData.int 1)) fun x38 => R.opt (pyIx x37 x38)) fun x40 => R.opt (pySub x39 x40)) fun x41 => R.bind (R.ok v29) fun x42 => R.opt (pySub x41 x42)) fun x51 => R.bind (R.bind (R.bind (R.bind (R.ok a_here) fun x45 => R.bind (R.bind (R.ok a_term) fun x43 => R.bind (R.ok (PyData.int 1)) fun x44 => R.opt (pyIx x43 x44)) fun x46 => R.opt (pySub x45 x46)) fun x47 => R.bind (R.ok v29) fun x48 => R.opt (pySub x47 x48)) fun x49 => R.bind (R.ok []) fun x50 => R.ok (x49 :: x50)) fun x52 => R.ok (x51 :: x52)) fun x53 => R.ok (PyData.tuple x53)) fun x54 => R.ok (Out.rt x54)
 else
 R.bind (R.bind (R.bind (R.bind (R.bind (R.ok a_term) fun x55 => R.bind (R.ok (PyData.int 0)) fun x56 => R.opt (pyIx x55 x56)) fun x57 => R.bind (R.ok (PyData.str (PySem.Str.ofString "of"))) fun x58 => R.opt (pyEq x57 x58)) asB) fun t65 => if t65 then R.ok v29 else R.bind (R.bind (R.ok a_here) fun x61 => R.bind (R.bind (R.ok a_term) fun x59 => R.bind (R.ok (PyData.int 1)) fun x60 => R.opt (pyIx x59 x60)) fun x62 => R.opt (pySub x61 x62)) fun x63 => R.bind (R.ok v29) fun x64 => R.opt (pySub x63 x64)) fun v66 =>
 R.bind (R.bind (R.bind (R.bind (R.ok v66) fun x68 => R.opt (obGet1 (Ob.dic a_book) x68)) fun x71 => R.bind (R.bind (R.ok v66) fun x69 => R.bind (R.ok []) fun x70 => R.ok (x69 :: x70)) fun x72 => R.ok (x71 :: x72)) fun x73 => R.ok (PyData.tuple x73)) fun x74 => R.ok (Out.rt x74)) outD
def F__law_number (k : Nat) : List Slot → R D
  | [.dat a_term, .bor (.dic a_book), .dat a_here] => m__law_number k a_term a_book a_here
  | _ => R.stuck
def m__law_row (a_rule : D) (a_many : D) : R D := R.bind (R.bind (R.bind (R.bind (R.ok (PyData.int 1)) fun x5 => R.bind (R.bind (R.bind (R.ok a_many) fun x1 => R.bind (R.ok (PyData.int 1)) fun x2 => R.opt (pyAdd x1 x2)) fun x3 => R.bind (R.ok []) fun x4 => R.ok (x3 :: x4)) fun x6 => R.ok (x5 :: x6)) rng2) fun ds60 => R.bind (forM (fun (z9 : List (Key × D)) (d10 : D) =>
 R.bind (R.bind (R.bind (R.ok d10) fun x16 => R.bind (R.bind (R.bind (R.bind (R.ok a_rule) fun x11 => R.bind (R.ok (PyData.int 0)) fun x12 => R.opt (pyIx x11 x12)) fun x13 => R.bind (R.ok []) fun x14 => R.ok (x13 :: x14)) fun x15 => R.opt (pyLen x15)) fun x17 => R.opt (pyLe x16 x17)) asB) fun t53 => if t53 then
 R.bind (R.bind (R.bind (R.ok a_rule) fun x19 => R.bind (R.ok (PyData.int 0)) fun x20 => R.opt (pyIx x19 x20)) fun x23 => R.bind (R.bind (R.ok d10) fun x21 => R.bind (R.ok (PyData.int 1)) fun x22 => R.opt (pySub x21 x22)) fun x24 => R.opt (pyIx x23 x24)) fun d25 => R.bind (R.ok d10) fun d26 => R.bind (dPut z9 d26 d25) fun l18 =>
 R.ok (Out.nx l18)
 else
 R.bind (R.bind (R.bind (R.bind (R.bind (R.ok a_rule) fun x27 => R.bind (R.ok (PyData.int 2)) fun x28 => R.opt (pyIx x27 x28)) asSeq) (compD R.ok (fun _ => R.ok true) (fun d29 => R.bind (R.bind (R.bind (R.ok d29) fun x31 => R.bind (R.bind (R.ok (Ob.dic z9)) fun x33 => R.bind (R.bind (R.ok d10) fun x35 => R.bind (R.ok []) fun x36 => R.ok (Slot.dat x35 :: x36)) fun x34 => R.ok (Slot.bor x33 :: x34)) fun x32 => R.ok (Slot.dat x31 :: x32)) (F__law_number 14)) fun x37 => R.bind (R.ok (PyData.int 0)) fun x38 => R.opt (pyIx x37 x38)))) lstD) fun v39 =>
 R.bind (R.bind (R.bind (R.ok PyData.none) fun x40 => R.bind (R.ok v39) fun x41 => R.opt (pyIn false x40 x41)) asB) fun t52 => if t52 then
 R.ok (Out.bk z9)
 else
 R.bind (R.bind (R.bind (R.ok a_rule) fun x43 => R.bind (R.ok (PyData.int 1)) fun x44 => R.opt (pyIx x43 x44)) fun x48 => R.bind (R.bind (R.bind (R.ok v39) fun x45 => R.bind (R.ok []) fun x46 => R.ok (x45 :: x46)) fun x47 => R.opt (pySum x47)) fun x49 => R.opt (pyAdd x48 x49)) fun d50 => R.bind (R.ok d10) fun d51 => R.bind (dPut z9 d51 d50) fun l42 =>
 R.ok (Out.nx l42)) ds60 ([] : List (Key × D))) (Out.cont fun (z54 : List (Key × D)) =>
 R.bind (R.bind (R.bind (R.bind (R.bind (sortKeys z54) lstD) asSeq) (compD R.ok (fun _ => R.ok true) (fun d55 => R.bind (R.ok d55) fun x58 => R.opt (obGet (Ob.dic z54) x58)))) lstD) fun x59 => R.ok (Out.rt x59))) outD
def F__law_row : List Slot → R D
  | [.dat a_rule, .dat a_many] => m__law_row a_rule a_many
  | _ => R.stuck
def m_is_row (a_rule : D) (a_thing : D) : R D := R.bind (R.bind (R.bind (R.bind (R.ok a_rule) fun x1 => R.bind (R.ok []) fun x2 => R.ok (Slot.dat x1 :: x2)) F_look_rule) fun _ =>
 R.bind (R.bind (R.bind (R.bind (R.bind (R.ok a_thing) fun x3 => R.ok (PyData.bool (isTy Ty5.list x3))) asB) fun t4 => R.ok (!t4)) fun t14 => if t14 then R.ok true else R.bind (R.bind (R.bind (R.ok (PyData.int 1)) fun x8 => R.bind (R.bind (R.bind (R.ok a_thing) fun x5 => R.bind (R.ok []) fun x6 => R.ok (x5 :: x6)) fun x7 => R.opt (pyLen x7)) fun x9 => R.bind (R.opt (pyLe x8 x9)) fun x10 => R.bind (asB x10) fun x11 => if x11 then R.bind (R.ok (PyData.int 200)) fun x12 => R.opt (pyLe x9 x12) else R.ok (PyData.bool false)) asB) fun t13 => R.ok (!t13)) fun t40 => if t40 then
 R.bind (R.ok (PyData.bool false)) fun x15 => R.ok (Out.rt x15)
 else
 R.bind (R.bind (R.bind (R.bind (R.bind (R.bind (R.bind (R.bind (R.ok a_thing) asSeq) (compD R.ok (fun _ => R.ok true) (fun d16 => R.bind (R.bind (R.ok d16) fun x18 => R.ok (PyData.bool (isTy Ty5.int x18))) fun x22 => R.bind (asB x22) fun t23 => if t23 then R.bind (R.bind (R.ok d16) fun x19 => R.ok (PyData.bool (isTy Ty5.bool x19))) fun x20 => R.bind (asB x20) fun t21 => R.ok (PyData.bool !t21) else R.ok (PyData.bool false)))) lstD) fun x24 => R.bind (R.ok []) fun x25 => R.ok (x24 :: x25)) fun x26 => R.opt (pyAll x26)) asB) fun t27 => R.ok (!t27)) fun t39 => if t39 then
 R.bind (R.ok (PyData.bool false)) fun x28 => R.ok (Out.rt x28)
 else
 R.bind (R.bind (R.bind (R.bind (R.ok a_rule) fun x29 => R.bind (R.bind (R.bind (R.bind (R.ok a_thing) fun x33 => R.bind (R.ok []) fun x34 => R.ok (x33 :: x34)) fun x35 => R.opt (pyLen x35)) fun x31 => R.bind (R.ok []) fun x32 => R.ok (Slot.dat x31 :: x32)) fun x30 => R.ok (Slot.dat x29 :: x30)) F_row_of) fun x36 => R.bind (R.ok a_thing) fun x37 => R.opt (pyEq x36 x37)) fun x38 => R.ok (Out.rt x38)) outD
def F_is_row : List Slot → R D
  | [.dat a_rule, .dat a_thing] => m_is_row a_rule a_thing
  | _ => R.stuck
def m_goes_on (a_rule : D) (a_row : D) : R D := R.bind (R.bind (R.bind (R.bind (R.bind (R.bind (R.ok a_rule) fun x1 => R.bind (R.bind (R.ok a_row) fun x3 => R.bind (R.ok []) fun x4 => R.ok (Slot.dat x3 :: x4)) fun x2 => R.ok (Slot.dat x1 :: x2)) F_is_row) asB) fun t5 => R.ok (!t5)) fun t25 => if t25 then
 R.exc XC.ended
 else
 R.bind (R.bind (R.bind (R.bind (R.bind (R.ok a_row) fun x6 => R.bind (R.ok []) fun x7 => R.ok (x6 :: x7)) fun x8 => R.opt (pyLen x8)) fun x14 => R.bind (R.bind (R.bind (R.bind (R.ok a_rule) fun x9 => R.bind (R.ok (PyData.int 0)) fun x10 => R.opt (pyIx x9 x10)) fun x11 => R.bind (R.ok []) fun x12 => R.ok (x11 :: x12)) fun x13 => R.opt (pyLen x13)) fun x15 => R.opt (pyLt x14 x15)) fun x22 => R.bind (asB x22) fun t23 => if t23 then R.ok (PyData.bool true) else R.bind (R.bind (R.bind (R.ok a_rule) fun x16 => R.bind (R.bind (R.bind (R.ok a_row) asLst) fun x18 => R.bind (R.ok []) fun x19 => R.ok (Slot.bor (Ob.lst x18) :: x19)) fun x17 => R.ok (Slot.dat x16 :: x17)) F_next_number) fun x20 => R.bind (R.ok PyData.none) fun x21 => R.opt (pyIsNot x20 x21)) fun x24 => R.ok (Out.rt x24)) outD
def F_goes_on : List Slot → R D
  | [.dat a_rule, .dat a_row] => m_goes_on a_rule a_row
  | _ => R.stuck
def m_steps (a_rule : D) (a_many : D) : R D := R.bind (R.bind (R.bind (R.bind (R.ok a_rule) fun x1 => R.bind (R.bind (R.ok a_many) fun x3 => R.bind (R.ok []) fun x4 => R.ok (Slot.dat x3 :: x4)) fun x2 => R.ok (Slot.dat x1 :: x2)) F_numbers) fun v5 =>
 R.bind (R.bind (R.bind (R.bind (R.ok v5) fun x9 => R.bind (R.bind (R.ok v5) fun x6 => R.bind (R.bind (R.ok (PyData.int 1)) asI) fun x7 => R.bind (R.ok none) fun x8 => R.opt (pySl x6 x7 x8)) fun x10 => zipD x9 x10) (compD open2 (fun _ => R.ok true) (fun d11 => R.bind (R.ok d11.2) fun x13 => R.bind (R.ok d11.1) fun x14 => R.opt (pySub x13 x14)))) lstD) fun x15 => R.ok (Out.rt x15)) outD
def F_steps : List Slot → R D
  | [.dat a_rule, .dat a_many] => m_steps a_rule a_many
  | _ => R.stuck
def m_is_slow (a_rule : D) (a_many : D) : R D := R.bind (R.bind (R.bind (R.bind (R.bind (R.bind (R.bind (R.bind (R.bind (R.ok a_rule) fun x1 => R.bind (R.bind (R.ok a_many) fun x3 => R.bind (R.ok []) fun x4 => R.ok (Slot.dat x3 :: x4)) fun x2 => R.ok (Slot.dat x1 :: x2)) F_steps) asSeq) (compD R.ok (fun _ => R.ok true) (fun d5 => R.bind (R.ok d5) fun x7 => R.bind (R.ok (PyData.tuple [PyData.int 0, PyData.int 1])) fun x8 => R.opt (pyIn false x7 x8)))) lstD) fun x9 => R.bind (R.ok []) fun x10 => R.ok (x9 :: x10)) fun x11 => R.opt (pyAll x11)) fun x12 => R.ok (Out.rt x12)) outD
def F_is_slow : List Slot → R D
  | [.dat a_rule, .dat a_many] => m_is_slow a_rule a_many
  | _ => R.stuck
def m_never_falls (a_rule : D) (a_many : D) : R D := R.bind (R.bind (R.bind (R.bind (R.bind (R.bind (R.bind (R.bind (R.bind (R.ok a_rule) fun x1 => R.bind (R.bind (R.ok a_many) fun x3 => R.bind (R.ok []) fun x4 => R.ok (Slot.dat x3 :: x4)) fun x2 => R.ok (Slot.dat x1 :: x2)) F_steps) asSeq) (compD R.ok (fun _ => R.ok true) (fun d5 => R.bind (R.ok d5) fun x7 => R.bind (R.ok (PyData.int 0)) fun x8 => R.opt (pyGe x7 x8)))) lstD) fun x9 => R.bind (R.ok []) fun x10 => R.ok (x9 :: x10)) fun x11 => R.opt (pyAll x11)) fun x12 => R.ok (Out.rt x12)) outD
def F_never_falls : List Slot → R D
  | [.dat a_rule, .dat a_many] => m_never_falls a_rule a_many
  | _ => R.stuck
def m_first_fall (a_rule : D) (a_many : D) : R D := R.bind (R.bind (R.bind (R.bind (R.bind (R.bind (R.bind (R.bind (R.ok a_rule) fun x1 => R.bind (R.bind (R.ok a_many) fun x3 => R.bind (R.ok []) fun x4 => R.ok (Slot.dat x3 :: x4)) fun x2 => R.ok (Slot.dat x1 :: x2)) F_steps) asLst) enumD) (compD open2 (fun d5 => R.bind (R.bind (R.ok d5.2) fun x9 => R.bind (R.ok (PyData.int 0)) fun x10 => R.opt (pyLt x9 x10)) asB) (fun d5 => R.bind (R.ok d5.1) fun x7 => R.bind (R.ok (PyData.int 2)) fun x8 => R.opt (pyAdd x7 x8)))) lstD) fun v11 =>
 R.bind (R.bind (R.bind (R.ok v11) fun x14 => R.bind (R.bind (R.bind (R.ok PyData.none) fun x12 => R.bind (R.ok []) fun x13 => R.ok (x12 :: x13)) lstD) fun x15 => R.opt (pyAdd x14 x15)) fun x16 => R.bind (R.ok (PyData.int 0)) fun x17 => R.opt (pyIx x16 x17)) fun x18 => R.ok (Out.rt x18)) outD
def F_first_fall : List Slot → R D
  | [.dat a_rule, .dat a_many] => m_first_fall a_rule a_many
  | _ => R.stuck
def m_how_often (a_rule : D) (a_many : D) : R D := R.bind (R.bind (R.bind (R.bind (R.bind (R.ok a_rule) fun x1 => R.bind (R.bind (R.ok a_many) fun x3 => R.bind (R.ok []) fun x4 => R.ok (Slot.dat x3 :: x4)) fun x2 => R.ok (Slot.dat x1 :: x2)) F_numbers) asSeq) fun ds19 => R.bind (forM (fun (z7 : List (Key × D)) (d8 : D) =>
 R.bind (R.bind (R.bind (R.ok d8) fun x11 => R.bind (R.ok (PyData.int 0)) fun x12 => R.opt (obGet2 (Ob.dic z7) x11 x12)) fun x13 => R.bind (R.ok (PyData.int 1)) fun x14 => R.opt (pyAdd x13 x14)) fun d15 => R.bind (R.ok d8) fun d16 => R.bind (dPut z7 d16 d15) fun l9 =>
 R.ok (Out.nx l9)) ds19 ([] : List (Key × D))) (Out.cont fun (z17 : List (Key × D)) =>
 R.bind (R.bind (sortItems z17) lstD) fun x18 => R.ok (Out.rt x18))) outD
def F_how_often : List Slot → R D
  | [.dat a_rule, .dat a_many] => m_how_often a_rule a_many
  | _ => R.stuck
def m_records (a_rule : D) (a_many : D) : R D := R.bind (R.bind (R.ok []) fun l1 =>
 R.bind (R.ok PyData.none) fun v2 =>
 R.bind (R.bind (R.bind (R.bind (R.bind (R.ok a_rule) fun x3 => R.bind (R.bind (R.ok a_many) fun x5 => R.bind (R.ok []) fun x6 => R.ok (Slot.dat x5 :: x6)) fun x4 => R.ok (Slot.dat x3 :: x4)) F_numbers) asLst) enumD) fun ds23 => R.bind (forM2 (fun (z9 : List D × D) (d10 : D × D) =>
 R.bind (R.bind (R.bind (R.bind (R.ok z9.2) fun x11 => R.bind (R.ok PyData.none) fun x12 => R.opt (pyIs x11 x12)) asB) fun t15 => if t15 then R.ok true else R.bind (R.bind (R.ok d10.2) fun x13 => R.bind (R.ok z9.2) fun x14 => R.opt (pyGt x13 x14)) asB) fun t21 => if t21 then
 R.bind (R.bind (R.ok d10.1) fun x16 => R.bind (R.ok (PyData.int 1)) fun x17 => R.opt (pyAdd x16 x17)) fun d18 => if lineOk (List.length z9.1 + 1) then (fun l19 =>
 R.bind (R.ok d10.2) fun v20 =>
 R.ok (Out.nx (l19, v20))) (z9.1 ++ [d18]) else R.stuck
 else
 R.ok (Out.nx (z9.1, z9.2))) ds23 (l1, v2)) (Out.cont fun (z22 : List D × D) =>
 R.ok (Out.rt (PyData.list z22.1)))) outD
def F_records : List Slot → R D
  | [.dat a_rule, .dat a_many] => m_records a_rule a_many
  | _ => R.stuck
def m_runs (a_rule : D) (a_many : D) : R D := R.bind (R.bind (R.ok []) fun l1 =>
 R.bind (R.bind (R.bind (R.bind (R.ok a_rule) fun x2 => R.bind (R.bind (R.ok a_many) fun x4 => R.bind (R.ok []) fun x5 => R.ok (Slot.dat x4 :: x5)) fun x3 => R.ok (Slot.dat x2 :: x3)) F_numbers) asSeq) fun ds45 => R.bind (forM (fun (z8 : List D) (d9 : D) =>
 R.bind (R.bind (R.bind (R.bind (R.bind (R.ok z8) lstD) fun x10 => R.bind (R.bind (R.ok []) lstD) fun x11 => R.opt (pyNe x10 x11)) asB) fun t19 => if t19 then R.bind (R.bind (R.bind (R.bind (R.ok z8) fun x13 => R.bind (R.bind (R.ok (PyData.int 1)) fun x12 => R.opt (pyNeg x12)) fun x14 => R.opt (pyIx (PyData.list x13) x14)) fun x15 => R.bind (R.ok (PyData.int 0)) fun x16 => R.opt (pyIx x15 x16)) fun x17 => R.bind (R.ok d9) fun x18 => R.opt (pyEq x17 x18)) asB else R.ok false) fun t43 => if t43 then
 R.bind (R.bind (R.bind (R.ok d9) fun x30 => R.bind (R.bind (R.bind (R.bind (R.bind (R.ok z8) fun x22 => R.bind (R.bind (R.ok (PyData.int 1)) fun x21 => R.opt (pyNeg x21)) fun x23 => R.opt (pyIx (PyData.list x22) x23)) fun x24 => R.bind (R.ok (PyData.int 1)) fun x25 => R.opt (pyIx x24 x25)) fun x26 => R.bind (R.ok (PyData.int 1)) fun x27 => R.opt (pyAdd x26 x27)) fun x28 => R.bind (R.ok []) fun x29 => R.ok (x28 :: x29)) fun x31 => R.ok (x30 :: x31)) fun x32 => R.ok (PyData.tuple x32)) fun d34 => R.bind (R.bind (R.ok (PyData.int 1)) fun x33 => R.opt (pyNeg x33)) fun d35 => R.bind (lPut z8 d35 d34) fun l20 =>
 R.ok (Out.nx l20)
 else
 R.bind (R.bind (R.bind (R.ok d9) fun x38 => R.bind (R.bind (R.ok (PyData.int 1)) fun x36 => R.bind (R.ok []) fun x37 => R.ok (x36 :: x37)) fun x39 => R.ok (x38 :: x39)) fun x40 => R.ok (PyData.tuple x40)) fun d41 => if lineOk (List.length z8 + 1) then (fun l42 =>
 R.ok (Out.nx l42)) (z8 ++ [d41]) else R.stuck) ds45 l1) (Out.cont fun (z44 : List D) =>
 R.ok (Out.rt (PyData.list z44)))) outD
def F_runs : List Slot → R D
  | [.dat a_rule, .dat a_many] => m_runs a_rule a_many
  | _ => R.stuck
def m_greatest (a_rule : D) (a_many : D) : R D := R.bind (R.bind (R.bind (R.bind (R.bind (R.bind (R.ok a_rule) fun x1 => R.bind (R.bind (R.ok a_many) fun x3 => R.bind (R.ok []) fun x4 => R.ok (Slot.dat x3 :: x4)) fun x2 => R.ok (Slot.dat x1 :: x2)) F_numbers) fun x5 => R.bind (R.ok []) fun x6 => R.ok (x5 :: x6)) fun x7 => R.opt (pyMax x7)) fun x8 => R.ok (Out.rt x8)) outD
def F_greatest : List Slot → R D
  | [.dat a_rule, .dat a_many] => m_greatest a_rule a_many
  | _ => R.stuck
def m_comes_round (a_rule : D) (a_many : D) : R D := R.bind (R.bind (R.bind (R.bind (R.ok a_rule) fun x1 => R.bind (R.bind (R.ok a_many) fun x3 => R.bind (R.ok []) fun x4 => R.ok (Slot.dat x3 :: x4)) fun x2 => R.ok (Slot.dat x1 :: x2)) F_numbers) fun v5 =>
 R.bind (R.bind (R.bind (R.ok (PyData.int 1)) fun x15 => R.bind (R.bind (R.bind (R.bind (R.bind (R.bind (R.ok v5) fun x6 => R.bind (R.ok []) fun x7 => R.ok (x6 :: x7)) fun x8 => R.opt (pyLen x8)) fun x9 => R.bind (R.ok (PyData.int 2)) fun x10 => R.opt (pyDiv x9 x10)) fun x11 => R.bind (R.ok (PyData.int 1)) fun x12 => R.opt (pyAdd x11 x12)) fun x13 => R.bind (R.ok []) fun x14 => R.ok (x13 :: x14)) fun x16 => R.ok (x15 :: x16)) rng2) fun ds70 => R.bind (forM (fun (z19 : Unit) (d20 : D) =>
 R.bind (R.bind (R.bind (R.bind (R.ok v5) fun x21 => R.bind (R.ok []) fun x22 => R.ok (x21 :: x22)) fun x23 => R.opt (pyLen x23)) fun x24 => R.bind (R.ok d20) fun x25 => R.opt (pySub x24 x25)) fun v26 =>
 R.bind (whileM (fun (z28 : D) => R.bind (R.bind (R.bind (R.ok z28) fun x31 => R.bind (R.ok (PyData.int 0)) fun x32 => R.opt (pyGt x31 x32)) asB) fun t45 => if t45 then R.bind (R.bind (R.bind (R.ok v5) fun x35 => R.bind (R.bind (R.ok z28) fun x33 => R.bind (R.ok (PyData.int 1)) fun x34 => R.opt (pySub x33 x34)) fun x36 => R.opt (pyIx x35 x36)) fun x43 => R.bind (R.bind (R.ok v5) fun x41 => R.bind (R.bind (R.bind (R.ok z28) fun x37 => R.bind (R.ok (PyData.int 1)) fun x38 => R.opt (pySub x37 x38)) fun x39 => R.bind (R.ok d20) fun x40 => R.opt (pyAdd x39 x40)) fun x42 => R.opt (pyIx x41 x42)) fun x44 => R.opt (pyEq x43 x44)) asB else R.ok false) (fun (z29 : D) =>
 R.bind (R.bind (R.ok z29) fun x46 => R.bind (R.ok (PyData.int 1)) fun x47 => R.opt (pySub x46 x47)) fun v48 =>
 R.ok (Out.nx v48)) 3000 v26) (Out.cont fun (z49 : D) =>
 R.bind (R.bind (R.bind (R.bind (R.bind (R.bind (R.ok v5) fun x50 => R.bind (R.ok []) fun x51 => R.ok (x50 :: x51)) fun x52 => R.opt (pyLen x52)) fun x53 => R.bind (R.ok z49) fun x54 => R.opt (pySub x53 x54)) fun x57 => R.bind (R.bind (R.ok (PyData.int 2)) fun x55 => R.bind (R.ok d20) fun x56 => R.opt (pyMul x55 x56)) fun x58 => R.opt (pyGe x57 x58)) asB) fun t67 => if t67 then
 R.bind (R.bind (R.bind (R.bind (R.ok z49) fun x59 => R.bind (R.ok (PyData.int 1)) fun x60 => R.opt (pyAdd x59 x60)) fun x63 => R.bind (R.bind (R.ok d20) fun x61 => R.bind (R.ok []) fun x62 => R.ok (x61 :: x62)) fun x64 => R.ok (x63 :: x64)) fun x65 => R.ok (PyData.tuple x65)) fun x66 => R.ok (Out.rt x66)
 else
 R.ok (Out.nx ()))) ds70 ()) (Out.cont fun (z68 : Unit) =>
 R.bind (R.ok PyData.none) fun x69 => R.ok (Out.rt x69))) outD
def F_comes_round : List Slot → R D
  | [.dat a_rule, .dat a_many] => m_comes_round a_rule a_many
  | _ => R.stuck
def m__law_round (a_row : D) : R D := R.bind (R.bind (R.bind (R.bind (R.ok (PyData.int 1)) fun x10 => R.bind (R.bind (R.bind (R.bind (R.bind (R.bind (R.ok a_row) fun x1 => R.bind (R.ok []) fun x2 => R.ok (x1 :: x2)) fun x3 => R.opt (pyLen x3)) fun x4 => R.bind (R.ok (PyData.int 2)) fun x5 => R.opt (pyDiv x4 x5)) fun x6 => R.bind (R.ok (PyData.int 1)) fun x7 => R.opt (pyAdd x6 x7)) fun x8 => R.bind (R.ok []) fun x9 => R.ok (x8 :: x9)) fun x11 => R.ok (x10 :: x11)) rng2) fun ds63 => R.bind (forM (fun (z14 : Unit) (d15 : D) =>
 R.bind (R.bind (R.bind (R.bind (R.bind (R.bind (R.bind (R.bind (R.ok a_row) fun x16 => R.bind (R.ok []) fun x17 => R.ok (x16 :: x17)) fun x18 => R.opt (pyLen x18)) fun x19 => R.bind (R.ok d15) fun x20 => R.opt (pySub x19 x20)) fun x21 => R.bind (R.ok []) fun x22 => R.ok (x21 :: x22)) rng1) (compD R.ok (fun d23 => R.bind (R.bind (R.bind (R.ok a_row) fun x25 => R.bind (R.ok d23) fun x26 => R.opt (pyIx x25 x26)) fun x31 => R.bind (R.bind (R.ok a_row) fun x29 => R.bind (R.bind (R.ok d23) fun x27 => R.bind (R.ok d15) fun x28 => R.opt (pyAdd x27 x28)) fun x30 => R.opt (pyIx x29 x30)) fun x32 => R.opt (pyNe x31 x32)) asB) (fun d23 => R.ok d23))) lstD) fun v33 =>
 R.bind (R.bind (R.bind (R.bind (R.ok v33) fun x34 => R.bind (R.bind (R.ok []) lstD) fun x35 => R.opt (pyNe x34 x35)) asB) fun t41 => if t41 then R.bind (R.bind (R.ok v33) fun x37 => R.bind (R.bind (R.ok (PyData.int 1)) fun x36 => R.opt (pyNeg x36)) fun x38 => R.opt (pyIx x37 x38)) fun x39 => R.bind (R.ok (PyData.int 1)) fun x40 => R.opt (pyAdd x39 x40) else R.ok (PyData.int 0)) fun v42 =>
 R.bind (R.bind (R.bind (R.bind (R.bind (R.bind (R.ok a_row) fun x43 => R.bind (R.ok []) fun x44 => R.ok (x43 :: x44)) fun x45 => R.opt (pyLen x45)) fun x46 => R.bind (R.ok v42) fun x47 => R.opt (pySub x46 x47)) fun x50 => R.bind (R.bind (R.ok (PyData.int 2)) fun x48 => R.bind (R.ok d15) fun x49 => R.opt (pyMul x48 x49)) fun x51 => R.opt (pyGe x50 x51)) asB) fun t60 => if t60 then
 R.bind (R.bind (R.bind (R.bind (R.ok v42) fun x52 => R.bind (R.ok (PyData.int 1)) fun x53 => R.opt (pyAdd x52 x53)) fun x56 => R.bind (R.bind (R.ok d15) fun x54 => R.bind (R.ok []) fun x55 => R.ok (x54 :: x55)) fun x57 => R.ok (x56 :: x57)) fun x58 => R.ok (PyData.tuple x58)) fun x59 => R.ok (Out.rt x59)
 else
 R.ok (Out.nx ())) ds63 ()) (Out.cont fun (z61 : Unit) =>
 R.bind (R.ok PyData.none) fun x62 => R.ok (Out.rt x62))) outD
def F__law_round : List Slot → R D
  | [.dat a_row] => m__law_round a_row
  | _ => R.stuck
def m_look_place (a_place : D) : R D := R.bind (R.bind (R.bind (R.bind (R.bind (R.bind (R.ok a_place) fun x1 => R.bind (R.bind (R.ok (PyData.int 1)) fun x3 => R.bind (R.bind (R.ok (PyData.int 1000000000)) fun x5 => R.bind (R.ok []) fun x6 => R.ok (Slot.dat x5 :: x6)) fun x4 => R.ok (Slot.dat x3 :: x4)) fun x2 => R.ok (Slot.dat x1 :: x2)) F_is_whole) asB) fun t7 => R.ok (!t7)) fun t8 => if t8 then
 R.exc XC.noNumber
 else
 R.ok (Out.nx ())) outD
def F_look_place : List Slot → R D
  | [.dat a_place] => m_look_place a_place
  | _ => R.stuck
def m_ones_of (a_number : D) : R D := R.bind (R.bind (R.ok (PyData.int 0)) fun v1 =>
 R.bind (whileM (fun (z3 : D × D) => R.bind (R.bind (R.ok z3.2) fun x6 => R.bind (R.ok (PyData.int 0)) fun x7 => R.opt (pyGt x6 x7)) asB) (fun (z4 : D × D) =>
 R.bind (R.bind (R.ok z4.1) fun x10 => R.bind (R.bind (R.ok z4.2) fun x8 => R.bind (R.ok (PyData.int 2)) fun x9 => R.opt (pyMod x8 x9)) fun x11 => R.opt (pyAdd x10 x11)) fun v12 =>
 R.bind (R.bind (R.ok z4.2) fun x13 => R.bind (R.ok (PyData.int 2)) fun x14 => R.opt (pyDiv x13 x14)) fun v15 =>
 R.ok (Out.nx (v12, v15))) 3000 (v1, a_number)) (Out.cont fun (z16 : D × D) =>
 R.bind (R.ok z16.1) fun x17 => R.ok (Out.rt x17))) outD
def F_ones_of : List Slot → R D
  | [.dat a_number] => m_ones_of a_number
  | _ => R.stuck
def m_last_slow (a_number : D) : R D := R.bind (R.bind (R.bind (R.bind (R.bind (R.ok (PyData.int 2)) fun x1 => R.bind (R.ok a_number) fun x2 => R.opt (pyMul x1 x2)) fun x5 => R.bind (R.bind (R.bind (R.ok a_number) fun x3 => R.bind (R.ok []) fun x4 => R.ok (Slot.dat x3 :: x4)) F_ones_of) fun x6 => R.opt (pySub x5 x6)) fun x7 => R.bind (R.ok (PyData.int 1)) fun x8 => R.opt (pyAdd x7 x8)) fun x9 => R.ok (Out.rt x9)) outD
def F_last_slow : List Slot → R D
  | [.dat a_number] => m_last_slow a_number
  | _ => R.stuck
def m_slow_at (a_place : D) : R D := R.bind (R.bind (R.bind (R.bind (R.ok a_place) fun x1 => R.bind (R.ok []) fun x2 => R.ok (Slot.dat x1 :: x2)) F_look_place) fun _ =>
 R.bind (R.bind (R.bind (R.ok (PyData.int 0)) fun x7 => R.bind (R.bind (R.ok a_place) fun x5 => R.bind (R.ok []) fun x6 => R.ok (x5 :: x6)) fun x8 => R.ok (x7 :: x8)) open2l) fun z9 =>
 R.bind (whileM (fun (z11 : D × D) => R.bind (R.bind (R.bind (R.ok z11.1) fun x14 => R.bind (R.ok z11.2) fun x15 => R.opt (pySub x14 x15)) fun x16 => R.bind (R.ok (PyData.int 1)) fun x17 => R.opt (pyGt x16 x17)) asB) (fun (z12 : D × D) =>
 R.bind (R.bind (R.bind (R.ok z12.2) fun x18 => R.bind (R.ok z12.1) fun x19 => R.opt (pyAdd x18 x19)) fun x20 => R.bind (R.ok (PyData.int 2)) fun x21 => R.opt (pyDiv x20 x21)) fun v22 =>
 R.bind (R.bind (R.bind (R.bind (R.bind (R.ok v22) fun x23 => R.bind (R.ok []) fun x24 => R.ok (Slot.dat x23 :: x24)) F_last_slow) fun x25 => R.bind (R.ok a_place) fun x26 => R.opt (pyGe x25 x26)) asB) fun t29 => if t29 then
 R.bind (R.ok v22) fun v27 =>
 R.ok (Out.nx (v27, z12.2))
 else
 R.bind (R.ok v22) fun v28 =>
 R.ok (Out.nx (z12.1, v28))) 3000 (z9.2, z9.1)) (Out.cont fun (z30 : D × D) =>
 R.bind (R.ok z30.1) fun x31 => R.ok (Out.rt x31))) outD
def F_slow_at : List Slot → R D
  | [.dat a_place] => m_slow_at a_place
  | _ => R.stuck
def m_slow_often (a_number : D) : R D := R.bind (R.bind (R.bind (R.bind (R.ok a_number) fun x1 => R.bind (R.ok []) fun x2 => R.ok (Slot.dat x1 :: x2)) F_look_place) fun _ =>
 R.bind (R.bind (R.bind (R.bind (R.ok a_number) fun x3 => R.bind (R.ok (PyData.int 1)) fun x4 => R.opt (pyEq x3 x4)) asB) fun t5 => if t5 then R.ok (PyData.int 2) else R.ok (PyData.int 1)) fun v6 =>
 R.bind (whileM (fun (z8 : D × D) => R.bind (R.bind (R.bind (R.ok z8.2) fun x11 => R.bind (R.ok (PyData.int 2)) fun x12 => R.opt (pyMod x11 x12)) fun x13 => R.bind (R.ok (PyData.int 0)) fun x14 => R.opt (pyEq x13 x14)) asB) (fun (z9 : D × D) =>
 R.bind (R.bind (R.ok z9.1) fun x15 => R.bind (R.ok (PyData.int 1)) fun x16 => R.opt (pyAdd x15 x16)) fun v17 =>
 R.bind (R.bind (R.ok z9.2) fun x18 => R.bind (R.ok (PyData.int 2)) fun x19 => R.opt (pyDiv x18 x19)) fun v20 =>
 R.ok (Out.nx (v17, v20))) 3000 (v6, a_number)) (Out.cont fun (z21 : D × D) =>
 R.bind (R.ok z21.1) fun x22 => R.ok (Out.rt x22))) outD
def F_slow_often : List Slot → R D
  | [.dat a_number] => m_slow_often a_number
  | _ => R.stuck
def m__law_often (a_number : D) : R D := R.bind (R.bind (R.bind (R.ok (PyData.int 1)) fun x6 => R.bind (R.bind (R.bind (R.bind (R.ok a_number) fun x1 => R.bind (R.ok (PyData.int 1)) fun x2 => R.opt (pyEq x1 x2)) fun x3 => R.bind (R.ok []) fun x4 => R.ok (x3 :: x4)) fun x5 => R.opt (pyIntD x5)) fun x7 => R.opt (pyAdd x6 x7)) fun v8 =>
 R.bind (whileM (fun (z10 : D × D) => R.bind (R.bind (R.bind (R.ok z10.1) fun x13 => R.bind (R.ok (PyData.int 2)) fun x14 => R.opt (pyMod x13 x14)) fun x15 => R.bind (R.ok (PyData.int 0)) fun x16 => R.opt (pyEq x15 x16)) asB) (fun (z11 : D × D) =>
 R.bind (R.bind (R.ok z11.1) fun x17 => R.bind (R.ok (PyData.int 2)) fun x18 => R.opt (pyDiv x17 x18)) fun v19 =>
 R.bind (R.bind (R.ok z11.2) fun x20 => R.bind (R.ok (PyData.int 1)) fun x21 => R.opt (pyAdd x20 x21)) fun v22 =>
 R.ok (Out.nx (v19, v22))) 3000 (a_number, v8)) (Out.cont fun (z23 : D × D) =>
 R.bind (R.ok z23.2) fun x24 => R.ok (Out.rt x24))) outD
def F__law_often : List Slot → R D
  | [.dat a_number] => m__law_often a_number
  | _ => R.stuck
def m_root_of (a_number : D) : R D := R.bind (R.bind (R.bind (R.bind (R.ok (PyData.int 0)) fun x7 => R.bind (R.bind (R.bind (R.ok a_number) fun x3 => R.bind (R.ok (PyData.int 1)) fun x4 => R.opt (pyAdd x3 x4)) fun x5 => R.bind (R.ok []) fun x6 => R.ok (x5 :: x6)) fun x8 => R.ok (x7 :: x8)) open2l) fun z9 =>
 R.bind (whileM (fun (z11 : D × D) => R.bind (R.bind (R.bind (R.ok z11.2) fun x14 => R.bind (R.ok z11.1) fun x15 => R.opt (pySub x14 x15)) fun x16 => R.bind (R.ok (PyData.int 1)) fun x17 => R.opt (pyGt x16 x17)) asB) (fun (z12 : D × D) =>
 R.bind (R.bind (R.bind (R.ok z12.1) fun x18 => R.bind (R.ok z12.2) fun x19 => R.opt (pyAdd x18 x19)) fun x20 => R.bind (R.ok (PyData.int 2)) fun x21 => R.opt (pyDiv x20 x21)) fun v22 =>
 R.bind (R.bind (R.bind (R.bind (R.ok v22) fun x23 => R.bind (R.ok v22) fun x24 => R.opt (pyMul x23 x24)) fun x25 => R.bind (R.ok a_number) fun x26 => R.opt (pyLe x25 x26)) asB) fun t29 => if t29 then
 R.bind (R.ok v22) fun v27 =>
 R.ok (Out.nx (v27, z12.2))
 else
 R.bind (R.ok v22) fun v28 =>
 R.ok (Out.nx (z12.1, v28))) 3000 (z9.1, z9.2)) (Out.cont fun (z30 : D × D) =>
 R.bind (R.ok z30.1) fun x31 => R.ok (Out.rt x31))) outD
def F_root_of : List Slot → R D
  | [.dat a_number] => m_root_of a_number
  | _ => R.stuck
def m_golden_at (a_place : D) : R D := R.bind (R.bind (R.bind (R.bind (R.ok a_place) fun x1 => R.bind (R.ok []) fun x2 => R.ok (Slot.dat x1 :: x2)) F_look_place) fun _ =>
 R.bind (R.bind (R.ok a_place) fun x3 => R.bind (R.ok (PyData.int 1)) fun x4 => R.opt (pyAdd x3 x4)) fun v5 =>
 R.bind (R.bind (R.bind (R.bind (R.bind (R.bind (R.bind (R.ok (PyData.int 5)) fun x8 => R.bind (R.ok v5) fun x9 => R.opt (pyMul x8 x9)) fun x10 => R.bind (R.ok v5) fun x11 => R.opt (pyMul x10 x11)) fun x6 => R.bind (R.ok []) fun x7 => R.ok (Slot.dat x6 :: x7)) F_root_of) fun x12 => R.bind (R.ok v5) fun x13 => R.opt (pySub x12 x13)) fun x14 => R.bind (R.ok (PyData.int 2)) fun x15 => R.opt (pyDiv x14 x15)) fun x16 => R.ok (Out.rt x16)) outD
def F_golden_at : List Slot → R D
  | [.dat a_place] => m_golden_at a_place
  | _ => R.stuck
def m_own_counts (a_many : D) : R D := R.bind (R.bind (R.bind (R.bind (R.bind (R.bind (R.ok a_many) fun x1 => R.bind (R.bind (R.ok (PyData.int 1)) fun x3 => R.bind (R.bind (R.ok (PyData.int 1000)) fun x5 => R.bind (R.ok []) fun x6 => R.ok (Slot.dat x5 :: x6)) fun x4 => R.ok (Slot.dat x3 :: x4)) fun x2 => R.ok (Slot.dat x1 :: x2)) F_is_whole) asB) fun t7 => R.ok (!t7)) fun t43 => if t43 then
 R.exc XC.noNumber
 else
 R.bind (R.bind (R.ok (PyData.int 1)) fun x12 => R.bind (R.bind (R.ok (PyData.int 2)) fun x10 => R.bind (R.bind (R.ok (PyData.int 2)) fun x8 => R.bind (R.ok []) fun x9 => R.ok (x8 :: x9)) fun x11 => R.ok (x10 :: x11)) fun x13 => R.ok (x12 :: x13)) fun l14 =>
 R.bind (R.ok (PyData.int 3)) fun v15 =>
 R.bind (whileM (fun (z17 : List D × D) => R.bind (R.bind (R.bind (R.bind (R.bind (R.ok z17.1) lstD) fun x20 => R.bind (R.ok []) fun x21 => R.ok (x20 :: x21)) fun x22 => R.opt (pyLen x22)) fun x23 => R.bind (R.ok a_many) fun x24 => R.opt (pyLt x23 x24)) asB) (fun (z18 : List D × D) =>
 R.bind (R.bind (R.bind (R.bind (R.bind (R.bind (R.ok z18.2) fun x25 => R.bind (R.ok []) fun x26 => R.ok (x25 :: x26)) lstD) fun x31 => R.bind (R.bind (R.ok z18.1) fun x29 => R.bind (R.bind (R.ok z18.2) fun x27 => R.bind (R.ok (PyData.int 1)) fun x28 => R.opt (pySub x27 x28)) fun x30 => R.opt (pyIx (PyData.list x29) x30)) fun x32 => pyRepL x31 x32) lstD) asLst) fun d33 => if lineOk (List.length z18.1 + List.length d33) then (fun l34 =>
 R.bind (R.bind (R.ok z18.2) fun x35 => R.bind (R.ok (PyData.int 1)) fun x36 => R.opt (pyAdd x35 x36)) fun v37 =>
 R.ok (Out.nx (l34, v37))) (z18.1 ++ d33) else R.stuck) 3000 (l14, v15)) (Out.cont fun (z38 : List D × D) =>
 R.bind (R.bind (R.bind (R.ok z38.1) fun x39 => R.bind (R.ok none) fun x40 => R.bind (R.bind (R.ok a_many) asI) fun x41 => R.ok (cutD x39 x40 x41)) lstD) fun x42 => R.ok (Out.rt x42))) outD
def F_own_counts : List Slot → R D
  | [.dat a_many] => m_own_counts a_many
  | _ => R.stuck
def m_halves (a_many : D) : R D := R.bind (R.bind (R.bind (R.bind (R.bind (R.bind (R.ok a_many) fun x1 => R.bind (R.bind (R.ok (PyData.int 1)) fun x3 => R.bind (R.bind (R.ok (PyData.int 20)) fun x5 => R.bind (R.ok []) fun x6 => R.ok (Slot.dat x5 :: x6)) fun x4 => R.ok (Slot.dat x3 :: x4)) fun x2 => R.ok (Slot.dat x1 :: x2)) F_is_whole) asB) fun t7 => R.ok (!t7)) fun t31 => if t31 then
 R.exc XC.noNumber
 else
 R.bind (R.bind (R.ok (PyData.int 1)) fun x8 => R.bind (R.ok []) fun x9 => R.ok (x8 :: x9)) fun l10 =>
 R.bind (R.bind (R.bind (R.bind (R.ok a_many) fun x11 => R.bind (R.ok (PyData.int 1)) fun x12 => R.opt (pySub x11 x12)) fun x13 => R.bind (R.ok []) fun x14 => R.ok (x13 :: x14)) rng1) fun ds30 => R.bind (forM (fun (z17 : List D) (d18 : D) =>
 R.bind (R.bind (R.bind (R.bind (R.ok d18) fun x19 => R.bind (R.ok (PyData.int 0)) fun x20 => R.opt (pyGt x19 x20)) asB) fun t26 => if t26 then R.bind (R.bind (R.ok z17) fun x22 => R.bind (R.bind (R.ok (PyData.int 1)) fun x21 => R.opt (pyNeg x21)) fun x23 => R.opt (pyIx (PyData.list x22) x23)) fun x24 => R.bind (R.ok (PyData.int 2)) fun x25 => R.opt (pyMul x24 x25) else R.ok (PyData.int 1)) fun d27 => if lineOk (List.length z17 + 1) then (fun l28 =>
 R.ok (Out.nx l28)) (z17 ++ [d27]) else R.stuck) ds30 l10) (Out.cont fun (z29 : List D) =>
 R.ok (Out.rt (PyData.list z29)))) outD
def F_halves : List Slot → R D
  | [.dat a_many] => m_halves a_many
  | _ => R.stuck
def m_parting (a_one : D) (a_other : D) (a_many : D) : R D := R.bind (R.bind (R.bind (R.bind (R.ok a_one) fun x1 => R.bind (R.ok []) fun x2 => R.ok (Slot.dat x1 :: x2)) F_look_rule) fun _ =>
 R.bind (R.bind (R.bind (R.ok a_other) fun x3 => R.bind (R.ok []) fun x4 => R.ok (Slot.dat x3 :: x4)) F_look_rule) fun _ =>
 R.bind (R.bind (R.bind (R.ok a_many) fun x5 => R.bind (R.ok []) fun x6 => R.ok (Slot.dat x5 :: x6)) F_look_many) fun _ =>
 R.bind (R.bind (R.bind (R.bind (R.bind (R.ok a_one) fun x9 => R.bind (R.bind (R.ok a_many) fun x11 => R.bind (R.ok []) fun x12 => R.ok (Slot.dat x11 :: x12)) fun x10 => R.ok (Slot.dat x9 :: x10)) F_row_of) fun x19 => R.bind (R.bind (R.bind (R.bind (R.ok a_other) fun x13 => R.bind (R.bind (R.ok a_many) fun x15 => R.bind (R.ok []) fun x16 => R.ok (Slot.dat x15 :: x16)) fun x14 => R.ok (Slot.dat x13 :: x14)) F_row_of) fun x17 => R.bind (R.ok []) fun x18 => R.ok (x17 :: x18)) fun x20 => R.ok (x19 :: x20)) open2l) fun z21 =>
 R.bind (R.bind (R.bind (R.bind (R.bind (R.bind (R.bind (R.ok z21.1) fun x22 => R.bind (R.ok []) fun x23 => R.ok (x22 :: x23)) fun x24 => R.opt (pyLen x24)) fun x30 => R.bind (R.bind (R.bind (R.bind (R.ok z21.2) fun x25 => R.bind (R.ok []) fun x26 => R.ok (x25 :: x26)) fun x27 => R.opt (pyLen x27)) fun x28 => R.bind (R.ok []) fun x29 => R.ok (x28 :: x29)) fun x31 => R.ok (x30 :: x31)) fun x32 => R.opt (pyMax2 x32)) fun x33 => R.bind (R.ok []) fun x34 => R.ok (x33 :: x34)) rng1) fun ds57 => R.bind (forM (fun (z37 : Unit) (d38 : D) =>
 R.bind (R.bind (R.bind (R.bind (R.ok z21.1) fun x41 => R.bind (R.bind (R.ok d38) asI) fun x42 => R.bind (R.bind (R.bind (R.ok d38) fun x39 => R.bind (R.ok (PyData.int 1)) fun x40 => R.opt (pyAdd x39 x40)) asI) fun x43 => R.opt (pySl x41 x42 x43)) fun x49 => R.bind (R.bind (R.ok z21.2) fun x46 => R.bind (R.bind (R.ok d38) asI) fun x47 => R.bind (R.bind (R.bind (R.ok d38) fun x44 => R.bind (R.ok (PyData.int 1)) fun x45 => R.opt (pyAdd x44 x45)) asI) fun x48 => R.opt (pySl x46 x47 x48)) fun x50 => R.opt (pyNe x49 x50)) asB) fun t54 => if t54 then
 R.bind (R.bind (R.ok d38) fun x51 => R.bind (R.ok (PyData.int 1)) fun x52 => R.opt (pyAdd x51 x52)) fun x53 => R.ok (Out.rt x53)
 else
 R.ok (Out.nx ())) ds57 ()) (Out.cont fun (z55 : Unit) =>
 R.bind (R.ok PyData.none) fun x56 => R.ok (Out.rt x56))) outD
def F_parting : List Slot → R D
  | [.dat a_one, .dat a_other, .dat a_many] => m_parting a_one a_other a_many
  | _ => R.stuck
def m_alike_from (a_one : D) (a_other : D) (a_many : D) : R D := R.bind (R.bind (R.bind (R.bind (R.ok a_one) fun x1 => R.bind (R.ok []) fun x2 => R.ok (Slot.dat x1 :: x2)) F_look_rule) fun _ =>
 R.bind (R.bind (R.bind (R.ok a_other) fun x3 => R.bind (R.ok []) fun x4 => R.ok (Slot.dat x3 :: x4)) F_look_rule) fun _ =>
 R.bind (R.bind (R.bind (R.ok a_many) fun x5 => R.bind (R.ok []) fun x6 => R.ok (Slot.dat x5 :: x6)) F_look_many) fun _ =>
 R.bind (R.bind (R.bind (R.bind (R.bind (R.ok a_one) fun x9 => R.bind (R.bind (R.ok a_many) fun x11 => R.bind (R.ok []) fun x12 => R.ok (Slot.dat x11 :: x12)) fun x10 => R.ok (Slot.dat x9 :: x10)) F_row_of) fun x19 => R.bind (R.bind (R.bind (R.bind (R.ok a_other) fun x13 => R.bind (R.bind (R.ok a_many) fun x15 => R.bind (R.ok []) fun x16 => R.ok (Slot.dat x15 :: x16)) fun x14 => R.ok (Slot.dat x13 :: x14)) F_row_of) fun x17 => R.bind (R.ok []) fun x18 => R.ok (x17 :: x18)) fun x20 => R.ok (x19 :: x20)) open2l) fun z21 =>
 R.bind (R.bind (R.bind (R.bind (R.bind (R.bind (R.ok z21.1) fun x22 => R.bind (R.ok []) fun x23 => R.ok (x22 :: x23)) fun x24 => R.opt (pyLen x24)) fun x25 => R.bind (R.ok a_many) fun x26 => R.opt (pyLt x25 x26)) asB) fun t41 => if t41 then R.ok true else R.bind (R.bind (R.bind (R.bind (R.bind (R.ok z21.2) fun x27 => R.bind (R.ok []) fun x28 => R.ok (x27 :: x28)) fun x29 => R.opt (pyLen x29)) fun x30 => R.bind (R.ok a_many) fun x31 => R.opt (pyLt x30 x31)) asB) fun t40 => if t40 then R.ok true else R.bind (R.bind (R.bind (R.ok z21.1) fun x33 => R.bind (R.bind (R.ok (PyData.int 1)) fun x32 => R.opt (pyNeg x32)) fun x34 => R.opt (pyIx x33 x34)) fun x38 => R.bind (R.bind (R.ok z21.2) fun x36 => R.bind (R.bind (R.ok (PyData.int 1)) fun x35 => R.opt (pyNeg x35)) fun x37 => R.opt (pyIx x36 x37)) fun x39 => R.opt (pyNe x38 x39)) asB) fun t66 => if t66 then
 R.bind (R.ok PyData.none) fun x42 => R.ok (Out.rt x42)
 else
 R.bind (R.ok a_many) fun v43 =>
 R.bind (whileM (fun (z45 : D) => R.bind (R.bind (R.bind (R.ok z45) fun x48 => R.bind (R.ok (PyData.int 1)) fun x49 => R.opt (pyGt x48 x49)) asB) fun t60 => if t60 then R.bind (R.bind (R.bind (R.ok z21.1) fun x52 => R.bind (R.bind (R.ok z45) fun x50 => R.bind (R.ok (PyData.int 2)) fun x51 => R.opt (pySub x50 x51)) fun x53 => R.opt (pyIx x52 x53)) fun x58 => R.bind (R.bind (R.ok z21.2) fun x56 => R.bind (R.bind (R.ok z45) fun x54 => R.bind (R.ok (PyData.int 2)) fun x55 => R.opt (pySub x54 x55)) fun x57 => R.opt (pyIx x56 x57)) fun x59 => R.opt (pyEq x58 x59)) asB else R.ok false) (fun (z46 : D) =>
 R.bind (R.bind (R.ok z46) fun x61 => R.bind (R.ok (PyData.int 1)) fun x62 => R.opt (pySub x61 x62)) fun v63 =>
 R.ok (Out.nx v63)) 3000 v43) (Out.cont fun (z64 : D) =>
 R.bind (R.ok z64) fun x65 => R.ok (Out.rt x65))) outD
def F_alike_from : List Slot → R D
  | [.dat a_one, .dat a_other, .dat a_many] => m_alike_from a_one a_other a_many
  | _ => R.stuck
def m_shifted_alike (a_one : D) (a_other : D) (a_by : D) (a_many : D) : R D := R.bind (R.bind (R.bind (R.bind (R.ok a_one) fun x1 => R.bind (R.ok []) fun x2 => R.ok (Slot.dat x1 :: x2)) F_look_rule) fun _ =>
 R.bind (R.bind (R.bind (R.ok a_other) fun x3 => R.bind (R.ok []) fun x4 => R.ok (Slot.dat x3 :: x4)) F_look_rule) fun _ =>
 R.bind (R.bind (R.bind (R.ok a_many) fun x5 => R.bind (R.ok []) fun x6 => R.ok (Slot.dat x5 :: x6)) F_look_many) fun _ =>
 R.bind (R.bind (R.bind (R.ok a_by) fun x7 => R.bind (R.ok []) fun x8 => R.ok (Slot.dat x7 :: x8)) F_look_many) fun _ =>
 R.bind (R.bind (R.bind (R.bind (R.ok a_many) fun x11 => R.bind (R.ok a_by) fun x12 => R.opt (pyAdd x11 x12)) fun x9 => R.bind (R.ok []) fun x10 => R.ok (Slot.dat x9 :: x10)) F_look_many) fun _ =>
 R.bind (R.bind (R.bind (R.bind (R.bind (R.ok a_one) fun x15 => R.bind (R.bind (R.ok a_many) fun x17 => R.bind (R.ok []) fun x18 => R.ok (Slot.dat x17 :: x18)) fun x16 => R.ok (Slot.dat x15 :: x16)) F_row_of) fun x27 => R.bind (R.bind (R.bind (R.bind (R.ok a_other) fun x19 => R.bind (R.bind (R.bind (R.ok a_many) fun x23 => R.bind (R.ok a_by) fun x24 => R.opt (pyAdd x23 x24)) fun x21 => R.bind (R.ok []) fun x22 => R.ok (Slot.dat x21 :: x22)) fun x20 => R.ok (Slot.dat x19 :: x20)) F_row_of) fun x25 => R.bind (R.ok []) fun x26 => R.ok (x25 :: x26)) fun x28 => R.ok (x27 :: x28)) open2l) fun z29 =>
 R.bind (R.bind (R.bind (R.bind (R.bind (R.ok z29.1) fun x30 => R.bind (R.ok []) fun x31 => R.ok (x30 :: x31)) fun x32 => R.opt (pyLen x32)) fun x33 => R.bind (R.ok a_many) fun x34 => R.opt (pyEq x33 x34)) fun x49 => R.bind (asB x49) fun t50 => if t50 then R.bind (R.bind (R.bind (R.bind (R.ok z29.2) fun x35 => R.bind (R.ok []) fun x36 => R.ok (x35 :: x36)) fun x37 => R.opt (pyLen x37)) fun x40 => R.bind (R.bind (R.ok a_many) fun x38 => R.bind (R.ok a_by) fun x39 => R.opt (pyAdd x38 x39)) fun x41 => R.opt (pyEq x40 x41)) fun x47 => R.bind (asB x47) fun t48 => if t48 then R.bind (R.ok z29.1) fun x45 => R.bind (R.bind (R.ok z29.2) fun x42 => R.bind (R.bind (R.ok a_by) asI) fun x43 => R.bind (R.ok none) fun x44 => R.opt (pySl x42 x43 x44)) fun x46 => R.opt (pyEq x45 x46) else R.ok (PyData.bool false) else R.ok (PyData.bool false)) fun x51 => R.ok (Out.rt x51)) outD
def F_shifted_alike : List Slot → R D
  | [.dat a_one, .dat a_other, .dat a_by, .dat a_many] => m_shifted_alike a_one a_other a_by a_many
  | _ => R.stuck
def m_with_first (a_rule : D) (a_some : D) : R D := R.bind (R.bind (R.bind (R.bind (R.ok a_rule) fun x1 => R.bind (R.ok []) fun x2 => R.ok (Slot.dat x1 :: x2)) F_look_rule) fun _ =>
 R.bind (R.bind (R.bind (R.bind (R.bind (R.ok a_some) asSeq) tupD) fun x11 => R.bind (R.bind (R.bind (R.ok a_rule) fun x3 => R.bind (R.ok (PyData.int 1)) fun x4 => R.opt (pyIx x3 x4)) fun x9 => R.bind (R.bind (R.bind (R.ok a_rule) fun x5 => R.bind (R.ok (PyData.int 2)) fun x6 => R.opt (pyIx x5 x6)) fun x7 => R.bind (R.ok []) fun x8 => R.ok (x7 :: x8)) fun x10 => R.ok (x9 :: x10)) fun x12 => R.ok (x11 :: x12)) fun x13 => R.ok (PyData.tuple x13)) fun v14 =>
 R.bind (R.bind (R.bind (R.ok v14) fun x15 => R.bind (R.ok []) fun x16 => R.ok (Slot.dat x15 :: x16)) F_look_rule) fun _ =>
 R.bind (R.ok v14) fun x17 => R.ok (Out.rt x17)) outD
def F_with_first : List Slot → R D
  | [.dat a_rule, .dat a_some] => m_with_first a_rule a_some
  | _ => R.stuck
def m_unfolded (a_rule : D) (a_many : D) : R D := R.bind (R.bind (R.bind (R.bind (R.ok a_rule) fun x1 => R.bind (R.ok []) fun x2 => R.ok (Slot.dat x1 :: x2)) F_look_rule) fun _ =>
 R.bind (R.bind (R.bind (R.bind (R.bind (R.bind (R.ok a_many) fun x3 => R.bind (R.bind (R.bind (R.bind (R.bind (R.ok a_rule) fun x7 => R.bind (R.ok (PyData.int 0)) fun x8 => R.opt (pyIx x7 x8)) fun x9 => R.bind (R.ok []) fun x10 => R.ok (x9 :: x10)) fun x11 => R.opt (pyLen x11)) fun x5 => R.bind (R.bind (R.ok (PyData.int 6)) fun x12 => R.bind (R.ok []) fun x13 => R.ok (Slot.dat x12 :: x13)) fun x6 => R.ok (Slot.dat x5 :: x6)) fun x4 => R.ok (Slot.dat x3 :: x4)) F_is_whole) asB) fun t14 => R.ok (!t14)) fun t24 => if t24 then R.ok true else R.bind (R.bind (R.bind (R.bind (R.bind (R.bind (R.ok a_rule) fun x15 => R.bind (R.bind (R.ok a_many) fun x17 => R.bind (R.ok []) fun x18 => R.ok (Slot.dat x17 :: x18)) fun x16 => R.ok (Slot.dat x15 :: x16)) F_row_of) fun x19 => R.bind (R.ok []) fun x20 => R.ok (x19 :: x20)) fun x21 => R.opt (pyLen x21)) fun x22 => R.bind (R.ok a_many) fun x23 => R.opt (pyLt x22 x23)) asB) fun t34 => if t34 then
 R.exc XC.noNumber
 else
 R.bind (R.bind (R.bind (R.ok a_rule) fun x25 => R.bind (R.bind (R.bind (R.bind (R.ok a_rule) fun x29 => R.bind (R.bind (R.ok a_many) fun x31 => R.bind (R.ok []) fun x32 => R.ok (Slot.dat x31 :: x32)) fun x30 => R.ok (Slot.dat x29 :: x30)) F_row_of) fun x27 => R.bind (R.ok []) fun x28 => R.ok (Slot.dat x27 :: x28)) fun x26 => R.ok (Slot.dat x25 :: x26)) F_with_first) fun x33 => R.ok (Out.rt x33)) outD
def F_unfolded : List Slot → R D
  | [.dat a_rule, .dat a_many] => m_unfolded a_rule a_many
  | _ => R.stuck
def m_living (a_terms : D) (a_more : D) (a_many : D) : R D := R.bind (R.bind (R.bind (R.bind (R.ok a_many) fun x1 => R.bind (R.ok []) fun x2 => R.ok (Slot.dat x1 :: x2)) F_look_many) fun _ =>
 R.bind (R.bind (R.bind (R.bind (R.bind (R.ok a_terms) fun x3 => R.ok (PyData.bool (isTy Ty5.tuple x3))) asB) fun t4 => R.ok (!t4)) fun t13 => if t13 then R.ok true else R.bind (R.bind (R.bind (R.bind (R.bind (R.bind (R.bind (R.ok a_terms) asSeq) (compD R.ok (fun _ => R.ok true) (fun d5 => R.bind (R.bind (R.ok d5) fun x7 => R.bind (R.ok []) fun x8 => R.ok (Slot.dat x7 :: x8)) F_is_term))) lstD) fun x9 => R.bind (R.ok []) fun x10 => R.ok (x9 :: x10)) fun x11 => R.opt (pyAll x11)) asB) fun t12 => R.ok (!t12)) fun t51 => if t51 then
 R.exc XC.noRule
 else
 R.bind (R.ok []) fun l14 =>
 R.bind (R.bind (R.bind (R.ok (PyData.int 1)) fun x19 => R.bind (R.bind (R.bind (R.ok (PyData.int 6)) fun x15 => R.bind (R.ok (PyData.int 1)) fun x16 => R.opt (pyAdd x15 x16)) fun x17 => R.bind (R.ok []) fun x18 => R.ok (x17 :: x18)) fun x20 => R.ok (x19 :: x20)) rng2) fun ds50 => R.bind (forM (fun (z23 : List D) (d24 : D) =>
 R.bind (R.bind (R.bind (R.bind (R.ok (PyData.tuple [PyData.int 1])) fun x25 => R.bind (R.ok d24) fun x26 => R.opt (pyMulT x25 x26)) fun x31 => R.bind (R.bind (R.ok a_more) fun x29 => R.bind (R.bind (R.ok a_terms) fun x27 => R.bind (R.ok []) fun x28 => R.ok (x27 :: x28)) fun x30 => R.ok (x29 :: x30)) fun x32 => R.ok (x31 :: x32)) fun x33 => R.ok (PyData.tuple x33)) fun v34 =>
 R.bind (R.bind (R.bind (R.ok v34) fun x35 => R.bind (R.ok []) fun x36 => R.ok (Slot.dat x35 :: x36)) F_look_rule) fun _ =>
 R.bind (R.bind (R.bind (R.bind (R.bind (R.bind (R.bind (R.ok v34) fun x37 => R.bind (R.bind (R.ok a_many) fun x39 => R.bind (R.ok []) fun x40 => R.ok (Slot.dat x39 :: x40)) fun x38 => R.ok (Slot.dat x37 :: x38)) F_row_of) fun x41 => R.bind (R.ok []) fun x42 => R.ok (x41 :: x42)) fun x43 => R.opt (pyLen x43)) fun x44 => R.bind (R.ok a_many) fun x45 => R.opt (pyEq x44 x45)) asB) fun t48 => if t48 then
 R.bind (R.ok d24) fun d46 => if lineOk (List.length z23 + 1) then (fun l47 =>
 R.ok (Out.nx l47)) (z23 ++ [d46]) else R.stuck
 else
 R.ok (Out.nx z23)) ds50 l14) (Out.cont fun (z49 : List D) =>
 R.ok (Out.rt (PyData.list z49)))) outD
def F_living : List Slot → R D
  | [.dat a_terms, .dat a_more, .dat a_many] => m_living a_terms a_more a_many
  | _ => R.stuck
def m_term_text : Nat → D → R D
  | 0, _ => R.stuck
  | k + 1, a_term => R.bind (R.bind (R.bind (R.bind (R.bind (R.ok a_term) fun x1 => R.bind (R.ok (PyData.int 0)) fun x2 => R.opt (pyIx x1 x2)) fun x3 => R.bind (R.ok (PyData.str (PySem.Str.ofString "at"))) fun x4 => R.opt (pyEq x3 x4)) asB) fun t50 => if t50 then
 R.bind (R.bind (R.ok (PyData.str (PySem.Str.ofString "a"))) fun x10 => R.bind (R.bind (R.bind (R.bind (R.ok a_term) fun x5 => R.bind (R.ok (PyData.int 1)) fun x6 => R.opt (pyIx x5 x6)) fun x7 => R.bind (R.ok []) fun x8 => R.ok (x7 :: x8)) fun x9 => R.opt (pyStrD x9)) fun x11 => R.opt (pyAdd x10 x11)) fun x12 => R.ok (Out.rt x12)
 else
 R.bind (R.bind (R.bind (R.bind (R.ok a_term) fun x13 => R.bind (R.ok (PyData.int 0)) fun x14 => R.opt (pyIx x13 x14)) fun x15 => R.bind (R.ok (PyData.str (PySem.Str.ofString "of"))) fun x16 => R.opt (pyEq x15 x16)) asB) fun t49 => if t49 then
 R.bind (R.bind (R.bind (R.ok (PyData.str (PySem.Str.ofString "a("))) fun x21 => R.bind (R.bind (R.bind (R.bind (R.ok a_term) fun x19 => R.bind (R.ok (PyData.int 1)) fun x20 => R.opt (pyIx x19 x20)) fun x17 => R.bind (R.ok []) fun x18 => R.ok (Slot.dat x17 :: x18)) (fun ss => match ss with | [.dat a_term] => m_term_text k a_term | _ => R.stuck)) fun x22 => R.opt (pyAdd x21 x22)) fun x23 => R.bind (R.ok (PyData.str (PySem.Str.ofString ")"))) fun x24 => R.opt (pyAdd x23 x24)) fun x25 => R.ok (Out.rt x25)
 else
 R.bind (R.bind (R.bind (R.bind (R.bind (R.bind (R.bind (R.bind (R.bind (R.ok a_term) fun x26 => R.bind (R.ok (PyData.int 0)) fun x27 => R.opt (pyIx x26 x27)) fun x28 => R.bind (R.ok (PyData.str (PySem.Str.ofString "back"))) fun x29 => R.opt (pyEq x28 x29)) asB) fun t30 => if t30 then R.ok (PyData.str (PySem.Str.ofString "b")) else R.ok (PyData.str (PySem.Str.ofString "r"))) fun x36 => R.bind (R.bind (R.bind (R.bind (R.ok a_term) fun x31 => R.bind (R.ok (PyData.int 1)) fun x32 => R.opt (pyIx x31 x32)) fun x33 => R.bind (R.ok []) fun x34 => R.ok (x33 :: x34)) fun x35 => R.opt (pyStrD x35)) fun x37 => R.opt (pyAdd x36 x37)) fun x38 => R.bind (R.ok (PyData.str (PySem.Str.ofString "("))) fun x39 => R.opt (pyAdd x38 x39)) fun x44 => R.bind (R.bind (R.bind (R.bind (R.ok a_term) fun x42 => R.bind (R.ok (PyData.int 2)) fun x43 => R.opt (pyIx x42 x43)) fun x40 => R.bind (R.ok []) fun x41 => R.ok (Slot.dat x40 :: x41)) (fun ss => match ss with | [.dat a_term] => m_term_text k a_term | _ => R.stuck)) fun x45 => R.opt (pyAdd x44 x45)) fun x46 => R.bind (R.ok (PyData.str (PySem.Str.ofString ")"))) fun x47 => R.opt (pyAdd x46 x47)) fun x48 => R.ok (Out.rt x48)) outD
def F_term_text (k : Nat) : List Slot → R D
  | [.dat a_term] => m_term_text k a_term
  | _ => R.stuck
def m_text_of (a_rule : D) : R D := R.bind (R.bind (R.bind (R.bind (R.ok (PyData.str (PySem.Str.ofString " "))) asS) fun x8 => R.bind (R.bind (R.bind (R.bind (R.bind (R.ok a_rule) fun x1 => R.bind (R.ok (PyData.int 0)) fun x2 => R.opt (pyIx x1 x2)) asSeq) (compD R.ok (fun _ => R.ok true) (fun d3 => R.bind (R.bind (R.ok d3) fun x5 => R.bind (R.ok []) fun x6 => R.ok (x5 :: x6)) fun x7 => R.opt (pyStrD x7)))) lstD) fun x9 => R.opt (pyJoin x8 x9)) fun v10 =>
 R.bind (R.bind (R.bind (R.ok v10) fun x11 => R.bind (R.ok (PyData.str (PySem.Str.ofString " | "))) fun x12 => R.opt (pyAdd x11 x12)) fun x30 => R.bind (R.bind (R.bind (R.ok (PyData.str (PySem.Str.ofString " + "))) asS) fun x28 => R.bind (R.bind (R.bind (R.bind (R.bind (R.bind (R.bind (R.ok a_rule) fun x13 => R.bind (R.ok (PyData.int 1)) fun x14 => R.opt (pyIx x13 x14)) fun x15 => R.bind (R.ok []) fun x16 => R.ok (x15 :: x16)) fun x17 => R.opt (pyStrD x17)) fun x18 => R.bind (R.ok []) fun x19 => R.ok (x18 :: x19)) lstD) fun x26 => R.bind (R.bind (R.bind (R.bind (R.bind (R.ok a_rule) fun x20 => R.bind (R.ok (PyData.int 2)) fun x21 => R.opt (pyIx x20 x21)) asSeq) (compD R.ok (fun _ => R.ok true) (fun d22 => R.bind (R.bind (R.ok d22) fun x24 => R.bind (R.ok []) fun x25 => R.ok (Slot.dat x24 :: x25)) (F_term_text 14)))) lstD) fun x27 => R.opt (pyAdd x26 x27)) fun x29 => R.opt (pyJoin x28 x29)) fun x31 => R.opt (pyAdd x30 x31)) fun x32 => R.ok (Out.rt x32)) outD
def F_text_of : List Slot → R D
  | [.dat a_rule] => m_text_of a_rule
  | _ => R.stuck
def m_rule_text (a_rule : D) : R D := R.bind (R.bind (R.bind (R.bind (R.ok a_rule) fun x1 => R.bind (R.ok []) fun x2 => R.ok (Slot.dat x1 :: x2)) F_look_rule) fun _ =>
 R.bind (R.bind (R.bind (R.ok a_rule) fun x3 => R.bind (R.ok []) fun x4 => R.ok (Slot.dat x3 :: x4)) F_text_of) fun x5 => R.ok (Out.rt x5)) outD
def F_rule_text : List Slot → R D
  | [.dat a_rule] => m_rule_text a_rule
  | _ => R.stuck
def m_digit (a_word : D) : R D := R.bind (R.bind (R.bind (R.bind (R.bind (R.bind (R.bind (R.ok a_word) fun x1 => R.bind (R.ok []) fun x2 => R.ok (x1 :: x2)) fun x3 => R.opt (pyLen x3)) fun x4 => R.bind (R.ok (PyData.int 1)) fun x5 => R.opt (pyNe x4 x5)) asB) fun t8 => if t8 then R.ok true else R.bind (R.bind (R.ok a_word) fun x6 => R.bind (R.ok (PyData.str (PySem.Str.ofString "0123456789"))) fun x7 => R.opt (pyIn true x6 x7)) asB) fun t13 => if t13 then
 R.exc XC.noText
 else
 R.bind (R.bind (R.bind (R.ok a_word) fun x9 => R.bind (R.ok []) fun x10 => R.ok (x9 :: x10)) fun x11 => R.opt (pyIntD x11)) fun x12 => R.ok (Out.rt x12)) outD
def F_digit : List Slot → R D
  | [.dat a_word] => m_digit a_word
  | _ => R.stuck
def m_term_in : Nat → D → D → R D
  | 0, _, _ => R.stuck
  | k + 1, a_text, a_deep => R.bind (R.bind (R.bind (R.bind (R.bind (R.ok a_deep) fun x1 => R.bind (R.ok (PyData.int 0)) fun x2 => R.opt (pyEq x1 x2)) asB) fun t8 => if t8 then R.ok true else R.bind (R.bind (R.bind (R.ok a_text) fun x3 => R.bind (R.ok none) fun x4 => R.bind (R.bind (R.ok (PyData.int 1)) asI) fun x5 => R.opt (pySl x3 x4 x5)) fun x6 => R.bind (R.ok (PyData.tuple [PyData.str (PySem.Str.ofString "a"), PyData.str (PySem.Str.ofString "b"), PyData.str (PySem.Str.ofString "r")])) fun x7 => R.opt (pyIn true x6 x7)) asB) fun t93 => if t93 then
 R.exc XC.noText
 else
 R.bind (R.bind (R.bind (R.bind (R.bind (R.ok a_text) fun x9 => R.bind (R.ok (PyData.int 0)) fun x10 => R.opt (pyIx x9 x10)) fun x11 => R.bind (R.ok (PyData.str (PySem.Str.ofString "a"))) fun x12 => R.opt (pyEq x11 x12)) asB) fun t18 => if t18 then R.bind (R.bind (R.bind (R.ok a_text) fun x13 => R.bind (R.bind (R.ok (PyData.int 1)) asI) fun x14 => R.bind (R.bind (R.ok (PyData.int 2)) asI) fun x15 => R.opt (pySl x13 x14 x15)) fun x16 => R.bind (R.ok (PyData.str (PySem.Str.ofString "("))) fun x17 => R.opt (pyNe x16 x17)) asB else R.ok false) fun t92 => if t92 then
 R.bind (R.bind (R.bind (R.ok (PyData.str (PySem.Str.ofString "at"))) fun x26 => R.bind (R.bind (R.bind (R.bind (R.bind (R.ok a_text) fun x21 => R.bind (R.bind (R.ok (PyData.int 1)) asI) fun x22 => R.bind (R.ok none) fun x23 => R.opt (pySl x21 x22 x23)) fun x19 => R.bind (R.ok []) fun x20 => R.ok (Slot.dat x19 :: x20)) F_digit) fun x24 => R.bind (R.ok []) fun x25 => R.ok (x24 :: x25)) fun x27 => R.ok (x26 :: x27)) fun x28 => R.ok (PyData.tuple x28)) fun x29 => R.ok (Out.rt x29)
 else
 R.bind (R.bind (R.bind (R.bind (R.bind (R.ok a_text) fun x30 => R.bind (R.ok (PyData.int 0)) fun x31 => R.opt (pyIx x30 x31)) fun x32 => R.bind (R.ok (PyData.str (PySem.Str.ofString "a"))) fun x33 => R.opt (pyEq x32 x33)) asB) fun t34 => if t34 then R.ok (PyData.int 1) else R.ok (PyData.int 2)) fun v35 =>
 R.bind (R.bind (R.bind (R.bind (R.bind (R.ok a_text) fun x38 => R.bind (R.bind (R.ok v35) asI) fun x39 => R.bind (R.bind (R.bind (R.ok v35) fun x36 => R.bind (R.ok (PyData.int 1)) fun x37 => R.opt (pyAdd x36 x37)) asI) fun x40 => R.opt (pySl x38 x39 x40)) fun x41 => R.bind (R.ok (PyData.str (PySem.Str.ofString "("))) fun x42 => R.opt (pyNe x41 x42)) asB) fun t49 => if t49 then R.ok true else R.bind (R.bind (R.bind (R.ok a_text) fun x44 => R.bind (R.bind (R.bind (R.ok (PyData.int 1)) fun x43 => R.opt (pyNeg x43)) asI) fun x45 => R.bind (R.ok none) fun x46 => R.opt (pySl x44 x45 x46)) fun x47 => R.bind (R.ok (PyData.str (PySem.Str.ofString ")"))) fun x48 => R.opt (pyNe x47 x48)) asB) fun t91 => if t91 then
 R.exc XC.noText
 else
 R.bind (R.bind (R.bind (R.bind (R.ok a_text) fun x55 => R.bind (R.bind (R.bind (R.ok v35) fun x52 => R.bind (R.ok (PyData.int 1)) fun x53 => R.opt (pyAdd x52 x53)) asI) fun x56 => R.bind (R.bind (R.bind (R.ok (PyData.int 1)) fun x54 => R.opt (pyNeg x54)) asI) fun x57 => R.opt (pySl x55 x56 x57)) fun x50 => R.bind (R.bind (R.bind (R.ok a_deep) fun x60 => R.bind (R.ok (PyData.int 1)) fun x61 => R.opt (pySub x60 x61)) fun x58 => R.bind (R.ok []) fun x59 => R.ok (Slot.dat x58 :: x59)) fun x51 => R.ok (Slot.dat x50 :: x51)) (fun ss => match ss with | [.dat a_text, .dat a_deep] => m_term_in k a_text a_deep | _ => R.stuck)) fun v62 =>
 R.bind (R.bind (R.bind (R.bind (R.ok a_text) fun x63 => R.bind (R.ok (PyData.int 0)) fun x64 => R.opt (pyIx x63 x64)) fun x65 => R.bind (R.ok (PyData.str (PySem.Str.ofString "a"))) fun x66 => R.opt (pyEq x65 x66)) asB) fun t90 => if t90 then
 R.bind (R.bind (R.bind (R.ok (PyData.str (PySem.Str.ofString "of"))) fun x69 => R.bind (R.bind (R.ok v62) fun x67 => R.bind (R.ok []) fun x68 => R.ok (x67 :: x68)) fun x70 => R.ok (x69 :: x70)) fun x71 => R.ok (PyData.tuple x71)) fun x72 => R.ok (Out.rt x72)
 else
 R.bind (R.bind (R.bind (R.bind (R.bind (R.bind (R.bind (R.ok a_text) fun x73 => R.bind (R.ok (PyData.int 0)) fun x74 => R.opt (pyIx x73 x74)) fun x75 => R.bind (R.ok (PyData.str (PySem.Str.ofString "b"))) fun x76 => R.opt (pyEq x75 x76)) asB) fun t77 => if t77 then R.ok (PyData.str (PySem.Str.ofString "back")) else R.ok (PyData.str (PySem.Str.ofString "rest"))) fun x86 => R.bind (R.bind (R.bind (R.bind (R.bind (R.ok a_text) fun x80 => R.bind (R.ok (PyData.int 1)) fun x81 => R.opt (pyIx x80 x81)) fun x78 => R.bind (R.ok []) fun x79 => R.ok (Slot.dat x78 :: x79)) F_digit) fun x84 => R.bind (R.bind (R.ok v62) fun x82 => R.bind (R.ok []) fun x83 => R.ok (x82 :: x83)) fun x85 => R.ok (x84 :: x85)) fun x87 => R.ok (x86 :: x87)) fun x88 => R.ok (PyData.tuple x88)) fun x89 => R.ok (Out.rt x89)) outD
def F_term_in (k : Nat) : List Slot → R D
  | [.dat a_text, .dat a_deep] => m_term_in k a_text a_deep
  | _ => R.stuck
def m_read_rule (a_text : D) : R D := R.bind (R.bind (R.bind (R.bind (R.ok a_text) asS) fun x1 => R.bind (R.ok (PyData.str (PySem.Str.ofString " | "))) fun x2 => R.opt (pySplit x1 x2)) fun v3 =>
 R.bind (R.bind (R.bind (R.bind (R.bind (R.ok v3) fun x4 => R.bind (R.ok []) fun x5 => R.ok (x4 :: x5)) fun x6 => R.opt (pyLen x6)) fun x7 => R.bind (R.ok (PyData.int 2)) fun x8 => R.opt (pyNe x7 x8)) asB) fun t54 => if t54 then
 R.exc XC.noText
 else
 R.bind (R.bind (R.bind (R.bind (R.ok v3) fun x9 => R.bind (R.ok (PyData.int 1)) fun x10 => R.opt (pyIx x9 x10)) asS) fun x11 => R.bind (R.ok (PyData.str (PySem.Str.ofString " + "))) fun x12 => R.opt (pySplit x11 x12)) fun v13 =>
 R.bind (R.bind (R.bind (R.bind (R.bind (R.bind (R.bind (R.bind (R.bind (R.ok v3) fun x14 => R.bind (R.ok (PyData.int 0)) fun x15 => R.opt (pyIx x14 x15)) asS) fun x16 => R.bind (R.ok (PyData.str (PySem.Str.ofString " "))) fun x17 => R.opt (pySplit x16 x17)) asSeq) (compD R.ok (fun _ => R.ok true) (fun d18 => R.bind (R.bind (R.ok d18) fun x20 => R.bind (R.ok []) fun x21 => R.ok (Slot.dat x20 :: x21)) F_digit))) lstD) asSeq) tupD) fun v22 =>
 R.bind (R.bind (R.bind (R.ok v22) fun x40 => R.bind (R.bind (R.bind (R.bind (R.bind (R.ok v13) fun x25 => R.bind (R.ok (PyData.int 0)) fun x26 => R.opt (pyIx x25 x26)) fun x23 => R.bind (R.ok []) fun x24 => R.ok (Slot.dat x23 :: x24)) F_digit) fun x38 => R.bind (R.bind (R.bind (R.bind (R.bind (R.bind (R.bind (R.bind (R.ok v13) fun x27 => R.bind (R.bind (R.ok (PyData.int 1)) asI) fun x28 => R.bind (R.ok none) fun x29 => R.opt (pySl x27 x28 x29)) asSeq) (compD R.ok (fun _ => R.ok true) (fun d30 => R.bind (R.bind (R.ok d30) fun x32 => R.bind (R.bind (R.ok (PyData.int 3)) fun x34 => R.bind (R.ok []) fun x35 => R.ok (Slot.dat x34 :: x35)) fun x33 => R.ok (Slot.dat x32 :: x33)) (F_term_in 14)))) lstD) asSeq) tupD) fun x36 => R.bind (R.ok []) fun x37 => R.ok (x36 :: x37)) fun x39 => R.ok (x38 :: x39)) fun x41 => R.ok (x40 :: x41)) fun x42 => R.ok (PyData.tuple x42)) fun v43 =>
 R.bind (R.bind (R.bind (R.bind (R.bind (R.bind (R.ok v43) fun x44 => R.bind (R.ok []) fun x45 => R.ok (Slot.dat x44 :: x45)) F_is_rule) asB) fun t46 => R.ok (!t46)) fun t51 => if t51 then R.ok true else R.bind (R.bind (R.bind (R.bind (R.ok v43) fun x47 => R.bind (R.ok []) fun x48 => R.ok (Slot.dat x47 :: x48)) F_text_of) fun x49 => R.bind (R.ok a_text) fun x50 => R.opt (pyNe x49 x50)) asB) fun t53 => if t53 then
 R.exc XC.noText
 else
 R.bind (R.ok v43) fun x52 => R.ok (Out.rt x52)) outD
def F_read_rule : List Slot → R D
  | [.dat a_text] => m_read_rule a_text
  | _ => R.stuck
def m__law_spoilt (a_text : D) (a_cell : D) (a_signs : D) : R D := R.bind (R.bind (R.bind (R.ok a_cell) fun x6 => R.bind (R.bind (R.bind (R.bind (R.ok a_text) fun x1 => R.bind (R.ok []) fun x2 => R.ok (x1 :: x2)) fun x3 => R.opt (pyLen x3)) fun x4 => R.bind (R.ok (PyData.int 1)) fun x5 => R.opt (pyAdd x4 x5)) fun x7 => R.opt (pyMod x6 x7)) fun v8 =>
 R.bind (R.bind (R.ok a_signs) fun x16 => R.bind (R.bind (R.bind (R.ok a_cell) fun x9 => R.bind (R.ok (PyData.int 1000)) fun x10 => R.opt (pyDiv x9 x10)) fun x14 => R.bind (R.bind (R.bind (R.ok a_signs) fun x11 => R.bind (R.ok []) fun x12 => R.ok (x11 :: x12)) fun x13 => R.opt (pyLen x13)) fun x15 => R.opt (pyMod x14 x15)) fun x17 => R.opt (pyIx x16 x17)) fun v18 =>
 R.bind (R.bind (R.bind (R.ok v8) fun x19 => R.bind (R.ok (PyData.int 1)) fun x20 => R.opt (pyAdd x19 x20)) fun x25 => R.bind (R.bind (R.bind (R.ok a_cell) fun x21 => R.bind (R.ok (PyData.int 7)) fun x22 => R.opt (pyDiv x21 x22)) fun x23 => R.bind (R.ok (PyData.int 9)) fun x24 => R.opt (pyMod x23 x24)) fun x26 => R.opt (pyAdd x25 x26)) fun v27 =>
 R.bind (R.bind (R.bind (R.ok a_cell) fun x28 => R.bind (R.ok (PyData.int 100000)) fun x29 => R.opt (pyDiv x28 x29)) fun x30 => R.bind (R.ok (PyData.int 8)) fun x31 => R.opt (pyMod x30 x31)) fun v32 =>
 R.bind (R.bind (R.bind (R.ok v32) fun x33 => R.bind (R.ok (PyData.int 2)) fun x34 => R.opt (pyLt x33 x34)) asB) fun t129 => if t129 then
 R.bind (R.bind (R.bind (R.bind (R.ok a_text) fun x35 => R.bind (R.ok none) fun x36 => R.bind (R.bind (R.ok v8) asI) fun x37 => R.opt (pySl x35 x36 x37)) fun x38 => R.bind (R.ok v18) fun x39 => R.opt (pyAdd x38 x39)) fun x43 => R.bind (R.bind (R.ok a_text) fun x40 => R.bind (R.bind (R.ok v8) asI) fun x41 => R.bind (R.ok none) fun x42 => R.opt (pySl x40 x41 x42)) fun x44 => R.opt (pyAdd x43 x44)) fun x45 => R.ok (Out.rt x45)
 else
 R.bind (R.bind (R.bind (R.ok v32) fun x46 => R.bind (R.ok (PyData.int 2)) fun x47 => R.opt (pyEq x46 x47)) asB) fun t128 => if t128 then
 R.bind (R.bind (R.bind (R.ok a_text) fun x48 => R.bind (R.ok none) fun x49 => R.bind (R.bind (R.ok v8) asI) fun x50 => R.opt (pySl x48 x49 x50)) fun x56 => R.bind (R.bind (R.ok a_text) fun x53 => R.bind (R.bind (R.bind (R.ok v8) fun x51 => R.bind (R.ok (PyData.int 1)) fun x52 => R.opt (pyAdd x51 x52)) asI) fun x54 => R.bind (R.ok none) fun x55 => R.opt (pySl x53 x54 x55)) fun x57 => R.opt (pyAdd x56 x57)) fun x58 => R.ok (Out.rt x58)
 else
 R.bind (R.bind (R.bind (R.ok v32) fun x59 => R.bind (R.ok (PyData.int 5)) fun x60 => R.opt (pyLt x59 x60)) asB) fun t127 => if t127 then
 R.bind (R.bind (R.bind (R.bind (R.ok a_text) fun x61 => R.bind (R.ok none) fun x62 => R.bind (R.bind (R.ok v8) asI) fun x63 => R.opt (pySl x61 x62 x63)) fun x64 => R.bind (R.ok v18) fun x65 => R.opt (pyAdd x64 x65)) fun x71 => R.bind (R.bind (R.ok a_text) fun x68 => R.bind (R.bind (R.bind (R.ok v8) fun x66 => R.bind (R.ok (PyData.int 1)) fun x67 => R.opt (pyAdd x66 x67)) asI) fun x69 => R.bind (R.ok none) fun x70 => R.opt (pySl x68 x69 x70)) fun x72 => R.opt (pyAdd x71 x72)) fun x73 => R.ok (Out.rt x73)
 else
 R.bind (R.bind (R.bind (R.ok v32) fun x74 => R.bind (R.ok (PyData.int 5)) fun x75 => R.opt (pyEq x74 x75)) asB) fun t126 => if t126 then
 R.bind (R.bind (R.bind (R.ok a_text) fun x76 => R.bind (R.ok none) fun x77 => R.bind (R.bind (R.ok v8) asI) fun x78 => R.opt (pySl x76 x77 x78)) fun x82 => R.bind (R.bind (R.ok a_text) fun x79 => R.bind (R.bind (R.ok v27) asI) fun x80 => R.bind (R.ok none) fun x81 => R.opt (pySl x79 x80 x81)) fun x83 => R.opt (pyAdd x82 x83)) fun x84 => R.ok (Out.rt x84)
 else
 R.bind (R.bind (R.bind (R.ok v32) fun x85 => R.bind (R.ok (PyData.int 6)) fun x86 => R.opt (pyEq x85 x86)) asB) fun t125 => if t125 then
 R.bind (R.bind (R.bind (R.ok a_text) fun x87 => R.bind (R.ok none) fun x88 => R.bind (R.bind (R.ok v27) asI) fun x89 => R.opt (pySl x87 x88 x89)) fun x93 => R.bind (R.bind (R.ok a_text) fun x90 => R.bind (R.bind (R.ok v8) asI) fun x91 => R.bind (R.ok none) fun x92 => R.opt (pySl x90 x91 x92)) fun x94 => R.opt (pyAdd x93 x94)) fun x95 => R.ok (Out.rt x95)
 else
 R.bind (R.bind (R.bind (R.bind (R.bind (R.ok a_text) fun x96 => R.bind (R.ok (PyData.str (PySem.Str.ofString " "))) fun x97 => R.opt (pyAdd x96 x97)) fun x118 => R.bind (R.bind (R.bind (R.ok (PyData.str (PySem.Str.ofString " "))) fun x98 => R.bind (R.ok a_text) fun x99 => R.opt (pyAdd x98 x99)) fun x116 => R.bind (R.bind (R.bind (R.bind (R.ok a_text) fun x100 => R.bind (R.bind (R.ok v8) asI) fun x101 => R.bind (R.ok none) fun x102 => R.opt (pySl x100 x101 x102)) fun x106 => R.bind (R.bind (R.ok a_text) fun x103 => R.bind (R.ok none) fun x104 => R.bind (R.bind (R.ok v8) asI) fun x105 => R.opt (pySl x103 x104 x105)) fun x107 => R.opt (pyAdd x106 x107)) fun x114 => R.bind (R.bind (R.ok (PyData.str (PySem.Str.ofString ""))) fun x112 => R.bind (R.bind (R.bind (R.ok a_text) fun x108 => R.bind (R.ok a_text) fun x109 => R.opt (pyAdd x108 x109)) fun x110 => R.bind (R.ok []) fun x111 => R.ok (x110 :: x111)) fun x113 => R.ok (x112 :: x113)) fun x115 => R.ok (x114 :: x115)) fun x117 => R.ok (x116 :: x117)) fun x119 => R.ok (x118 :: x119)) lstD) fun x122 => R.bind (R.bind (R.ok a_cell) fun x120 => R.bind (R.ok (PyData.int 5)) fun x121 => R.opt (pyMod x120 x121)) fun x123 => R.opt (pyIx x122 x123)) fun x124 => R.ok (Out.rt x124)) outD
def F__law_spoilt : List Slot → R D
  | [.dat a_text, .dat a_cell, .dat a_signs] => m__law_spoilt a_text a_cell a_signs
  | _ => R.stuck
def m_parts_of (a_rule : D) (a_many : D) : R D := R.bind (R.bind (R.bind (R.bind (R.ok a_rule) fun x1 => R.bind (R.bind (R.ok a_many) fun x3 => R.bind (R.ok []) fun x4 => R.ok (Slot.dat x3 :: x4)) fun x2 => R.ok (Slot.dat x1 :: x2)) F_row_of) fun v5 =>
 R.bind (R.ok []) fun l6 =>
 R.bind (R.bind (R.bind (R.ok (PyData.int 1)) fun x14 => R.bind (R.bind (R.bind (R.bind (R.bind (R.ok v5) fun x7 => R.bind (R.ok []) fun x8 => R.ok (x7 :: x8)) fun x9 => R.opt (pyLen x9)) fun x10 => R.bind (R.ok (PyData.int 1)) fun x11 => R.opt (pyAdd x10 x11)) fun x12 => R.bind (R.ok []) fun x13 => R.ok (x12 :: x13)) fun x15 => R.ok (x14 :: x15)) rng2) fun ds145 => R.bind (forM (fun (z18 : List D) (d19 : D) =>
 R.bind (R.bind (R.bind (R.ok d19) fun x25 => R.bind (R.bind (R.bind (R.bind (R.ok a_rule) fun x20 => R.bind (R.ok (PyData.int 0)) fun x21 => R.opt (pyIx x20 x21)) fun x22 => R.bind (R.ok []) fun x23 => R.ok (x22 :: x23)) fun x24 => R.opt (pyLen x24)) fun x26 => R.opt (pyLe x25 x26)) asB) fun t143 => if t143 then
 R.bind (R.bind (R.bind (R.bind (R.bind (R.bind (R.bind (R.bind (R.bind (R.bind (R.ok a_rule) fun x27 => R.bind (R.ok (PyData.int 0)) fun x28 => R.opt (pyIx x27 x28)) fun x29 => R.bind (R.ok []) fun x30 => R.ok (x29 :: x30)) fun x31 => R.opt (pyLen x31)) fun x32 => R.bind (R.ok []) fun x33 => R.ok (x32 :: x33)) rng1) (compD R.ok (fun _ => R.ok true) (fun d34 => R.bind (R.bind (R.bind (R.ok d19) fun x38 => R.bind (R.bind (R.ok d34) fun x36 => R.bind (R.ok (PyData.int 1)) fun x37 => R.opt (pyAdd x36 x37)) fun x39 => R.opt (pyEq x38 x39)) fun x40 => R.bind (R.ok []) fun x41 => R.ok (x40 :: x41)) fun x42 => R.opt (pyIntD x42)))) lstD) fun x47 => R.bind (R.bind (R.ok (PyData.int 0)) fun x45 => R.bind (R.bind (R.ok (PyData.int 0)) fun x43 => R.bind (R.ok []) fun x44 => R.ok (x43 :: x44)) fun x46 => R.ok (x45 :: x46)) fun x48 => R.ok (x47 :: x48)) fun x49 => R.ok (PyData.tuple x49)) fun d50 => if lineOk (List.length z18 + 1) then (fun l51 =>
 R.ok (Out.nx l51)) (z18 ++ [d50]) else R.stuck
 else
 R.bind (R.bind (R.bind (R.bind (R.bind (R.bind (R.bind (R.ok (PyData.int 0)) fun x55 => R.bind (R.ok []) fun x56 => R.ok (x55 :: x56)) lstD) fun x62 => R.bind (R.bind (R.bind (R.bind (R.ok a_rule) fun x57 => R.bind (R.ok (PyData.int 0)) fun x58 => R.opt (pyIx x57 x58)) fun x59 => R.bind (R.ok []) fun x60 => R.ok (x59 :: x60)) fun x61 => R.opt (pyLen x61)) fun x63 => pyRepL x62 x63) lstD) fun x68 => R.bind (R.bind (R.ok (PyData.int 1)) fun x66 => R.bind (R.bind (R.ok (PyData.int 0)) fun x64 => R.bind (R.ok []) fun x65 => R.ok (x64 :: x65)) fun x67 => R.ok (x66 :: x67)) fun x69 => R.ok (x68 :: x69)) open3l) fun z70 =>
 R.bind (R.bind (R.bind (R.ok a_rule) fun x71 => R.bind (R.ok (PyData.int 2)) fun x72 => R.opt (pyIx x71 x72)) asSeq) fun ds142 => R.bind (forM (fun (z75 : D × D × D) (d76 : D) =>
 R.bind (R.bind (R.bind (R.bind (R.ok d76) fun x77 => R.bind (R.ok (PyData.int 0)) fun x78 => R.opt (pyIx x77 x78)) fun x79 => R.bind (R.ok (PyData.str (PySem.Str.ofString "rest"))) fun x80 => R.opt (pyEq x79 x80)) asB) fun t131 => if t131 then
 R.bind (R.bind (R.ok z75.1) fun x90 => R.bind (R.bind (R.bind (R.ok d76) fun x81 => R.bind (R.bind (R.bind (R.bind (R.ok v5) fun x87 => R.bind (R.ok none) fun x88 => R.bind (R.bind (R.bind (R.ok d19) fun x85 => R.bind (R.ok (PyData.int 1)) fun x86 => R.opt (pySub x85 x86)) asI) fun x89 => R.opt (pySl x87 x88 x89)) asLst) fun x83 => R.bind (R.ok []) fun x84 => R.ok (Slot.bor (Ob.lst x83) :: x84)) fun x82 => R.ok (Slot.dat x81 :: x82)) (F_number_of 14)) fun x91 => R.opt (pyAdd x90 x91)) fun v92 =>
 R.ok (Out.nx (v92, z75.2.1, z75.2.2))
 else
 R.bind (R.bind (R.ok z18) fun x104 => R.bind (R.bind (R.bind (R.bind (R.ok d76) fun x93 => R.bind (R.bind (R.bind (R.bind (R.ok v5) fun x99 => R.bind (R.ok none) fun x100 => R.bind (R.bind (R.bind (R.ok d19) fun x97 => R.bind (R.ok (PyData.int 1)) fun x98 => R.opt (pySub x97 x98)) asI) fun x101 => R.opt (pySl x99 x100 x101)) asLst) fun x95 => R.bind (R.ok []) fun x96 => R.ok (Slot.bor (Ob.lst x95) :: x96)) fun x94 => R.ok (Slot.dat x93 :: x94)) (F_place_of 14)) fun x102 => R.bind (R.ok (PyData.int 1)) fun x103 => R.opt (pySub x102 x103)) fun x105 => R.opt (pyIx (PyData.list x104) x105)) fun v106 =>
 R.bind (R.bind (R.bind (R.bind (R.ok z75.2.1) fun x109 => R.bind (R.bind (R.ok v106) fun x107 => R.bind (R.ok (PyData.int 0)) fun x108 => R.opt (pyIx x107 x108)) fun x110 => zipD x109 x110) (compD open2 (fun _ => R.ok true) (fun d111 => R.bind (R.ok d111.1) fun x113 => R.bind (R.ok d111.2) fun x114 => R.opt (pyAdd x113 x114)))) lstD) fun v115 =>
 R.bind (R.bind (R.bind (R.bind (R.ok z75.2.2) fun x120 => R.bind (R.bind (R.ok v106) fun x118 => R.bind (R.ok (PyData.int 1)) fun x119 => R.opt (pyIx x118 x119)) fun x121 => R.opt (pyAdd x120 x121)) fun x128 => R.bind (R.bind (R.bind (R.ok z75.1) fun x124 => R.bind (R.bind (R.ok v106) fun x122 => R.bind (R.ok (PyData.int 2)) fun x123 => R.opt (pyIx x122 x123)) fun x125 => R.opt (pyAdd x124 x125)) fun x126 => R.bind (R.ok []) fun x127 => R.ok (x126 :: x127)) fun x129 => R.ok (x128 :: x129)) open2l) fun z130 =>
 R.ok (Out.nx (z130.2, v115, z130.1))) ds142 (z70.2.2, z70.1, z70.2.1)) (Out.cont fun (z132 : D × D × D) =>
 R.bind (R.bind (R.bind (R.ok z132.2.1) fun x137 => R.bind (R.bind (R.ok z132.2.2) fun x135 => R.bind (R.bind (R.ok z132.1) fun x133 => R.bind (R.ok []) fun x134 => R.ok (x133 :: x134)) fun x136 => R.ok (x135 :: x136)) fun x138 => R.ok (x137 :: x138)) fun x139 => R.ok (PyData.tuple x139)) fun d140 => if lineOk (List.length z18 + 1) then (fun l141 =>
 R.ok (Out.nx l141)) (z18 ++ [d140]) else R.stuck)) ds145 l6) (Out.cont fun (z144 : List D) =>
 R.ok (Out.rt (PyData.list z144)))) outD
def F_parts_of : List Slot → R D
  | [.dat a_rule, .dat a_many] => m_parts_of a_rule a_many
  | _ => R.stuck
def m_roots_of (a_rule : D) (a_place : D) : R D := R.bind (R.bind (R.bind (R.bind (R.ok a_rule) fun x1 => R.bind (R.bind (R.ok a_place) fun x3 => R.bind (R.ok []) fun x4 => R.ok (Slot.dat x3 :: x4)) fun x2 => R.ok (Slot.dat x1 :: x2)) F_number_at) fun _ =>
 R.bind (R.bind (R.bind (R.bind (R.bind (R.ok a_rule) fun x8 => R.bind (R.bind (R.ok a_place) fun x10 => R.bind (R.ok []) fun x11 => R.ok (Slot.dat x10 :: x11)) fun x9 => R.ok (Slot.dat x8 :: x9)) F_parts_of) fun x14 => R.bind (R.bind (R.ok a_place) fun x12 => R.bind (R.ok (PyData.int 1)) fun x13 => R.opt (pySub x12 x13)) fun x15 => R.opt (pyIx x14 x15)) open3) fun z16 =>
 R.bind (R.bind (R.bind (R.bind (R.bind (R.ok z16.1) asSeq) tupD) fun x21 => R.bind (R.bind (R.ok z16.2.1) fun x19 => R.bind (R.bind (R.ok z16.2.2) fun x17 => R.bind (R.ok []) fun x18 => R.ok (x17 :: x18)) fun x20 => R.ok (x19 :: x20)) fun x22 => R.ok (x21 :: x22)) fun x23 => R.ok (PyData.tuple x23)) fun x24 => R.ok (Out.rt x24)) outD
def F_roots_of : List Slot → R D
  | [.dat a_rule, .dat a_place] => m_roots_of a_rule a_place
  | _ => R.stuck
def m__law_parts (a_rule : D) (a_many : D) : R D := R.bind (R.bind (R.bind (R.bind (R.bind (R.ok a_rule) fun x1 => R.bind (R.bind (R.ok a_many) fun x3 => R.bind (R.ok []) fun x4 => R.ok (Slot.dat x3 :: x4)) fun x2 => R.ok (Slot.dat x1 :: x2)) F__law_row) fun x7 => R.bind (R.bind (R.ok []) fun x5 => R.bind (R.ok ()) fun x6 => R.ok (x5, x6)) fun x8 => R.ok (x7, x8)) fun z9 =>
 R.bind (R.bind (R.bind (R.ok (PyData.int 1)) fun x17 => R.bind (R.bind (R.bind (R.bind (R.bind (R.ok z9.1) fun x10 => R.bind (R.ok []) fun x11 => R.ok (x10 :: x11)) fun x12 => R.opt (pyLen x12)) fun x13 => R.bind (R.ok (PyData.int 1)) fun x14 => R.opt (pyAdd x13 x14)) fun x15 => R.bind (R.ok []) fun x16 => R.ok (x15 :: x16)) fun x18 => R.ok (x17 :: x18)) rng2) fun ds143 => R.bind (forM (fun (z21 : List D × List (Key × D)) (d22 : D) =>
 R.bind (R.bind (R.bind (R.ok d22) fun x28 => R.bind (R.bind (R.bind (R.bind (R.ok a_rule) fun x23 => R.bind (R.ok (PyData.int 0)) fun x24 => R.opt (pyIx x23 x24)) fun x25 => R.bind (R.ok []) fun x26 => R.ok (x25 :: x26)) fun x27 => R.opt (pyLen x27)) fun x29 => R.opt (pyLe x28 x29)) asB) fun t141 => R.bind (if t141 then
 R.bind (R.bind (R.bind (R.bind (R.bind (R.bind (R.bind (R.bind (R.bind (R.bind (R.ok a_rule) fun x31 => R.bind (R.ok (PyData.int 0)) fun x32 => R.opt (pyIx x31 x32)) fun x33 => R.bind (R.ok []) fun x34 => R.ok (x33 :: x34)) fun x35 => R.opt (pyLen x35)) fun x36 => R.bind (R.ok []) fun x37 => R.ok (x36 :: x37)) rng1) (compD R.ok (fun _ => R.ok true) (fun d38 => R.bind (R.bind (R.bind (R.bind (R.ok d22) fun x40 => R.bind (R.ok (PyData.int 1)) fun x41 => R.opt (pySub x40 x41)) fun x42 => R.bind (R.ok d38) fun x43 => R.opt (pyEq x42 x43)) fun x44 => R.bind (R.ok []) fun x45 => R.ok (x44 :: x45)) fun x46 => R.opt (pyIntD x46)))) lstD) fun x51 => R.bind (R.bind (R.ok (PyData.int 0)) fun x49 => R.bind (R.bind (R.ok (PyData.int 0)) fun x47 => R.bind (R.ok []) fun x48 => R.ok (x47 :: x48)) fun x50 => R.ok (x49 :: x50)) fun x52 => R.ok (x51 :: x52)) fun x53 => R.ok (PyData.tuple x53)) fun d54 => if lineOk (List.length z21.1 + 1) then (fun l55 =>
 R.ok (Out.nx l55)) (z21.1 ++ [d54]) else R.stuck
 else
 R.bind (R.bind (R.bind (R.bind (R.bind (R.bind (R.bind (R.ok (PyData.int 0)) fun x59 => R.bind (R.ok []) fun x60 => R.ok (x59 :: x60)) lstD) fun x66 => R.bind (R.bind (R.bind (R.bind (R.ok a_rule) fun x61 => R.bind (R.ok (PyData.int 0)) fun x62 => R.opt (pyIx x61 x62)) fun x63 => R.bind (R.ok []) fun x64 => R.ok (x63 :: x64)) fun x65 => R.opt (pyLen x65)) fun x67 => pyRepL x66 x67) lstD) fun x72 => R.bind (R.bind (R.ok (PyData.int 1)) fun x70 => R.bind (R.bind (R.ok (PyData.int 0)) fun x68 => R.bind (R.ok []) fun x69 => R.ok (x68 :: x69)) fun x71 => R.ok (x70 :: x71)) fun x73 => R.ok (x72 :: x73)) open3l) fun z74 =>
 R.bind (R.bind (R.bind (R.ok a_rule) fun x75 => R.bind (R.ok (PyData.int 2)) fun x76 => R.opt (pyIx x75 x76)) asSeq) fun ds132 => R.bind (forM (fun (z79 : D × D × D) (d80 : D) =>
 R.bind (R.bind (R.bind (R.bind (R.ok d80) fun x83 => R.bind (R.bind (R.ok (Ob.dic z21.2)) fun x85 => R.bind (R.bind (R.ok d22) fun x87 => R.bind (R.ok []) fun x88 => R.ok (Slot.dat x87 :: x88)) fun x86 => R.ok (Slot.bor x85 :: x86)) fun x84 => R.ok (Slot.dat x83 :: x84)) (F__law_number 14)) open2) fun z89 =>
 R.bind (R.bind (R.bind (R.bind (R.ok d80) fun x90 => R.bind (R.ok (PyData.int 0)) fun x91 => R.opt (pyIx x90 x91)) fun x92 => R.bind (R.ok (PyData.str (PySem.Str.ofString "rest"))) fun x93 => R.opt (pyEq x92 x93)) asB) fun t121 => if t121 then
 R.bind (R.bind (R.ok z79.1) fun x94 => R.bind (R.ok z89.1) fun x95 => R.opt (pyAdd x94 x95)) fun v96 =>
 R.ok (Out.nx (v96, z79.2.1, z79.2.2))
 else
 R.bind (R.bind (R.ok z21.1) fun x99 => R.bind (R.bind (R.ok z89.2) fun x97 => R.bind (R.ok (PyData.int 1)) fun x98 => R.opt (pySub x97 x98)) fun x100 => R.opt (pyIx (PyData.list x99) x100)) fun v101 =>
 R.bind (R.bind (R.bind (R.bind (R.ok z79.2.1) fun x104 => R.bind (R.bind (R.ok v101) fun x102 => R.bind (R.ok (PyData.int 0)) fun x103 => R.opt (pyIx x102 x103)) fun x105 => zipD x104 x105) (compD open2 (fun _ => R.ok true) (fun d106 => R.bind (R.ok d106.1) fun x108 => R.bind (R.ok d106.2) fun x109 => R.opt (pyAdd x108 x109)))) lstD) fun v110 =>
 R.bind (R.bind (R.ok z79.2.2) fun x113 => R.bind (R.bind (R.ok v101) fun x111 => R.bind (R.ok (PyData.int 1)) fun x112 => R.opt (pyIx x111 x112)) fun x114 => R.opt (pyAdd x113 x114)) fun v115 =>
 R.bind (R.bind (R.ok z79.1) fun x118 => R.bind (R.bind (R.ok v101) fun x116 => R.bind (R.ok (PyData.int 2)) fun x117 => R.opt (pyIx x116 x117)) fun x119 => R.opt (pyAdd x118 x119)) fun v120 =>
 R.ok (Out.nx (v120, v110, v115))) ds132 (z74.2.2, z74.1, z74.2.1)) (Out.cont fun (z122 : D × D × D) =>
 R.bind (R.bind (R.bind (R.ok z122.2.1) fun x127 => R.bind (R.bind (R.ok z122.2.2) fun x125 => R.bind (R.bind (R.ok z122.1) fun x123 => R.bind (R.ok []) fun x124 => R.ok (x123 :: x124)) fun x126 => R.ok (x125 :: x126)) fun x128 => R.ok (x127 :: x128)) fun x129 => R.ok (PyData.tuple x129)) fun d130 => if lineOk (List.length z21.1 + 1) then (fun l131 =>
 R.ok (Out.nx l131)) (z21.1 ++ [d130]) else R.stuck)) (Out.meet fun (z133 : List D) =>
 R.bind (R.bind (R.ok z9.1) fun x137 => R.bind (R.bind (R.ok d22) fun x135 => R.bind (R.ok (PyData.int 1)) fun x136 => R.opt (pySub x135 x136)) fun x138 => R.opt (pyIx x137 x138)) fun d139 => R.bind (R.ok d22) fun d140 => R.bind (dPut z21.2 d140 d139) fun l134 =>
 R.ok (Out.nx (z133, l134)))) ds143 (z9.2.1, ([] : List (Key × D)))) (Out.cont fun (z142 : List D × List (Key × D)) =>
 R.ok (Out.rt (PyData.list z142.1)))) outD
def F__law_parts : List Slot → R D
  | [.dat a_rule, .dat a_many] => m__law_parts a_rule a_many
  | _ => R.stuck
def m_way_back (a_rule : D) (a_place : D) (a_number : D) : R D := R.bind (R.bind (R.bind (R.bind (R.ok a_rule) fun x1 => R.bind (R.bind (R.ok a_place) fun x3 => R.bind (R.ok []) fun x4 => R.ok (Slot.dat x3 :: x4)) fun x2 => R.ok (Slot.dat x1 :: x2)) F_number_at) fun _ =>
 R.bind (R.bind (R.bind (R.bind (R.bind (R.ok a_number) fun x5 => R.bind (R.bind (R.ok (PyData.int 0)) fun x7 => R.bind (R.bind (R.bind (R.bind (R.bind (R.bind (R.ok a_rule) fun x11 => R.bind (R.ok (PyData.int 2)) fun x12 => R.opt (pyIx x11 x12)) fun x13 => R.bind (R.ok []) fun x14 => R.ok (x13 :: x14)) fun x15 => R.opt (pyLen x15)) fun x16 => R.bind (R.ok (PyData.int 1)) fun x17 => R.opt (pySub x16 x17)) fun x9 => R.bind (R.ok []) fun x10 => R.ok (Slot.dat x9 :: x10)) fun x8 => R.ok (Slot.dat x7 :: x8)) fun x6 => R.ok (Slot.dat x5 :: x6)) F_is_whole) asB) fun t18 => R.ok (!t18)) fun t69 => if t69 then
 R.exc XC.noNumber
 else
 R.bind (R.bind (R.bind (R.ok a_rule) fun x19 => R.bind (R.bind (R.ok a_place) fun x21 => R.bind (R.ok []) fun x22 => R.ok (Slot.dat x21 :: x22)) fun x20 => R.ok (Slot.dat x19 :: x20)) F_row_of) fun v23 =>
 R.bind (R.bind (R.ok a_place) fun x24 => R.bind (R.ok []) fun x25 => R.ok (x24 :: x25)) fun l26 =>
 R.bind (whileM (fun (z28 : List D) => R.bind (R.bind (R.bind (R.ok z28) fun x32 => R.bind (R.bind (R.ok (PyData.int 1)) fun x31 => R.opt (pyNeg x31)) fun x33 => R.opt (pyIx (PyData.list x32) x33)) fun x39 => R.bind (R.bind (R.bind (R.bind (R.ok a_rule) fun x34 => R.bind (R.ok (PyData.int 0)) fun x35 => R.opt (pyIx x34 x35)) fun x36 => R.bind (R.ok []) fun x37 => R.ok (x36 :: x37)) fun x38 => R.opt (pyLen x38)) fun x40 => R.opt (pyGt x39 x40)) asB) (fun (z29 : List D) =>
 R.bind (R.bind (R.bind (R.bind (R.bind (R.bind (R.ok a_rule) fun x41 => R.bind (R.ok (PyData.int 2)) fun x42 => R.opt (pyIx x41 x42)) fun x43 => R.bind (R.ok a_number) fun x44 => R.opt (pyIx x43 x44)) fun x45 => R.bind (R.ok (PyData.int 0)) fun x46 => R.opt (pyIx x45 x46)) fun x47 => R.bind (R.ok (PyData.str (PySem.Str.ofString "rest"))) fun x48 => R.opt (pyEq x47 x48)) asB) fun t67 => if t67 then
 R.ok (Out.rt (PyData.list z29))
 else
 R.bind (R.bind (R.bind (R.bind (R.bind (R.ok a_rule) fun x51 => R.bind (R.ok (PyData.int 2)) fun x52 => R.opt (pyIx x51 x52)) fun x53 => R.bind (R.ok a_number) fun x54 => R.opt (pyIx x53 x54)) fun x49 => R.bind (R.bind (R.bind (R.bind (R.ok v23) fun x62 => R.bind (R.ok none) fun x63 => R.bind (R.bind (R.bind (R.bind (R.ok z29) fun x58 => R.bind (R.bind (R.ok (PyData.int 1)) fun x57 => R.opt (pyNeg x57)) fun x59 => R.opt (pyIx (PyData.list x58) x59)) fun x60 => R.bind (R.ok (PyData.int 1)) fun x61 => R.opt (pySub x60 x61)) asI) fun x64 => R.opt (pySl x62 x63 x64)) asLst) fun x55 => R.bind (R.ok []) fun x56 => R.ok (Slot.bor (Ob.lst x55) :: x56)) fun x50 => R.ok (Slot.dat x49 :: x50)) (F_place_of 14)) fun d65 => if lineOk (List.length z29 + 1) then (fun l66 =>
 R.ok (Out.nx l66)) (z29 ++ [d65]) else R.stuck) 3000 l26) (Out.cont fun (z68 : List D) =>
 R.ok (Out.rt (PyData.list z68)))) outD
def F_way_back : List Slot → R D
  | [.dat a_rule, .dat a_place, .dat a_number] => m_way_back a_rule a_place a_number
  | _ => R.stuck
def m_never_looked (a_rule : D) (a_many : D) : R D := R.bind (R.bind (R.bind (R.bind (R.ok a_rule) fun x1 => R.bind (R.ok []) fun x2 => R.ok (Slot.dat x1 :: x2)) F_look_rule) fun _ =>
 R.bind (R.bind (R.bind (R.ok a_many) fun x3 => R.bind (R.ok []) fun x4 => R.ok (Slot.dat x3 :: x4)) F_look_many) fun _ =>
 R.bind (R.bind (R.bind (R.ok a_rule) fun x5 => R.bind (R.bind (R.ok a_many) fun x7 => R.bind (R.ok []) fun x8 => R.ok (Slot.dat x7 :: x8)) fun x6 => R.ok (Slot.dat x5 :: x6)) F_row_of) fun v9 =>
 R.bind (R.bind (R.bind (R.bind (R.bind (R.bind (R.bind (R.ok a_rule) fun x10 => R.bind (R.ok (PyData.int 0)) fun x11 => R.opt (pyIx x10 x11)) fun x12 => R.bind (R.ok []) fun x13 => R.ok (x12 :: x13)) fun x14 => R.opt (pyLen x14)) fun x15 => R.bind (R.ok (PyData.int 1)) fun x16 => R.opt (pyAdd x15 x16)) fun x24 => R.bind (R.bind (R.bind (R.bind (R.bind (R.ok v9) fun x17 => R.bind (R.ok []) fun x18 => R.ok (x17 :: x18)) fun x19 => R.opt (pyLen x19)) fun x20 => R.bind (R.ok (PyData.int 1)) fun x21 => R.opt (pyAdd x20 x21)) fun x22 => R.bind (R.ok []) fun x23 => R.ok (x22 :: x23)) fun x25 => R.ok (x24 :: x25)) rng2) fun ds71 => R.bind (forM (fun (z28 : List (Key × D)) (d29 : D) =>
 R.bind (R.bind (R.bind (R.bind (R.bind (R.bind (R.ok a_rule) fun x30 => R.bind (R.ok (PyData.int 2)) fun x31 => R.opt (pyIx x30 x31)) asSeq) (compD R.ok (fun d32 => R.bind (R.bind (R.bind (R.ok d32) fun x34 => R.bind (R.ok (PyData.int 0)) fun x35 => R.opt (pyIx x34 x35)) fun x36 => R.bind (R.ok (PyData.str (PySem.Str.ofString "rest"))) fun x37 => R.opt (pyNe x36 x37)) asB) (fun d32 => R.ok d32))) lstD) asSeq) fun ds55 => R.bind (forM (fun (z40 : List (Key × D)) (d41 : D) =>
 R.bind (R.ok (PyData.bool true)) fun d52 => R.bind (R.bind (R.bind (R.ok d41) fun x43 => R.bind (R.bind (R.bind (R.bind (R.ok v9) fun x49 => R.bind (R.ok none) fun x50 => R.bind (R.bind (R.bind (R.ok d29) fun x47 => R.bind (R.ok (PyData.int 1)) fun x48 => R.opt (pySub x47 x48)) asI) fun x51 => R.opt (pySl x49 x50 x51)) asLst) fun x45 => R.bind (R.ok []) fun x46 => R.ok (Slot.bor (Ob.lst x45) :: x46)) fun x44 => R.ok (Slot.dat x43 :: x44)) (F_place_of 14)) fun d53 => R.bind (dPut z40 d53 d52) fun l42 =>
 R.ok (Out.nx l42)) ds55 z28) (Out.cont fun (z54 : List (Key × D)) =>
 R.ok (Out.nx z54))) ds71 ([] : List (Key × D))) (Out.cont fun (z56 : List (Key × D)) =>
 R.bind (R.bind (R.bind (R.bind (R.bind (R.ok (PyData.int 1)) fun x64 => R.bind (R.bind (R.bind (R.bind (R.bind (R.ok v9) fun x57 => R.bind (R.ok []) fun x58 => R.ok (x57 :: x58)) fun x59 => R.opt (pyLen x59)) fun x60 => R.bind (R.ok (PyData.int 1)) fun x61 => R.opt (pyAdd x60 x61)) fun x62 => R.bind (R.ok []) fun x63 => R.ok (x62 :: x63)) fun x65 => R.ok (x64 :: x65)) rng2) (compD R.ok (fun d66 => R.bind (R.bind (R.ok d66) fun x68 => R.opt (obIn true x68 (Ob.dic z56))) asB) (fun d66 => R.ok d66))) lstD) fun x70 => R.ok (Out.rt x70))) outD
def F_never_looked : List Slot → R D
  | [.dat a_rule, .dat a_many] => m_never_looked a_rule a_many
  | _ => R.stuck
def m_totals (a_rule : D) (a_many : D) : R D := R.bind (R.bind (R.ok []) fun l1 =>
 R.bind (R.bind (R.bind (R.bind (R.ok a_rule) fun x2 => R.bind (R.bind (R.ok a_many) fun x4 => R.bind (R.ok []) fun x5 => R.ok (Slot.dat x4 :: x5)) fun x3 => R.ok (Slot.dat x2 :: x3)) F_numbers) asSeq) fun ds21 => R.bind (forM (fun (z8 : List D) (d9 : D) =>
 R.bind (R.bind (R.ok d9) fun x16 => R.bind (R.bind (R.bind (R.bind (R.bind (R.ok z8) lstD) fun x10 => R.bind (R.bind (R.ok []) lstD) fun x11 => R.opt (pyNe x10 x11)) asB) fun t15 => if t15 then R.bind (R.ok z8) fun x13 => R.bind (R.bind (R.ok (PyData.int 1)) fun x12 => R.opt (pyNeg x12)) fun x14 => R.opt (pyIx (PyData.list x13) x14) else R.ok (PyData.int 0)) fun x17 => R.opt (pyAdd x16 x17)) fun d18 => if lineOk (List.length z8 + 1) then (fun l19 =>
 R.ok (Out.nx l19)) (z8 ++ [d18]) else R.stuck) ds21 l1) (Out.cont fun (z20 : List D) =>
 R.ok (Out.rt (PyData.list z20)))) outD
def F_totals : List Slot → R D
  | [.dat a_rule, .dat a_many] => m_totals a_rule a_many
  | _ => R.stuck
def m_sum_between (a_rule : D) (a_one : D) (a_other : D) : R D := R.bind (R.bind (R.bind (R.bind (R.ok a_rule) fun x1 => R.bind (R.ok []) fun x2 => R.ok (Slot.dat x1 :: x2)) F_look_rule) fun _ =>
 R.bind (R.bind (R.bind (R.ok a_one) fun x3 => R.bind (R.ok []) fun x4 => R.ok (Slot.dat x3 :: x4)) F_look_many) fun _ =>
 R.bind (R.bind (R.bind (R.ok a_other) fun x5 => R.bind (R.ok []) fun x6 => R.ok (Slot.dat x5 :: x6)) F_look_many) fun _ =>
 R.bind (R.bind (R.bind (R.ok a_rule) fun x7 => R.bind (R.bind (R.bind (R.bind (R.ok a_one) fun x13 => R.bind (R.bind (R.ok a_other) fun x11 => R.bind (R.ok []) fun x12 => R.ok (x11 :: x12)) fun x14 => R.ok (x13 :: x14)) fun x15 => R.opt (pyMax2 x15)) fun x9 => R.bind (R.ok []) fun x10 => R.ok (Slot.dat x9 :: x10)) fun x8 => R.ok (Slot.dat x7 :: x8)) F_number_at) fun _ =>
 R.bind (R.bind (R.bind (R.ok a_other) fun x16 => R.bind (R.ok a_one) fun x17 => R.opt (pyLt x16 x17)) asB) fun t31 => if t31 then
 R.exc XC.noNumber
 else
 R.bind (R.bind (R.bind (R.bind (R.bind (R.bind (R.ok a_rule) fun x18 => R.bind (R.bind (R.ok a_other) fun x20 => R.bind (R.ok []) fun x21 => R.ok (Slot.dat x20 :: x21)) fun x19 => R.ok (Slot.dat x18 :: x19)) F_numbers) fun x24 => R.bind (R.bind (R.bind (R.ok a_one) fun x22 => R.bind (R.ok (PyData.int 1)) fun x23 => R.opt (pySub x22 x23)) asI) fun x25 => R.bind (R.ok none) fun x26 => R.opt (pySl x24 x25 x26)) fun x27 => R.bind (R.ok []) fun x28 => R.ok (x27 :: x28)) fun x29 => R.opt (pySum x29)) fun x30 => R.ok (Out.rt x30)) outD
def F_sum_between : List Slot → R D
  | [.dat a_rule, .dat a_one, .dat a_other] => m_sum_between a_rule a_one a_other
  | _ => R.stuck
def m_lowest (a_up : D) (a_down : D) : R D := R.bind (R.bind (R.bind (R.bind (R.bind (R.bind (R.ok a_up) fun x3 => R.bind (R.ok []) fun x4 => R.ok (x3 :: x4)) fun x5 => R.opt (pyAbs x5)) fun x8 => R.bind (R.bind (R.ok a_down) fun x6 => R.bind (R.ok []) fun x7 => R.ok (x6 :: x7)) fun x9 => R.ok (x8 :: x9)) open2l) fun z10 =>
 R.bind (whileM (fun (z12 : D × D) => R.bind (R.bind (R.ok z12.2) fun x15 => R.bind (R.ok (PyData.int 0)) fun x16 => R.opt (pyNe x15 x16)) asB) (fun (z13 : D × D) =>
 R.bind (R.bind (R.bind (R.ok z13.2) fun x23 => R.bind (R.bind (R.bind (R.ok z13.1) fun x19 => R.bind (R.ok z13.2) fun x20 => R.opt (pyMod x19 x20)) fun x21 => R.bind (R.ok []) fun x22 => R.ok (x21 :: x22)) fun x24 => R.ok (x23 :: x24)) open2l) fun z25 =>
 R.ok (Out.nx (z25.1, z25.2))) 3000 (z10.1, z10.2)) (Out.cont fun (z26 : D × D) =>
 R.bind (R.bind (R.bind (R.bind (R.ok a_up) fun x27 => R.bind (R.ok z26.1) fun x28 => R.opt (pyDiv x27 x28)) fun x33 => R.bind (R.bind (R.bind (R.ok a_down) fun x29 => R.bind (R.ok z26.1) fun x30 => R.opt (pyDiv x29 x30)) fun x31 => R.bind (R.ok []) fun x32 => R.ok (x31 :: x32)) fun x34 => R.ok (x33 :: x34)) fun x35 => R.ok (PyData.tuple x35)) fun x36 => R.ok (Out.rt x36))) outD
def F_lowest : List Slot → R D
  | [.dat a_up, .dat a_down] => m_lowest a_up a_down
  | _ => R.stuck
def m_ratio (a_rule : D) (a_place : D) : R D := R.bind (R.bind (R.bind (R.bind (R.bind (R.bind (R.ok a_rule) fun x3 => R.bind (R.bind (R.ok a_place) fun x5 => R.bind (R.ok []) fun x6 => R.ok (Slot.dat x5 :: x6)) fun x4 => R.ok (Slot.dat x3 :: x4)) F_number_at) fun x1 => R.bind (R.bind (R.ok a_place) fun x7 => R.bind (R.ok []) fun x8 => R.ok (Slot.dat x7 :: x8)) fun x2 => R.ok (Slot.dat x1 :: x2)) F_lowest) fun x9 => R.ok (Out.rt x9)) outD
def F_ratio : List Slot → R D
  | [.dat a_rule, .dat a_place] => m_ratio a_rule a_place
  | _ => R.stuck
def m_steepest (a_rule : D) (a_many : D) : R D := R.bind (R.bind (R.bind (R.bind (R.ok a_rule) fun x1 => R.bind (R.bind (R.ok a_many) fun x3 => R.bind (R.ok []) fun x4 => R.ok (Slot.dat x3 :: x4)) fun x2 => R.ok (Slot.dat x1 :: x2)) F_numbers) fun v5 =>
 R.bind (R.ok (PyData.int 1)) fun v6 =>
 R.bind (R.bind (R.bind (R.ok (PyData.int 2)) fun x14 => R.bind (R.bind (R.bind (R.bind (R.bind (R.ok v5) fun x7 => R.bind (R.ok []) fun x8 => R.ok (x7 :: x8)) fun x9 => R.opt (pyLen x9)) fun x10 => R.bind (R.ok (PyData.int 1)) fun x11 => R.opt (pyAdd x10 x11)) fun x12 => R.bind (R.ok []) fun x13 => R.ok (x12 :: x13)) fun x15 => R.ok (x14 :: x15)) rng2) fun ds38 => R.bind (forM (fun (z18 : D) (d19 : D) =>
 R.bind (R.bind (R.bind (R.bind (R.bind (R.ok v5) fun x22 => R.bind (R.bind (R.ok d19) fun x20 => R.bind (R.ok (PyData.int 1)) fun x21 => R.opt (pySub x20 x21)) fun x23 => R.opt (pyIx x22 x23)) fun x24 => R.bind (R.ok z18) fun x25 => R.opt (pyMul x24 x25)) fun x32 => R.bind (R.bind (R.bind (R.ok v5) fun x28 => R.bind (R.bind (R.ok z18) fun x26 => R.bind (R.ok (PyData.int 1)) fun x27 => R.opt (pySub x26 x27)) fun x29 => R.opt (pyIx x28 x29)) fun x30 => R.bind (R.ok d19) fun x31 => R.opt (pyMul x30 x31)) fun x33 => R.opt (pyGt x32 x33)) asB) fun t35 => if t35 then
 R.bind (R.ok d19) fun v34 =>
 R.ok (Out.nx v34)
 else
 R.ok (Out.nx z18)) ds38 v6) (Out.cont fun (z36 : D) =>
 R.bind (R.ok z36) fun x37 => R.ok (Out.rt x37))) outD
def F_steepest : List Slot → R D
  | [.dat a_rule, .dat a_many] => m_steepest a_rule a_many
  | _ => R.stuck
def m_first_over (a_rule : D) (a_number : D) (a_many : D) : R D := R.bind (R.bind (R.bind (R.bind (R.ok a_rule) fun x1 => R.bind (R.bind (R.ok a_many) fun x3 => R.bind (R.ok []) fun x4 => R.ok (Slot.dat x3 :: x4)) fun x2 => R.ok (Slot.dat x1 :: x2)) F_totals) fun v5 =>
 R.bind (R.bind (R.bind (R.bind (R.bind (R.ok a_number) fun x6 => R.ok (PyData.bool (isTy Ty5.int x6))) asB) fun t7 => R.ok (!t7)) fun t9 => if t9 then R.ok true else R.bind (R.bind (R.ok a_number) fun x8 => R.ok (PyData.bool (isTy Ty5.bool x8))) asB) fun t23 => if t23 then
 R.exc XC.noNumber
 else
 R.bind (R.bind (R.bind (R.ok v5) asLst) enumD) fun ds22 => R.bind (forM2 (fun (z12 : Unit) (d13 : D × D) =>
 R.bind (R.bind (R.bind (R.ok d13.2) fun x14 => R.bind (R.ok a_number) fun x15 => R.opt (pyGt x14 x15)) asB) fun t19 => if t19 then
 R.bind (R.bind (R.ok d13.1) fun x16 => R.bind (R.ok (PyData.int 1)) fun x17 => R.opt (pyAdd x16 x17)) fun x18 => R.ok (Out.rt x18)
 else
 R.ok (Out.nx ())) ds22 ()) (Out.cont fun (z20 : Unit) =>
 R.bind (R.ok PyData.none) fun x21 => R.ok (Out.rt x21))) outD
def F_first_over : List Slot → R D
  | [.dat a_rule, .dat a_number, .dat a_many] => m_first_over a_rule a_number a_many
  | _ => R.stuck
def W__law_class : XC → Option Str
  | .noRule => some (PySem.Str.ofString "no rule")
  | .noNumber => some (PySem.Str.ofString "no number")
  | .ended => some (PySem.Str.ofString "ended")
  | .noText => some (PySem.Str.ofString "no text")
  | .noBack => some (PySem.Str.ofString "no back")

def m_all_terms  : R D := R.bind (R.bind (R.bind (R.bind (R.bind (R.bind (R.ok (PyData.int 1)) fun x5 => R.bind (R.bind (R.bind (R.ok (PyData.int 5)) fun x1 => R.bind (R.ok (PyData.int 1)) fun x2 => R.opt (pyAdd x1 x2)) fun x3 => R.bind (R.ok []) fun x4 => R.ok (x3 :: x4)) fun x6 => R.ok (x5 :: x6)) rng2) (compD R.ok (fun _ => R.ok true) (fun d7 => R.bind (R.bind (R.ok (PyData.str (PySem.Str.ofString "at"))) fun x11 => R.bind (R.bind (R.ok d7) fun x9 => R.bind (R.ok []) fun x10 => R.ok (x9 :: x10)) fun x12 => R.ok (x11 :: x12)) fun x13 => R.ok (PyData.tuple x13)))) lstD) fun v14 =>
 R.bind (R.bind (R.bind (R.ok v14) asSeq) (compD R.ok (fun _ => R.ok true) (fun d15 => R.bind (R.bind (R.ok (PyData.str (PySem.Str.ofString "of"))) fun x19 => R.bind (R.bind (R.ok d15) fun x17 => R.bind (R.ok []) fun x18 => R.ok (x17 :: x18)) fun x20 => R.ok (x19 :: x20)) fun x21 => R.ok (PyData.tuple x21)))) fun l22 =>
 R.bind (R.bind (R.bind (R.bind (R.ok (PyData.int 5)) fun x23 => R.bind (R.ok (PyData.int 1)) fun x24 => R.opt (pyAdd x23 x24)) fun x25 => R.bind (R.ok []) fun x26 => R.ok (x25 :: x26)) rng1) fun ds72 => R.bind (forM (fun (z29 : List D) (d30 : D) =>
 R.bind (R.bind (R.ok v14) asSeq) fun ds56 => R.bind (forM (fun (z33 : List D) (d34 : D) =>
 R.bind (R.bind (R.bind (R.bind (R.bind (R.bind (R.ok (PyData.str (PySem.Str.ofString "back"))) fun x39 => R.bind (R.bind (R.ok d30) fun x37 => R.bind (R.bind (R.ok d34) fun x35 => R.bind (R.ok []) fun x36 => R.ok (x35 :: x36)) fun x38 => R.ok (x37 :: x38)) fun x40 => R.ok (x39 :: x40)) fun x41 => R.ok (PyData.tuple x41)) fun x51 => R.bind (R.bind (R.bind (R.bind (R.ok (PyData.str (PySem.Str.ofString "rest"))) fun x46 => R.bind (R.bind (R.ok d30) fun x44 => R.bind (R.bind (R.ok d34) fun x42 => R.bind (R.ok []) fun x43 => R.ok (x42 :: x43)) fun x45 => R.ok (x44 :: x45)) fun x47 => R.ok (x46 :: x47)) fun x48 => R.ok (PyData.tuple x48)) fun x49 => R.bind (R.ok []) fun x50 => R.ok (x49 :: x50)) fun x52 => R.ok (x51 :: x52)) lstD) asLst) fun d53 => if lineOk (List.length z33 + List.length d53) then (fun l54 =>
 R.ok (Out.nx l54)) (z33 ++ d53) else R.stuck) ds56 z29) (Out.cont fun (z55 : List D) =>
 R.ok (Out.nx z55))) ds72 l22) (Out.cont fun (z57 : List D) =>
 R.bind (R.bind (R.ok v14) fun x69 => R.bind (R.bind (R.bind (R.ok z57) (sortKey fun d58 => R.bind (R.bind (R.bind (R.ok d58) fun x60 => R.bind (R.ok (PyData.int 0)) fun x61 => R.opt (pyIx x60 x61)) fun x66 => R.bind (R.bind (R.bind (R.bind (R.ok d58) fun x62 => R.bind (R.ok []) fun x63 => R.ok (Slot.dat x62 :: x63)) (F_term_text 14)) fun x64 => R.bind (R.ok []) fun x65 => R.ok (x64 :: x65)) fun x67 => R.ok (x66 :: x67)) fun x68 => R.ok (PyData.tuple x68))) lstD) fun x70 => R.opt (pyAdd x69 x70)) fun x71 => R.ok (Out.rt x71))) outD
def F_all_terms : List Slot → R D
  | [] => m_all_terms 
  | _ => R.stuck
def m_look_row (a_row : D) : R D := R.bind (R.bind (R.bind (R.bind (R.bind (R.bind (R.ok a_row) fun x1 => R.ok (PyData.bool (isTy Ty5.list x1))) asB) fun t2 => R.ok (!t2)) fun t12 => if t12 then R.ok true else R.bind (R.bind (R.bind (R.ok (PyData.int 2)) fun x6 => R.bind (R.bind (R.bind (R.ok a_row) fun x3 => R.bind (R.ok []) fun x4 => R.ok (x3 :: x4)) fun x5 => R.opt (pyLen x5)) fun x7 => R.bind (R.opt (pyLe x6 x7)) fun x8 => R.bind (asB x8) fun x9 => if x9 then R.bind (R.ok (PyData.int 200)) fun x10 => R.opt (pyLe x7 x10) else R.ok (PyData.bool false)) asB) fun t11 => R.ok (!t11)) fun t26 => if t26 then
 R.exc XC.noNumber
 else
 R.bind (R.bind (R.bind (R.bind (R.bind (R.bind (R.bind (R.bind (R.ok a_row) asSeq) (compD R.ok (fun _ => R.ok true) (fun d13 => R.bind (R.bind (R.ok d13) fun x15 => R.ok (PyData.bool (isTy Ty5.int x15))) fun x19 => R.bind (asB x19) fun t20 => if t20 then R.bind (R.bind (R.ok d13) fun x16 => R.ok (PyData.bool (isTy Ty5.bool x16))) fun x17 => R.bind (asB x17) fun t18 => R.ok (PyData.bool !t18) else R.ok (PyData.bool false)))) lstD) fun x21 => R.bind (R.ok []) fun x22 => R.ok (x21 :: x22)) fun x23 => R.opt (pyAll x23)) asB) fun t24 => R.ok (!t24)) fun t25 => if t25 then
 R.exc XC.noNumber
 else
 R.ok (Out.nx ())) outD
def F_look_row : List Slot → R D
  | [.dat a_row] => m_look_row a_row
  | _ => R.stuck
def m_more_for (a_row : D) (a_many : D) (a_term : D) : R D := R.bind (R.bind (R.ok PyData.none) fun v1 =>
 R.bind (R.bind (R.bind (R.ok a_many) fun x7 => R.bind (R.bind (R.bind (R.bind (R.ok a_row) fun x2 => R.bind (R.ok []) fun x3 => R.ok (x2 :: x3)) fun x4 => R.opt (pyLen x4)) fun x5 => R.bind (R.ok []) fun x6 => R.ok (x5 :: x6)) fun x8 => R.ok (x7 :: x8)) rng2) fun ds49 => R.bind (forM (fun (z11 : D) (d12 : D) =>
 R.bind (R.bind (R.bind (R.ok a_term) fun x13 => R.bind (R.bind (R.bind (R.bind (R.ok a_row) fun x17 => R.bind (R.ok none) fun x18 => R.bind (R.bind (R.ok d12) asI) fun x19 => R.opt (pySl x17 x18 x19)) asLst) fun x15 => R.bind (R.ok []) fun x16 => R.ok (Slot.bor (Ob.lst x15) :: x16)) fun x14 => R.ok (Slot.dat x13 :: x14)) (F_number_of 14)) fun v20 =>
 R.bind (R.bind (R.bind (R.bind (R.ok v20) fun x21 => R.bind (R.ok PyData.none) fun x22 => R.opt (pyIs x21 x22)) asB) fun t32 => if t32 then R.ok true else R.bind (R.bind (R.bind (R.ok z11) fun x23 => R.bind (R.ok PyData.none) fun x24 => R.opt (pyIsNot x23 x24)) asB) fun t31 => if t31 then R.bind (R.bind (R.bind (R.bind (R.ok a_row) fun x25 => R.bind (R.ok d12) fun x26 => R.opt (pyIx x25 x26)) fun x27 => R.bind (R.ok v20) fun x28 => R.opt (pySub x27 x28)) fun x29 => R.bind (R.ok z11) fun x30 => R.opt (pyNe x29 x30)) asB else R.ok false) fun t39 => if t39 then
 R.bind (R.ok PyData.none) fun x33 => R.ok (Out.rt x33)
 else
 R.bind (R.bind (R.bind (R.ok a_row) fun x34 => R.bind (R.ok d12) fun x35 => R.opt (pyIx x34 x35)) fun x36 => R.bind (R.ok v20) fun x37 => R.opt (pySub x36 x37)) fun v38 =>
 R.ok (Out.nx v38)) ds49 v1) (Out.cont fun (z40 : D) =>
 R.bind (R.bind (R.bind (R.bind (R.bind (R.ok z40) fun x41 => R.bind (R.bind (R.ok (PyData.int 0)) fun x43 => R.bind (R.bind (R.ok (PyData.int 9)) fun x45 => R.bind (R.ok []) fun x46 => R.ok (Slot.dat x45 :: x46)) fun x44 => R.ok (Slot.dat x43 :: x44)) fun x42 => R.ok (Slot.dat x41 :: x42)) F_is_whole) asB) fun t47 => if t47 then R.ok z40 else R.ok PyData.none) fun x48 => R.ok (Out.rt x48))) outD
def F_more_for : List Slot → R D
  | [.dat a_row, .dat a_many, .dat a_term] => m_more_for a_row a_many a_term
  | _ => R.stuck
def m_rules_for (a_row : D) (a_many : D) : R D := R.bind (R.bind (R.bind (R.bind (R.ok a_row) fun x1 => R.bind (R.ok []) fun x2 => R.ok (Slot.dat x1 :: x2)) F_look_row) fun _ =>
 R.bind (R.bind (R.bind (R.bind (R.bind (R.ok a_many) fun x3 => R.bind (R.bind (R.ok (PyData.int 1)) fun x5 => R.bind (R.bind (R.bind (R.bind (R.ok (PyData.int 6)) fun x16 => R.bind (R.bind (R.bind (R.bind (R.bind (R.ok a_row) fun x9 => R.bind (R.ok []) fun x10 => R.ok (x9 :: x10)) fun x11 => R.opt (pyLen x11)) fun x12 => R.bind (R.ok (PyData.int 1)) fun x13 => R.opt (pySub x12 x13)) fun x14 => R.bind (R.ok []) fun x15 => R.ok (x14 :: x15)) fun x17 => R.ok (x16 :: x17)) fun x18 => R.opt (pyMin2 x18)) fun x7 => R.bind (R.ok []) fun x8 => R.ok (Slot.dat x7 :: x8)) fun x6 => R.ok (Slot.dat x5 :: x6)) fun x4 => R.ok (Slot.dat x3 :: x4)) F_is_whole) asB) fun t19 => R.ok (!t19)) fun t69 => if t69 then
 R.exc XC.noNumber
 else
 R.bind (R.bind (R.bind (R.bind (R.bind (R.bind (R.bind (R.bind (R.bind (R.ok a_row) fun x20 => R.bind (R.ok none) fun x21 => R.bind (R.bind (R.ok a_many) asI) fun x22 => R.opt (pySl x20 x21 x22)) asSeq) (compD R.ok (fun _ => R.ok true) (fun d23 => R.bind (R.bind (R.ok d23) fun x25 => R.bind (R.bind (R.ok (PyData.int 0)) fun x27 => R.bind (R.bind (R.ok (PyData.int 9)) fun x29 => R.bind (R.ok []) fun x30 => R.ok (Slot.dat x29 :: x30)) fun x28 => R.ok (Slot.dat x27 :: x28)) fun x26 => R.ok (Slot.dat x25 :: x26)) F_is_whole))) lstD) fun x31 => R.bind (R.ok []) fun x32 => R.ok (x31 :: x32)) fun x33 => R.opt (pyAll x33)) asB) fun t34 => R.ok (!t34)) fun t68 => if t68 then
 R.bind (R.bind (R.ok []) lstD) fun x35 => R.ok (Out.rt x35)
 else
 R.bind (R.ok []) fun l36 =>
 R.bind (R.bind (F_all_terms []) asSeq) fun ds67 => R.bind (forM (fun (z39 : List D) (d40 : D) =>
 R.bind (R.bind (R.bind (R.ok a_row) fun x41 => R.bind (R.bind (R.ok a_many) fun x43 => R.bind (R.bind (R.ok d40) fun x45 => R.bind (R.ok []) fun x46 => R.ok (Slot.dat x45 :: x46)) fun x44 => R.ok (Slot.dat x43 :: x44)) fun x42 => R.ok (Slot.dat x41 :: x42)) F_more_for) fun v47 =>
 R.bind (R.bind (R.bind (R.ok v47) fun x48 => R.bind (R.ok PyData.none) fun x49 => R.opt (pyIsNot x48 x49)) asB) fun t65 => if t65 then
 R.bind (R.bind (R.bind (R.bind (R.bind (R.bind (R.ok a_row) fun x50 => R.bind (R.ok none) fun x51 => R.bind (R.bind (R.ok a_many) asI) fun x52 => R.opt (pySl x50 x51 x52)) asSeq) tupD) fun x60 => R.bind (R.bind (R.ok v47) fun x58 => R.bind (R.bind (R.bind (R.bind (R.ok d40) fun x53 => R.bind (R.ok []) fun x54 => R.ok (x53 :: x54)) fun x55 => R.ok (PyData.tuple x55)) fun x56 => R.bind (R.ok []) fun x57 => R.ok (x56 :: x57)) fun x59 => R.ok (x58 :: x59)) fun x61 => R.ok (x60 :: x61)) fun x62 => R.ok (PyData.tuple x62)) fun d63 => if lineOk (List.length z39 + 1) then (fun l64 =>
 R.ok (Out.nx l64)) (z39 ++ [d63]) else R.stuck
 else
 R.ok (Out.nx z39)) ds67 l36) (Out.cont fun (z66 : List D) =>
 R.ok (Out.rt (PyData.list z66)))) outD
def F_rules_for : List Slot → R D
  | [.dat a_row, .dat a_many] => m_rules_for a_row a_many
  | _ => R.stuck
def m__law_terms  : R D := R.bind (R.bind (R.bind (R.bind (R.bind (R.bind (R.ok (PyData.int 1)) fun x3 => R.bind (R.bind (R.ok (PyData.int 6)) fun x1 => R.bind (R.ok []) fun x2 => R.ok (x1 :: x2)) fun x4 => R.ok (x3 :: x4)) rng2) (compD R.ok (fun _ => R.ok true) (fun d5 => R.bind (R.bind (R.ok (PyData.str (PySem.Str.ofString "at"))) fun x9 => R.bind (R.bind (R.ok d5) fun x7 => R.bind (R.ok []) fun x8 => R.ok (x7 :: x8)) fun x10 => R.ok (x9 :: x10)) fun x11 => R.ok (PyData.tuple x11)))) lstD) fun v12 =>
 R.bind (R.ok []) fun l13 =>
 R.bind (R.bind (R.bind (R.ok (PyData.int 6)) fun x14 => R.bind (R.ok []) fun x15 => R.ok (x14 :: x15)) rng1) fun ds63 => R.bind (forM (fun (z18 : List D) (d19 : D) =>
 R.bind (R.bind (R.bind (R.bind (R.bind (R.ok v12) asSeq) (compD R.ok (fun _ => R.ok true) (fun d20 => R.bind (R.bind (R.ok (PyData.str (PySem.Str.ofString "back"))) fun x26 => R.bind (R.bind (R.ok d19) fun x24 => R.bind (R.bind (R.ok d20) fun x22 => R.bind (R.ok []) fun x23 => R.ok (x22 :: x23)) fun x25 => R.ok (x24 :: x25)) fun x27 => R.ok (x26 :: x27)) fun x28 => R.ok (PyData.tuple x28)))) lstD) asLst) fun d29 => if lineOk (List.length z18 + List.length d29) then (fun l30 =>
 R.ok (Out.nx l30)) (z18 ++ d29) else R.stuck) ds63 l13) (Out.cont fun (z31 : List D) =>
 R.bind (R.bind (R.bind (R.bind (R.bind (R.ok v12) asSeq) (compD R.ok (fun _ => R.ok true) (fun d32 => R.bind (R.bind (R.ok (PyData.str (PySem.Str.ofString "of"))) fun x36 => R.bind (R.bind (R.ok d32) fun x34 => R.bind (R.ok []) fun x35 => R.ok (x34 :: x35)) fun x37 => R.ok (x36 :: x37)) fun x38 => R.ok (PyData.tuple x38)))) lstD) asLst) fun d39 => if lineOk (List.length z31 + List.length d39) then (fun l40 =>
 R.bind (R.bind (R.bind (R.ok (PyData.int 6)) fun x41 => R.bind (R.ok []) fun x42 => R.ok (x41 :: x42)) rng1) fun ds62 => R.bind (forM (fun (z45 : List D) (d46 : D) =>
 R.bind (R.bind (R.bind (R.bind (R.bind (R.ok v12) asSeq) (compD R.ok (fun _ => R.ok true) (fun d47 => R.bind (R.bind (R.ok (PyData.str (PySem.Str.ofString "rest"))) fun x53 => R.bind (R.bind (R.ok d46) fun x51 => R.bind (R.bind (R.ok d47) fun x49 => R.bind (R.ok []) fun x50 => R.ok (x49 :: x50)) fun x52 => R.ok (x51 :: x52)) fun x54 => R.ok (x53 :: x54)) fun x55 => R.ok (PyData.tuple x55)))) lstD) asLst) fun d56 => if lineOk (List.length z45 + List.length d56) then (fun l57 =>
 R.ok (Out.nx l57)) (z45 ++ d56) else R.stuck) ds62 l40) (Out.cont fun (z58 : List D) =>
 R.bind (R.bind (R.ok v12) fun x59 => R.bind (R.ok (PyData.list z58)) fun x60 => R.opt (pyAdd x59 x60)) fun x61 => R.ok (Out.rt x61))) (z31 ++ d39) else R.stuck)) outD
def F__law_terms : List Slot → R D
  | [] => m__law_terms 
  | _ => R.stuck
def m__law_found (a_row : D) (a_many : D) : R D := R.bind (R.bind (R.ok []) fun l1 =>
 R.bind (R.bind (R.bind (R.bind (R.bind (R.bind (R.bind (R.ok a_row) fun x2 => R.bind (R.ok none) fun x3 => R.bind (R.bind (R.ok a_many) asI) fun x4 => R.opt (pySl x2 x3 x4)) asSeq) (compD R.ok (fun d5 => R.bind (R.bind (R.bind (R.ok (PyData.int 0)) fun x7 => R.bind (R.ok d5) fun x8 => R.bind (R.opt (pyLe x7 x8)) fun x9 => R.bind (asB x9) fun x10 => if x10 then R.bind (R.ok (PyData.int 9)) fun x11 => R.opt (pyLe x8 x11) else R.ok (PyData.bool false)) asB) fun t12 => R.ok (!t12)) (fun d5 => R.ok d5))) lstD) fun x13 => R.bind (R.bind (R.ok []) lstD) fun x14 => R.opt (pyNe x13 x14)) asB) fun t104 => if t104 then
 R.bind (R.bind (R.ok []) lstD) fun x15 => R.ok (Out.rt x15)
 else
 R.bind (R.bind (F__law_terms []) asSeq) fun ds103 => R.bind (forM (fun (z18 : List D) (d19 : D) =>
 R.bind (R.bind (R.bind (R.ok []) fun x20 => R.bind (R.ok ()) fun x21 => R.ok (x20, x21)) fun x22 => R.ok (([] : List (Key × D)), x22)) fun z23 =>
 R.bind (R.bind (R.bind (R.ok (PyData.int 1)) fun x31 => R.bind (R.bind (R.bind (R.bind (R.bind (R.ok a_row) fun x24 => R.bind (R.ok []) fun x25 => R.ok (x24 :: x25)) fun x26 => R.opt (pyLen x26)) fun x27 => R.bind (R.ok (PyData.int 1)) fun x28 => R.opt (pyAdd x27 x28)) fun x29 => R.bind (R.ok []) fun x30 => R.ok (x29 :: x30)) fun x32 => R.ok (x31 :: x32)) rng2) fun ds101 => R.bind (forM (fun (z35 : List D × List (Key × D)) (d36 : D) =>
 R.bind (R.bind (R.bind (R.ok d36) fun x37 => R.bind (R.ok a_many) fun x38 => R.opt (pyGt x37 x38)) asB) fun t68 => R.bind (if t68 then
 R.bind (R.bind (R.bind (R.bind (R.ok d19) fun x40 => R.bind (R.bind (R.ok (Ob.dic z35.2)) fun x42 => R.bind (R.bind (R.ok d36) fun x44 => R.bind (R.ok []) fun x45 => R.ok (Slot.dat x44 :: x45)) fun x43 => R.ok (Slot.bor x42 :: x43)) fun x41 => R.ok (Slot.dat x40 :: x41)) (F__law_number 14)) fun x46 => R.bind (R.ok (PyData.int 0)) fun x47 => R.opt (pyIx x46 x47)) fun v48 =>
 R.bind (R.bind (R.bind (R.bind (R.ok v48) fun x49 => R.bind (R.ok PyData.none) fun x50 => R.opt (pyIs x49 x50)) asB) fun t57 => if t57 then R.ok PyData.none else R.bind (R.bind (R.ok a_row) fun x53 => R.bind (R.bind (R.ok d36) fun x51 => R.bind (R.ok (PyData.int 1)) fun x52 => R.opt (pySub x51 x52)) fun x54 => R.opt (pyIx x53 x54)) fun x55 => R.bind (R.ok v48) fun x56 => R.opt (pySub x55 x56)) fun d58 => if lineOk (List.length z35.1 + 1) then (fun l59 =>
 R.ok (Out.nx l59)) (z35.1 ++ [d58]) else R.stuck
 else
 R.ok (Out.nx z35.1)) (Out.meet fun (z60 : List D) =>
 R.bind (R.bind (R.ok a_row) fun x64 => R.bind (R.bind (R.ok d36) fun x62 => R.bind (R.ok (PyData.int 1)) fun x63 => R.opt (pySub x62 x63)) fun x65 => R.opt (pyIx x64 x65)) fun d66 => R.bind (R.ok d36) fun d67 => R.bind (dPut z35.2 d67 d66) fun l61 =>
 R.ok (Out.nx (z60, l61)))) ds101 (z23.2.1, z23.1)) (Out.cont fun (z69 : List D × List (Key × D)) =>
 R.bind (R.bind (R.bind (R.bind (R.ok PyData.none) fun x70 => R.bind (R.bind (R.ok z69.1) lstD) fun x71 => R.opt (pyIn true x70 x71)) asB) fun t82 => if t82 then R.bind (R.bind (R.bind (R.bind (R.ok z69.1) lenSet) fun x72 => R.bind (R.ok (PyData.int 1)) fun x73 => R.opt (pyEq x72 x73)) asB) fun t81 => if t81 then R.bind (R.bind (R.ok (PyData.int 0)) fun x76 => R.bind (R.bind (R.ok z69.1) fun x74 => R.bind (R.ok (PyData.int 0)) fun x75 => R.opt (pyIx (PyData.list x74) x75)) fun x77 => R.bind (R.opt (pyLe x76 x77)) fun x78 => R.bind (asB x78) fun x79 => if x79 then R.bind (R.ok (PyData.int 9)) fun x80 => R.opt (pyLe x77 x80) else R.ok (PyData.bool false)) asB else R.ok false else R.ok false) fun t100 => if t100 then
 R.bind (R.bind (R.bind (R.bind (R.bind (R.bind (R.ok a_row) fun x83 => R.bind (R.ok none) fun x84 => R.bind (R.bind (R.ok a_many) asI) fun x85 => R.opt (pySl x83 x84 x85)) asSeq) tupD) fun x95 => R.bind (R.bind (R.bind (R.ok z69.1) fun x86 => R.bind (R.ok (PyData.int 0)) fun x87 => R.opt (pyIx (PyData.list x86) x87)) fun x93 => R.bind (R.bind (R.bind (R.bind (R.ok d19) fun x88 => R.bind (R.ok []) fun x89 => R.ok (x88 :: x89)) fun x90 => R.ok (PyData.tuple x90)) fun x91 => R.bind (R.ok []) fun x92 => R.ok (x91 :: x92)) fun x94 => R.ok (x93 :: x94)) fun x96 => R.ok (x95 :: x96)) fun x97 => R.ok (PyData.tuple x97)) fun d98 => if lineOk (List.length z18 + 1) then (fun l99 =>
 R.ok (Out.nx l99)) (z18 ++ [d98]) else R.stuck
 else
 R.ok (Out.nx z18))) ds103 l1) (Out.cont fun (z102 : List D) =>
 R.ok (Out.rt (PyData.list z102)))) outD
def F__law_found : List Slot → R D
  | [.dat a_row, .dat a_many] => m__law_found a_row a_many
  | _ => R.stuck
def m__law_one_term (a_script : List D) (a_at : D) : R D := R.bind (R.bind (R.bind (R.bind (R.bind (R.bind (R.bind (R.bind (R.bind (R.ok (PyData.int 1)) fun x7 => R.bind (R.bind (R.bind (R.ok a_script) fun x1 => R.bind (R.bind (R.ok a_at) fun x3 => R.bind (R.bind (R.ok (PyData.int 4)) fun x5 => R.bind (R.ok []) fun x6 => R.ok (Slot.dat x5 :: x6)) fun x4 => R.ok (Slot.dat x3 :: x4)) fun x2 => R.ok (Slot.bor (Ob.lst x1) :: x2)) F__law_pick) fun x8 => R.opt (pyAdd x7 x8)) fun x9 => R.bind (R.ok []) fun x10 => R.ok (x9 :: x10)) rng1) (compD R.ok (fun _ => R.ok true) (fun d11 => R.bind (R.ok (PyData.int 1)) fun x23 => R.bind (R.bind (R.bind (R.ok a_script) fun x13 => R.bind (R.bind (R.bind (R.bind (R.ok a_at) fun x17 => R.bind (R.ok (PyData.int 1)) fun x18 => R.opt (pyAdd x17 x18)) fun x19 => R.bind (R.ok d11) fun x20 => R.opt (pyAdd x19 x20)) fun x15 => R.bind (R.bind (R.ok (PyData.int 3)) fun x21 => R.bind (R.ok []) fun x22 => R.ok (Slot.dat x21 :: x22)) fun x16 => R.ok (Slot.dat x15 :: x16)) fun x14 => R.ok (Slot.bor (Ob.lst x13) :: x14)) F__law_pick) fun x24 => R.opt (pyAdd x23 x24)))) lstD) asSeq) tupD) fun v25 =>
 R.bind (F__law_terms []) fun v26 =>
 R.bind (R.bind (R.bind (R.ok v25) fun x57 => R.bind (R.bind (R.bind (R.bind (R.bind (R.ok a_script) fun x27 => R.bind (R.bind (R.bind (R.ok a_at) fun x31 => R.bind (R.ok (PyData.int 8)) fun x32 => R.opt (pyAdd x31 x32)) fun x29 => R.bind (R.bind (R.ok (PyData.int 4)) fun x33 => R.bind (R.ok []) fun x34 => R.ok (Slot.dat x33 :: x34)) fun x30 => R.ok (Slot.dat x29 :: x30)) fun x28 => R.ok (Slot.bor (Ob.lst x27) :: x28)) F__law_pick) fun x35 => R.bind (R.ok (PyData.int 2)) fun x36 => R.opt (pyDiv x35 x36)) fun x55 => R.bind (R.bind (R.bind (R.bind (R.bind (R.ok v26) fun x48 => R.bind (R.bind (R.bind (R.ok a_script) fun x37 => R.bind (R.bind (R.bind (R.ok a_at) fun x41 => R.bind (R.ok (PyData.int 9)) fun x42 => R.opt (pyAdd x41 x42)) fun x39 => R.bind (R.bind (R.bind (R.bind (R.ok v26) fun x45 => R.bind (R.ok []) fun x46 => R.ok (x45 :: x46)) fun x47 => R.opt (pyLen x47)) fun x43 => R.bind (R.ok []) fun x44 => R.ok (Slot.dat x43 :: x44)) fun x40 => R.ok (Slot.dat x39 :: x40)) fun x38 => R.ok (Slot.bor (Ob.lst x37) :: x38)) F__law_pick) fun x49 => R.opt (pyIx x48 x49)) fun x50 => R.bind (R.ok []) fun x51 => R.ok (x50 :: x51)) fun x52 => R.ok (PyData.tuple x52)) fun x53 => R.bind (R.ok []) fun x54 => R.ok (x53 :: x54)) fun x56 => R.ok (x55 :: x56)) fun x58 => R.ok (x57 :: x58)) fun x59 => R.ok (PyData.tuple x59)) fun x60 => R.ok (Out.rt x60)) outD
def F__law_one_term : List Slot → R D
  | [.bor (.lst a_script), .dat a_at] => m__law_one_term a_script a_at
  | _ => R.stuck
def m_next_ones (a_row : D) (a_many : D) : R D := R.bind (R.bind (R.bind (R.bind (R.bind (R.bind (R.bind (R.ok a_row) fun x1 => R.bind (R.bind (R.ok a_many) fun x3 => R.bind (R.ok []) fun x4 => R.ok (Slot.dat x3 :: x4)) fun x2 => R.ok (Slot.dat x1 :: x2)) F_rules_for) asSeq) (compD R.ok (fun _ => R.ok true) (fun d5 => R.bind (R.bind (R.ok d5) fun x7 => R.bind (R.bind (R.bind (R.bind (R.bind (R.ok a_row) fun x11 => R.bind (R.ok []) fun x12 => R.ok (x11 :: x12)) fun x13 => R.opt (pyLen x13)) fun x14 => R.bind (R.ok (PyData.int 1)) fun x15 => R.opt (pyAdd x14 x15)) fun x9 => R.bind (R.ok []) fun x10 => R.ok (Slot.dat x9 :: x10)) fun x8 => R.ok (Slot.dat x7 :: x8)) F_row_of))) lstD) fun v16 =>
 R.bind (R.bind (R.bind (R.bind (R.bind (R.bind (R.bind (R.ok v16) asSeq) (compD R.ok (fun d17 => R.bind (R.bind (R.bind (R.bind (R.ok d17) fun x22 => R.bind (R.ok []) fun x23 => R.ok (x22 :: x23)) fun x24 => R.opt (pyLen x24)) fun x28 => R.bind (R.bind (R.bind (R.ok a_row) fun x25 => R.bind (R.ok []) fun x26 => R.ok (x25 :: x26)) fun x27 => R.opt (pyLen x27)) fun x29 => R.opt (pyGt x28 x29)) asB) (fun d17 => R.bind (R.ok d17) fun x20 => R.bind (R.bind (R.ok (PyData.int 1)) fun x19 => R.opt (pyNeg x19)) fun x21 => R.opt (pyIx x20 x21)))) lstD) asLst) sortSet) lstD) fun x30 => R.ok (Out.rt x30)) outD
def F_next_ones : List Slot → R D
  | [.dat a_row, .dat a_many] => m_next_ones a_row a_many
  | _ => R.stuck
def m_Walk___init__ (a_rule : D) : R Wk := R.bind (R.bind (R.bind (R.bind (R.ok a_rule) fun x1 => R.bind (R.ok []) fun x2 => R.ok (Slot.dat x1 :: x2)) F_look_rule) fun _ =>
 R.ok (Out.nx ())) (nxR fun (_ : Unit) => R.bind (R.opt (pyIx a_rule (PyData.int 0))) fun r => R.ok ⟨a_rule, r, [], []⟩)
def m_Walk_do (a_self : Wk) (a_word : D) (a_row : D) : R (D × Wk) := R.bind (R.ok (Out.nx ())) (nxR fun (z2 : Unit) => R.bind (noexc (R.bind (R.bind (R.bind (R.ok a_word) fun x5 => R.bind (R.bind (R.ok a_self.now) fun x3 => R.bind (R.ok []) fun x4 => R.ok (x3 :: x4)) fun x6 => R.ok (x5 :: x6)) fun x7 => R.ok (PyData.tuple x7)) fun d8 => R.bind (app1 (a_self).past d8) fun l9 =>
 R.bind (R.ok []) fun l10 =>
 R.bind (R.ok a_row) fun v11 =>
 R.ok (Out.nx ((Wk.mk a_self.own v11 l9 l10), a_row)))) (nxR fun (z12 : Wk × D) => R.ok (PyData.none, z12.1)))
def F_Walk_do : Wk → List D → R (D × Wk)
  | a_self, [a_word, a_row] => m_Walk_do a_self a_word a_row
  | _, _ => R.stuck
def m_Walk_go (a_self : Wk)  : R (D × Wk) := R.bind (R.bind (R.bind (R.bind (R.bind (R.bind (R.ok a_self.now) fun x1 => R.bind (R.ok []) fun x2 => R.ok (x1 :: x2)) fun x3 => R.opt (pyLen x3)) fun x4 => R.bind (R.ok (PyData.int 200)) fun x5 => R.opt (pyEq x4 x5)) asB) fun t14 => if t14 then
 R.exc XC.noNumber
 else
 R.bind (R.bind (R.bind (R.ok a_self.own) fun x6 => R.bind (R.bind (R.bind (R.bind (R.bind (R.ok a_self.now) asSeq) lstD) asLst) fun x8 => R.bind (R.ok []) fun x9 => R.ok (Slot.bor (Ob.lst x8) :: x9)) fun x7 => R.ok (Slot.dat x6 :: x7)) F_next_number) fun v10 =>
 R.bind (R.bind (R.bind (R.ok v10) fun x11 => R.bind (R.ok PyData.none) fun x12 => R.opt (pyIs x11 x12)) asB) fun t13 => if t13 then
 R.exc XC.ended
 else
 R.ok (Out.nx v10)) (nxR fun (z16 : D) => R.bind (noexc (R.bind (R.bind (R.bind (R.ok (PyData.str (PySem.Str.ofString "go"))) fun x26 => R.bind (R.bind (R.bind (R.ok a_self.now) fun x22 => R.bind (R.bind (R.bind (R.ok z16) fun x19 => R.bind (R.ok []) fun x20 => R.ok (x19 :: x20)) fun x21 => R.ok (PyData.tuple x21)) fun x23 => R.opt (pyAdd x22 x23)) fun x24 => R.bind (R.ok []) fun x25 => R.ok (x24 :: x25)) fun x27 => R.ok (x26 :: x27)) fun x28 => R.bind (F_Walk_do a_self x28) fun z18 => R.ok (z18.1, (fun w17 => w17) z18.2)) fun z32 =>
 R.ok (Out.nx (z32.2, z16)))) (nxR fun (z33 : Wk × D) => R.bind (R.ok z33.2) fun d34 => R.ok (d34, z33.1)))
def F_Walk_go : Wk → List D → R (D × Wk)
  | a_self, [] => m_Walk_go a_self 
  | _, _ => R.stuck
def m_Walk_poke (a_self : Wk) (a_number : D) : R (D × Wk) := R.bind (R.bind (R.bind (R.bind (R.bind (R.bind (R.ok a_number) fun x1 => R.ok (PyData.bool (isTy Ty5.int x1))) asB) fun t2 => R.ok (!t2)) fun t10 => if t10 then R.ok true else R.bind (R.bind (R.bind (R.ok a_number) fun x3 => R.ok (PyData.bool (isTy Ty5.bool x3))) asB) fun t9 => if t9 then R.ok true else R.bind (R.bind (R.bind (R.bind (R.ok a_number) fun x4 => R.bind (R.ok []) fun x5 => R.ok (x4 :: x5)) fun x6 => R.opt (pyAbs x6)) fun x7 => R.bind (R.ok (PyData.int 999)) fun x8 => R.opt (pyGt x7 x8)) asB) fun t15 => if t15 then
 R.exc XC.noNumber
 else
 R.bind (R.bind (R.ok a_self.now) fun x12 => R.bind (R.bind (R.ok (PyData.int 1)) fun x11 => R.opt (pyNeg x11)) fun x13 => R.opt (pyIx x12 x13)) fun v14 =>
 R.ok (Out.nx v14)) (nxR fun (z17 : D) => R.bind (noexc (R.bind (R.bind (R.bind (R.ok (PyData.str (PySem.Str.ofString "poke"))) fun x31 => R.bind (R.bind (R.bind (R.bind (R.ok a_self.now) fun x21 => R.bind (R.ok none) fun x22 => R.bind (R.bind (R.bind (R.ok (PyData.int 1)) fun x20 => R.opt (pyNeg x20)) asI) fun x23 => R.opt (pySl x21 x22 x23)) fun x27 => R.bind (R.bind (R.bind (R.ok a_number) fun x24 => R.bind (R.ok []) fun x25 => R.ok (x24 :: x25)) fun x26 => R.ok (PyData.tuple x26)) fun x28 => R.opt (pyAdd x27 x28)) fun x29 => R.bind (R.ok []) fun x30 => R.ok (x29 :: x30)) fun x32 => R.ok (x31 :: x32)) fun x33 => R.bind (F_Walk_do a_self x33) fun z19 => R.ok (z19.1, (fun w18 => w18) z19.2)) fun z37 =>
 R.ok (Out.nx (z37.2, z17)))) (nxR fun (z38 : Wk × D) => R.bind (R.ok z38.2) fun d39 => R.ok (d39, z38.1)))
def F_Walk_poke : Wk → List D → R (D × Wk)
  | a_self, [a_number] => m_Walk_poke a_self a_number
  | _, _ => R.stuck
def m_Walk_row (a_self : Wk) : R D := R.bind (R.bind (R.bind (R.bind (R.ok a_self.now) asSeq) lstD) fun x1 => R.ok (Out.rt x1)) outD
def F_Walk_row : List Slot → R D
  | [.bwk _ a_self] => m_Walk_row a_self
  | _ => R.stuck
def m_Walk_rule (a_self : Wk) : R D := R.bind (R.bind (R.ok a_self.own) fun x1 => R.ok (Out.rt x1)) outD
def F_Walk_rule : List Slot → R D
  | [.bwk _ a_self] => m_Walk_rule a_self
  | _ => R.stuck
def m_Walk_is_true (a_self : Wk) : R D := R.bind (R.bind (R.bind (R.bind (R.bind (R.ok a_self.own) fun x1 => R.bind (R.bind (R.bind (R.bind (R.ok a_self.now) fun x5 => R.bind (R.ok []) fun x6 => R.ok (x5 :: x6)) fun x7 => R.opt (pyLen x7)) fun x3 => R.bind (R.ok []) fun x4 => R.ok (Slot.dat x3 :: x4)) fun x2 => R.ok (Slot.dat x1 :: x2)) F_row_of) fun x8 => R.bind (R.bind (R.bind (R.ok a_self.now) asSeq) lstD) fun x9 => R.opt (pyEq x8 x9)) fun x10 => R.ok (Out.rt x10)) outD
def F_Walk_is_true : List Slot → R D
  | [.bwk _ a_self] => m_Walk_is_true a_self
  | _ => R.stuck
def m__law_deed (a_script : List D) (a_at : D) : R D := R.bind (R.bind (R.bind (R.bind (R.bind (R.ok (PyData.str (PySem.Str.ofString "go"))) fun x7 => R.bind (R.bind (R.ok (PyData.str (PySem.Str.ofString "go"))) fun x5 => R.bind (R.bind (R.ok (PyData.str (PySem.Str.ofString "go"))) fun x3 => R.bind (R.bind (R.ok (PyData.str (PySem.Str.ofString "poke"))) fun x1 => R.bind (R.ok []) fun x2 => R.ok (x1 :: x2)) fun x4 => R.ok (x3 :: x4)) fun x6 => R.ok (x5 :: x6)) fun x8 => R.ok (x7 :: x8)) lstD) fun x15 => R.bind (R.bind (R.bind (R.ok a_script) fun x9 => R.bind (R.bind (R.ok a_at) fun x11 => R.bind (R.bind (R.ok (PyData.int 4)) fun x13 => R.bind (R.ok []) fun x14 => R.ok (Slot.dat x13 :: x14)) fun x12 => R.ok (Slot.dat x11 :: x12)) fun x10 => R.ok (Slot.bor (Ob.lst x9) :: x10)) F__law_pick) fun x16 => R.opt (pyIx x15 x16)) fun v17 =>
 R.bind (R.bind (R.bind (R.ok v17) fun x30 => R.bind (R.bind (R.bind (R.bind (R.bind (R.ok a_script) fun x18 => R.bind (R.bind (R.bind (R.ok a_at) fun x22 => R.bind (R.ok (PyData.int 1)) fun x23 => R.opt (pyAdd x22 x23)) fun x20 => R.bind (R.bind (R.ok (PyData.int 9)) fun x24 => R.bind (R.ok []) fun x25 => R.ok (Slot.dat x24 :: x25)) fun x21 => R.ok (Slot.dat x20 :: x21)) fun x19 => R.ok (Slot.bor (Ob.lst x18) :: x19)) F__law_pick) fun x26 => R.bind (R.ok (PyData.int 2)) fun x27 => R.opt (pySub x26 x27)) fun x28 => R.bind (R.ok []) fun x29 => R.ok (x28 :: x29)) fun x31 => R.ok (x30 :: x31)) fun x32 => R.ok (PyData.tuple x32)) fun x33 => R.ok (Out.rt x33)) outD
def F__law_deed : List Slot → R D
  | [.bor (.lst a_script), .dat a_at] => m__law_deed a_script a_at
  | _ => R.stuck
def m__law_behind (a_rule : D) (a_row : D) (a_deed : D) : R D := R.bind (R.bind (R.bind (R.bind (R.bind (R.ok a_deed) fun x1 => R.bind (R.ok (PyData.int 0)) fun x2 => R.opt (pyIx x1 x2)) fun x3 => R.bind (R.ok (PyData.str (PySem.Str.ofString "poke"))) fun x4 => R.opt (pyEq x3 x4)) asB) fun t97 => if t97 then
 R.bind (R.bind (R.bind (R.bind (R.bind (R.ok a_row) fun x6 => R.bind (R.ok none) fun x7 => R.bind (R.bind (R.bind (R.ok (PyData.int 1)) fun x5 => R.opt (pyNeg x5)) asI) fun x8 => R.opt (pySl x6 x7 x8)) fun x13 => R.bind (R.bind (R.bind (R.bind (R.ok a_deed) fun x9 => R.bind (R.ok (PyData.int 1)) fun x10 => R.opt (pyIx x9 x10)) fun x11 => R.bind (R.ok []) fun x12 => R.ok (x11 :: x12)) lstD) fun x14 => R.opt (pyAdd x13 x14)) fun x20 => R.bind (R.bind (R.bind (R.ok a_row) fun x16 => R.bind (R.bind (R.ok (PyData.int 1)) fun x15 => R.opt (pyNeg x15)) fun x17 => R.opt (pyIx x16 x17)) fun x18 => R.bind (R.ok []) fun x19 => R.ok (x18 :: x19)) fun x21 => R.ok (x20 :: x21)) fun x22 => R.ok (PyData.tuple x22)) fun x23 => R.ok (Out.rt x23)
 else
 R.bind (R.bind (R.bind (R.ok (PyData.int 1)) fun x31 => R.bind (R.bind (R.bind (R.bind (R.bind (R.ok a_row) fun x24 => R.bind (R.ok []) fun x25 => R.ok (x24 :: x25)) fun x26 => R.opt (pyLen x26)) fun x27 => R.bind (R.ok (PyData.int 1)) fun x28 => R.opt (pyAdd x27 x28)) fun x29 => R.bind (R.ok []) fun x30 => R.ok (x29 :: x30)) fun x32 => R.ok (x31 :: x32)) rng2) fun ds96 => R.bind (forM (fun (z35 : List (Key × D)) (d36 : D) =>
 R.bind (R.bind (R.ok a_row) fun x40 => R.bind (R.bind (R.ok d36) fun x38 => R.bind (R.ok (PyData.int 1)) fun x39 => R.opt (pySub x38 x39)) fun x41 => R.opt (pyIx x40 x41)) fun d42 => R.bind (R.ok d36) fun d43 => R.bind (dPut z35 d43 d42) fun l37 =>
 R.ok (Out.nx l37)) ds96 ([] : List (Key × D))) (Out.cont fun (z44 : List (Key × D)) =>
 R.bind (R.bind (R.bind (R.bind (R.bind (R.ok a_rule) fun x45 => R.bind (R.ok (PyData.int 2)) fun x46 => R.opt (pyIx x45 x46)) asSeq) (compD R.ok (fun _ => R.ok true) (fun d47 => R.bind (R.bind (R.bind (R.ok d47) fun x49 => R.bind (R.bind (R.ok (Ob.dic z44)) fun x51 => R.bind (R.bind (R.bind (R.bind (R.bind (R.ok a_row) fun x55 => R.bind (R.ok []) fun x56 => R.ok (x55 :: x56)) fun x57 => R.opt (pyLen x57)) fun x58 => R.bind (R.ok (PyData.int 1)) fun x59 => R.opt (pyAdd x58 x59)) fun x53 => R.bind (R.ok []) fun x54 => R.ok (Slot.dat x53 :: x54)) fun x52 => R.ok (Slot.bor x51 :: x52)) fun x50 => R.ok (Slot.dat x49 :: x50)) (F__law_number 14)) fun x60 => R.bind (R.ok (PyData.int 0)) fun x61 => R.opt (pyIx x60 x61)))) lstD) fun v62 =>
 R.bind (R.bind (R.bind (R.ok PyData.none) fun x63 => R.bind (R.ok v62) fun x64 => R.opt (pyIn false x63 x64)) asB) fun t95 => if t95 then
 R.bind (R.bind (R.bind (R.ok a_row) fun x67 => R.bind (R.bind (R.ok (PyData.str (PySem.Str.ofString "ended"))) fun x65 => R.bind (R.ok []) fun x66 => R.ok (x65 :: x66)) fun x68 => R.ok (x67 :: x68)) fun x69 => R.ok (PyData.tuple x69)) fun x70 => R.ok (Out.rt x70)
 else
 R.bind (R.bind (R.bind (R.bind (R.ok a_row) fun x80 => R.bind (R.bind (R.bind (R.bind (R.bind (R.ok a_rule) fun x71 => R.bind (R.ok (PyData.int 1)) fun x72 => R.opt (pyIx x71 x72)) fun x76 => R.bind (R.bind (R.bind (R.ok v62) fun x73 => R.bind (R.ok []) fun x74 => R.ok (x73 :: x74)) fun x75 => R.opt (pySum x75)) fun x77 => R.opt (pyAdd x76 x77)) fun x78 => R.bind (R.ok []) fun x79 => R.ok (x78 :: x79)) lstD) fun x81 => R.opt (pyAdd x80 x81)) fun x91 => R.bind (R.bind (R.bind (R.bind (R.ok a_rule) fun x82 => R.bind (R.ok (PyData.int 1)) fun x83 => R.opt (pyIx x82 x83)) fun x87 => R.bind (R.bind (R.bind (R.ok v62) fun x84 => R.bind (R.ok []) fun x85 => R.ok (x84 :: x85)) fun x86 => R.opt (pySum x86)) fun x88 => R.opt (pyAdd x87 x88)) fun x89 => R.bind (R.ok []) fun x90 => R.ok (x89 :: x90)) fun x92 => R.ok (x91 :: x92)) fun x93 => R.ok (PyData.tuple x93)) fun x94 => R.ok (Out.rt x94))) outD
def F__law_behind : List Slot → R D
  | [.dat a_rule, .dat a_row, .dat a_deed] => m__law_behind a_rule a_row a_deed
  | _ => R.stuck
def m__law_done (a_walk : Wk) (a_deed : D) : R (D × Wk) := R.bind (R.ok (Out.nx ())) (nxR fun (z2 : Unit) => R.bind (toldM W__law_class a_walk (R.bind (R.bind (R.bind (R.bind (R.ok a_deed) fun x4 => R.bind (R.ok (PyData.int 0)) fun x5 => R.opt (pyIx x4 x5)) fun x6 => R.bind (R.ok (PyData.str (PySem.Str.ofString "go"))) fun x7 => R.opt (pyEq x6 x7)) asB) fun t19 => if t19 then R.bind (m_Walk_go a_walk) fun z9 => R.ok (z9.1, (fun w8 => w8) z9.2) else R.bind (R.bind (R.bind (R.ok a_deed) fun x13 => R.bind (R.ok (PyData.int 1)) fun x14 => R.opt (pyIx x13 x14)) fun x15 => R.bind (R.ok []) fun x16 => R.ok (x15 :: x16)) fun x17 => R.bind (F_Walk_poke a_walk x17) fun z12 => R.ok (z12.1, (fun w11 => w11) z12.2))) fun z22 => R.ok (z22.1, z22.2))
def F__law_done : Wk → List D → R (D × Wk)
  | a_walk, [a_deed] => m__law_done a_walk a_deed
  | _, _ => R.stuck
def m_Walk_back (a_self : Wk)  : R (D × Wk) := R.bind (R.bind (R.bind (R.bind (R.bind (R.ok a_self.past) lstD) fun x1 => R.bind (R.bind (R.ok []) lstD) fun x2 => R.opt (pyEq x1 x2)) asB) fun t3 => if t3 then
 R.exc XC.noBack
 else
 R.ok (Out.nx ())) (nxR fun (z5 : Unit) => R.bind (noexc (R.bind (popL (a_self).past) fun z6 =>
 R.bind (R.bind (R.bind (R.ok z6.1) fun x9 => R.bind (R.bind (R.ok (Wk.mk a_self.own a_self.now z6.2.2 a_self.later).now) fun x7 => R.bind (R.ok []) fun x8 => R.ok (x7 :: x8)) fun x10 => R.ok (x9 :: x10)) fun x11 => R.ok (PyData.tuple x11)) fun d12 => R.bind (app1 ((Wk.mk a_self.own a_self.now z6.2.2 a_self.later)).later d12) fun l13 =>
 R.bind (R.ok z6.2.1) fun v14 =>
 R.ok (Out.nx ((Wk.mk a_self.own v14 z6.2.2 l13), z6.1)))) (nxR fun (z15 : Wk × D) => R.bind (R.ok z15.2) fun d16 => R.ok (d16, z15.1)))
def F_Walk_back : Wk → List D → R (D × Wk)
  | a_self, [] => m_Walk_back a_self 
  | _, _ => R.stuck
def m_Walk_forth (a_self : Wk)  : R (D × Wk) := R.bind (R.bind (R.bind (R.bind (R.bind (R.ok a_self.later) lstD) fun x1 => R.bind (R.bind (R.ok []) lstD) fun x2 => R.opt (pyEq x1 x2)) asB) fun t3 => if t3 then
 R.exc XC.noBack
 else
 R.ok (Out.nx ())) (nxR fun (z5 : Unit) => R.bind (noexc (R.bind (popL (a_self).later) fun z6 =>
 R.bind (R.bind (R.bind (R.ok z6.1) fun x9 => R.bind (R.bind (R.ok (Wk.mk a_self.own a_self.now a_self.past z6.2.2).now) fun x7 => R.bind (R.ok []) fun x8 => R.ok (x7 :: x8)) fun x10 => R.ok (x9 :: x10)) fun x11 => R.ok (PyData.tuple x11)) fun d12 => R.bind (app1 ((Wk.mk a_self.own a_self.now a_self.past z6.2.2)).past d12) fun l13 =>
 R.bind (R.ok z6.2.1) fun v14 =>
 R.ok (Out.nx ((Wk.mk a_self.own v14 l13 z6.2.2), z6.1)))) (nxR fun (z15 : Wk × D) => R.bind (R.ok z15.2) fun d16 => R.ok (d16, z15.1)))
def F_Walk_forth : Wk → List D → R (D × Wk)
  | a_self, [] => m_Walk_forth a_self 
  | _, _ => R.stuck
def m_Walk_counts (a_self : Wk) : R D := R.bind (R.bind (R.bind (R.bind (R.bind (R.bind (R.bind (R.ok a_self.past) lstD) fun x1 => R.bind (R.ok []) fun x2 => R.ok (x1 :: x2)) fun x3 => R.opt (pyLen x3)) fun x9 => R.bind (R.bind (R.bind (R.bind (R.bind (R.ok a_self.later) lstD) fun x4 => R.bind (R.ok []) fun x5 => R.ok (x4 :: x5)) fun x6 => R.opt (pyLen x6)) fun x7 => R.bind (R.ok []) fun x8 => R.ok (x7 :: x8)) fun x10 => R.ok (x9 :: x10)) fun x11 => R.ok (PyData.tuple x11)) fun x12 => R.ok (Out.rt x12)) outD
def F_Walk_counts : List Slot → R D
  | [.bwk _ a_self] => m_Walk_counts a_self
  | _ => R.stuck
def m__law_lists (a_rule : D) (a_many : D) : R D := R.bind (R.bind (R.bind (R.bind (R.bind (R.bind (R.ok a_rule) fun x1 => R.bind (R.bind (R.ok a_many) fun x3 => R.bind (R.ok []) fun x4 => R.ok (Slot.dat x3 :: x4)) fun x2 => R.ok (Slot.dat x1 :: x2)) F_numbers) fun x29 => R.bind (R.bind (R.bind (R.bind (R.ok a_rule) fun x5 => R.bind (R.bind (R.ok a_many) fun x7 => R.bind (R.ok []) fun x8 => R.ok (Slot.dat x7 :: x8)) fun x6 => R.ok (Slot.dat x5 :: x6)) F_steps) fun x27 => R.bind (R.bind (R.bind (R.bind (R.ok a_rule) fun x9 => R.bind (R.bind (R.ok a_many) fun x11 => R.bind (R.ok []) fun x12 => R.ok (Slot.dat x11 :: x12)) fun x10 => R.ok (Slot.dat x9 :: x10)) F_how_often) fun x25 => R.bind (R.bind (R.bind (R.bind (R.ok a_rule) fun x13 => R.bind (R.bind (R.ok a_many) fun x15 => R.bind (R.ok []) fun x16 => R.ok (Slot.dat x15 :: x16)) fun x14 => R.ok (Slot.dat x13 :: x14)) F_records) fun x23 => R.bind (R.bind (R.bind (R.bind (R.ok a_rule) fun x17 => R.bind (R.bind (R.ok a_many) fun x19 => R.bind (R.ok []) fun x20 => R.ok (Slot.dat x19 :: x20)) fun x18 => R.ok (Slot.dat x17 :: x18)) F_runs) fun x21 => R.bind (R.ok []) fun x22 => R.ok (x21 :: x22)) fun x24 => R.ok (x23 :: x24)) fun x26 => R.ok (x25 :: x26)) fun x28 => R.ok (x27 :: x28)) fun x30 => R.ok (x29 :: x30)) lstD) fun v31 =>
 R.bind (R.bind (R.ok v31) fun x56 => R.bind (R.bind (R.bind (R.bind (R.bind (R.ok a_rule) fun x32 => R.bind (R.bind (R.ok (PyData.int 1)) fun x34 => R.bind (R.ok []) fun x35 => R.ok (Slot.dat x34 :: x35)) fun x33 => R.ok (Slot.dat x32 :: x33)) F_looks) fun x54 => R.bind (R.bind (R.bind (R.bind (R.bind (R.ok a_rule) fun x38 => R.bind (R.ok (PyData.int 2)) fun x39 => R.opt (pyIx x38 x39)) fun x36 => R.bind (R.bind (R.ok (PyData.int 0)) fun x40 => R.bind (R.bind (R.ok (PyData.int 9)) fun x42 => R.bind (R.ok []) fun x43 => R.ok (Slot.dat x42 :: x43)) fun x41 => R.ok (Slot.dat x40 :: x41)) fun x37 => R.ok (Slot.dat x36 :: x37)) F_living) fun x52 => R.bind (R.bind (R.bind (R.bind (R.ok a_many) fun x44 => R.bind (R.ok []) fun x45 => R.ok (Slot.dat x44 :: x45)) F_own_counts) fun x50 => R.bind (R.bind (R.bind (R.bind (R.ok (PyData.int 3)) fun x46 => R.bind (R.ok []) fun x47 => R.ok (Slot.dat x46 :: x47)) F_halves) fun x48 => R.bind (R.ok []) fun x49 => R.ok (x48 :: x49)) fun x51 => R.ok (x50 :: x51)) fun x53 => R.ok (x52 :: x53)) fun x55 => R.ok (x54 :: x55)) lstD) fun x57 => R.opt (pyAdd x56 x57)) fun x58 => R.ok (Out.rt x58)) outD
def F__law_lists : List Slot → R D
  | [.dat a_rule, .dat a_many] => m__law_lists a_rule a_many
  | _ => R.stuck
def m_Walk_twin (a_self : Wk) : R Wk := R.bind (R.bind (R.bind (R.ok a_self.own) m_Walk___init__) fun w1 =>
 R.bind (R.ok a_self.now) fun v3 =>
 R.bind (R.ok a_self.past) fun l4 =>
 R.bind (R.ok a_self.later) fun l5 =>
 R.ok (Out.nx (Wk.mk w1.own v3 l4 l5))) (nxR R.ok)
def F_Walk_twin : List Slot → R Wk
  | [.bwk _ a_self] => m_Walk_twin a_self
  | _ => R.stuck
def m_walk_text (a_walk : Wk) : R D := R.bind (R.bind (R.bind (R.bind (R.bind (R.bind (R.bind (m_Walk_rule a_walk) fun x1 => R.bind (R.ok []) fun x2 => R.ok (Slot.dat x1 :: x2)) F_text_of) fun x3 => R.bind (R.ok (PyData.str (PySem.Str.ofString "\n"))) fun x4 => R.opt (pyAdd x3 x4)) fun x12 => R.bind (R.bind (R.bind (R.ok (PyData.str (PySem.Str.ofString " "))) asS) fun x10 => R.bind (R.bind (R.bind (R.bind (m_Walk_row a_walk) asSeq) (compD R.ok (fun _ => R.ok true) (fun d5 => R.bind (R.bind (R.ok d5) fun x7 => R.bind (R.ok []) fun x8 => R.ok (x7 :: x8)) fun x9 => R.opt (pyStrD x9)))) lstD) fun x11 => R.opt (pyJoin x10 x11)) fun x13 => R.opt (pyAdd x12 x13)) fun x14 => R.bind (R.ok (PyData.str (PySem.Str.ofString "\n"))) fun x15 => R.opt (pyAdd x14 x15)) fun x16 => R.ok (Out.rt x16)) outD
def F_walk_text : List Slot → R D
  | [.bwk _ a_walk] => m_walk_text a_walk
  | _ => R.stuck
def m_number_in (a_word : D) : R D := R.bind (R.bind (R.bind (R.bind (R.bind (R.bind (R.ok a_word) fun x1 => R.bind (R.ok none) fun x2 => R.bind (R.bind (R.ok (PyData.int 1)) asI) fun x3 => R.opt (pySl x1 x2 x3)) fun x4 => R.bind (R.ok (PyData.str (PySem.Str.ofString "-"))) fun x5 => R.opt (pyEq x4 x5)) asB) fun t7 => if t7 then R.bind (R.ok (PyData.int 1)) fun x6 => R.opt (pyNeg x6) else R.ok (PyData.int 1)) fun v8 =>
 R.bind (R.bind (R.bind (R.bind (R.ok v8) fun x9 => R.bind (R.ok (PyData.int 0)) fun x10 => R.opt (pyLt x9 x10)) asB) fun t14 => if t14 then R.bind (R.ok a_word) fun x11 => R.bind (R.bind (R.ok (PyData.int 1)) asI) fun x12 => R.bind (R.ok none) fun x13 => R.opt (pySl x11 x12 x13) else R.ok a_word) fun v15 =>
 R.bind (R.bind (R.bind (R.bind (R.ok v15) fun x16 => R.bind (R.ok (PyData.str (PySem.Str.ofString ""))) fun x17 => R.opt (pyEq x16 x17)) asB) fun t32 => if t32 then R.ok true else R.bind (R.bind (R.bind (R.bind (R.bind (R.ok v15) fun x18 => R.bind (R.ok []) fun x19 => R.ok (x18 :: x19)) fun x20 => R.opt (pyLen x20)) fun x21 => R.bind (R.ok (PyData.int 99)) fun x22 => R.opt (pyGt x21 x22)) asB) fun t31 => if t31 then R.ok true else R.bind (R.bind (R.bind (R.bind (R.bind (R.bind (R.bind (R.ok v15) asSeq) (compD R.ok (fun _ => R.ok true) (fun d23 => R.bind (R.ok d23) fun x25 => R.bind (R.ok (PyData.str (PySem.Str.ofString "0123456789"))) fun x26 => R.opt (pyIn false x25 x26)))) lstD) fun x27 => R.bind (R.ok []) fun x28 => R.ok (x27 :: x28)) fun x29 => R.opt (pyAll x29)) asB) fun t30 => R.ok (!t30)) fun t39 => if t39 then
 R.exc XC.noText
 else
 R.bind (R.bind (R.ok v8) fun x36 => R.bind (R.bind (R.bind (R.ok v15) fun x33 => R.bind (R.ok []) fun x34 => R.ok (x33 :: x34)) fun x35 => R.opt (pyIntD x35)) fun x37 => R.opt (pyMul x36 x37)) fun x38 => R.ok (Out.rt x38)) outD
def F_number_in : List Slot → R D
  | [.dat a_word] => m_number_in a_word
  | _ => R.stuck
def m_read_walk (a_text : D) : R Wk := R.bind (R.bind (R.bind (R.bind (R.bind (R.bind (R.ok a_text) fun x1 => R.ok (PyData.bool (isTy Ty5.str x1))) asB) fun t2 => R.ok (!t2)) fun t10 => if t10 then R.ok true else R.bind (R.bind (R.bind (R.bind (R.bind (R.bind (R.ok a_text) asS) fun x3 => R.bind (R.ok (PyData.str (PySem.Str.ofString "\n"))) fun x4 => R.opt (pySplit x3 x4)) fun x5 => R.bind (R.ok []) fun x6 => R.ok (x5 :: x6)) fun x7 => R.opt (pyLen x7)) fun x8 => R.bind (R.ok (PyData.int 3)) fun x9 => R.opt (pyNe x8 x9)) asB) fun t46 => if t46 then
 R.exc XC.noText
 else
 R.bind (R.bind (R.bind (R.ok a_text) asS) fun x11 => R.bind (R.ok (PyData.str (PySem.Str.ofString "\n"))) fun x12 => R.opt (pySplit x11 x12)) fun v13 =>
 R.bind (R.bind (R.bind (R.bind (R.bind (R.ok v13) fun x16 => R.bind (R.ok (PyData.int 0)) fun x17 => R.opt (pyIx x16 x17)) fun x14 => R.bind (R.ok []) fun x15 => R.ok (Slot.dat x14 :: x15)) F_read_rule) m_Walk___init__) fun w18 =>
 R.bind (R.bind (R.bind (R.bind (R.bind (R.bind (R.bind (R.bind (R.bind (R.ok v13) fun x20 => R.bind (R.ok (PyData.int 1)) fun x21 => R.opt (pyIx x20 x21)) asS) fun x22 => R.bind (R.ok (PyData.str (PySem.Str.ofString " "))) fun x23 => R.opt (pySplit x22 x23)) asSeq) (compD R.ok (fun _ => R.ok true) (fun d24 => R.bind (R.bind (R.ok d24) fun x26 => R.bind (R.ok []) fun x27 => R.ok (Slot.dat x26 :: x27)) F_number_in))) lstD) asSeq) tupD) fun v28 =>
 R.bind (R.bind (R.bind (R.bind (R.bind (R.bind (R.ok w18.now) fun x29 => R.bind (R.ok []) fun x30 => R.ok (x29 :: x30)) fun x31 => R.opt (pyLen x31)) fun x35 => R.bind (R.bind (R.bind (R.ok v28) fun x32 => R.bind (R.ok []) fun x33 => R.ok (x32 :: x33)) fun x34 => R.opt (pyLen x34)) fun x36 => R.bind (R.opt (pyLe x35 x36)) fun x37 => R.bind (asB x37) fun x38 => if x38 then R.bind (R.ok (PyData.int 200)) fun x39 => R.opt (pyLe x36 x39) else R.ok (PyData.bool false)) asB) fun t40 => R.ok (!t40)) fun t45 => if t45 then
 R.exc XC.noText
 else
 R.bind (R.ok v28) fun v41 =>
 R.bind (R.bind (R.bind (m_walk_text (Wk.mk w18.own v41 w18.past w18.later)) fun x42 => R.bind (R.ok a_text) fun x43 => R.opt (pyNe x42 x43)) asB) fun t44 => if t44 then
 R.exc XC.noText
 else
 R.ok (Out.nx (Wk.mk w18.own v41 w18.past w18.later))) (nxR R.ok)
def F_read_walk : List Slot → R Wk
  | [.dat a_text] => m_read_walk a_text
  | _ => R.stuck
def m__law_walk_text (a_rule : D) (a_row : D) : R D := R.bind (R.bind (R.bind (R.bind (R.bind (R.bind (R.bind (R.ok a_rule) fun x1 => R.bind (R.ok []) fun x2 => R.ok (Slot.dat x1 :: x2)) F_rule_text) fun x3 => R.bind (R.ok (PyData.str (PySem.Str.ofString "\n"))) fun x4 => R.opt (pyAdd x3 x4)) fun x12 => R.bind (R.bind (R.bind (R.ok (PyData.str (PySem.Str.ofString " "))) asS) fun x10 => R.bind (R.bind (R.bind (R.bind (R.ok a_row) asSeq) (compD R.ok (fun _ => R.ok true) (fun d5 => R.bind (R.bind (R.ok d5) fun x7 => R.bind (R.ok []) fun x8 => R.ok (x7 :: x8)) fun x9 => R.opt (pyStrD x9)))) lstD) fun x11 => R.opt (pyJoin x10 x11)) fun x13 => R.opt (pyAdd x12 x13)) fun x14 => R.bind (R.ok (PyData.str (PySem.Str.ofString "\n"))) fun x15 => R.opt (pyAdd x14 x15)) fun x16 => R.ok (Out.rt x16)) outD
def F__law_walk_text : List Slot → R D
  | [.dat a_rule, .dat a_row] => m__law_walk_text a_rule a_row
  | _ => R.stuck
end Br
namespace Br
open PySem PySem.Spec PyProof.Rows L2
namespace K69
def m_law (a_script : List D) : R D := R.bind (R.bind (R.bind (R.bind (R.ok a_script) fun x1 => R.bind (R.bind (R.ok (PyData.int 10)) fun x3 => R.bind (R.ok []) fun x4 => R.ok (Slot.dat x3 :: x4)) fun x2 => R.ok (Slot.bor (Ob.lst x1) :: x2)) F__law_rule) fun v5 =>
 R.bind (R.bind (R.ok v5) m_Walk___init__) fun w6 =>
 R.bind (R.bind (R.bind (R.ok (PyData.int 14)) fun x8 => R.bind (R.ok []) fun x9 => R.ok (x8 :: x9)) rng1) fun ds191 => R.bind (forM (fun (z12 : Wk) (d13 : D) =>
 R.bind (R.ok (PyData.tuple [PyData.str (PySem.Str.ofString "go"), PyData.int 0])) fun v14 =>
 R.bind (R.bind (R.bind (R.bind (R.bind (R.bind (R.ok a_script) fun x15 => R.bind (R.bind (R.bind (R.ok (PyData.int 100)) fun x19 => R.bind (R.ok d13) fun x20 => R.opt (pyAdd x19 x20)) fun x17 => R.bind (R.bind (R.ok (PyData.int 6)) fun x21 => R.bind (R.ok []) fun x22 => R.ok (Slot.dat x21 :: x22)) fun x18 => R.ok (Slot.dat x17 :: x18)) fun x16 => R.ok (Slot.bor (Ob.lst x15) :: x16)) F__law_pick) fun x23 => R.bind (R.ok (PyData.int 0)) fun x24 => R.opt (pyEq x23 x24)) asB) fun t33 => if t33 then R.bind (R.bind (R.bind (R.bind (R.bind (m_Walk_row z12) fun x26 => R.bind (R.bind (R.ok (PyData.int 1)) fun x25 => R.opt (pyNeg x25)) fun x27 => R.opt (pyIx x26 x27)) fun x28 => R.bind (R.ok []) fun x29 => R.ok (x28 :: x29)) fun x30 => R.opt (pyAbs x30)) fun x31 => R.bind (R.ok (PyData.int 900)) fun x32 => R.opt (pyLt x31 x32)) asB else R.ok false) fun t151 => R.bind (if t151 then
 R.bind (R.bind (R.bind (R.ok (PyData.str (PySem.Str.ofString "poke"))) fun x50 => R.bind (R.bind (R.bind (R.bind (m_Walk_row z12) fun x36 => R.bind (R.bind (R.ok (PyData.int 1)) fun x35 => R.opt (pyNeg x35)) fun x37 => R.opt (pyIx x36 x37)) fun x46 => R.bind (R.bind (R.bind (R.ok a_script) fun x38 => R.bind (R.bind (R.bind (R.ok (PyData.int 120)) fun x42 => R.bind (R.ok d13) fun x43 => R.opt (pyAdd x42 x43)) fun x40 => R.bind (R.bind (R.ok (PyData.int 2)) fun x44 => R.bind (R.ok []) fun x45 => R.ok (Slot.dat x44 :: x45)) fun x41 => R.ok (Slot.dat x40 :: x41)) fun x39 => R.ok (Slot.bor (Ob.lst x38) :: x39)) F__law_pick) fun x47 => R.opt (pyAdd x46 x47)) fun x48 => R.bind (R.ok []) fun x49 => R.ok (x48 :: x49)) fun x51 => R.ok (x50 :: x51)) fun x52 => R.ok (PyData.tuple x52)) fun v53 =>
 R.ok (Out.nx v53)
 else
 R.ok (Out.nx v14)) (Out.meet fun (z54 : D) =>
 R.bind (m_Walk_row z12) fun v55 =>
 R.bind (R.bind (R.bind (R.bind (R.ok z54) fun x59 => R.bind (R.ok []) fun x60 => R.ok (x59 :: x60)) fun x61 => R.bind (F__law_done z12 x61) fun z58 => R.ok (z58.1, (fun w57 => w57) z58.2)) fun z72 => noexc (R.bind (R.bind (R.bind (m_Walk_row z72.2) fun x65 => R.ok (x65, z72.2)) fun z70 => noexc (R.bind (R.ok ([], z70.2)) fun y71 => R.ok (z70.1 :: y71.1, y71.2))) fun y73 => R.ok (z72.1 :: y73.1, y73.2))) fun z75 => R.bind (open2l z75.1) fun d74 =>
 R.bind (R.bind (R.bind (R.bind (R.bind (R.ok v5) fun x77 => R.bind (R.bind (R.ok d74.2) fun x79 => R.bind (R.ok []) fun x80 => R.ok (Slot.dat x79 :: x80)) fun x78 => R.ok (Slot.dat x77 :: x78)) F_is_row) fun x81 => R.bind (m_Walk_is_true z75.2) fun x82 => R.opt (pyNe x81 x82)) asB) fun t150 => if t150 then
 R.bind (R.ok (PyData.bool false)) fun x83 => R.ok (Out.rt x83)
 else
 R.bind (R.bind (R.bind (R.bind (R.bind (R.ok v5) fun x84 => R.bind (R.bind (R.ok d74.2) fun x86 => R.bind (R.ok []) fun x87 => R.ok (Slot.dat x86 :: x87)) fun x85 => R.ok (Slot.dat x84 :: x85)) F_is_row) fun x97 => R.bind (R.bind (R.bind (R.bind (R.ok v5) fun x88 => R.bind (R.bind (R.bind (R.bind (R.ok d74.2) fun x92 => R.bind (R.ok []) fun x93 => R.ok (x92 :: x93)) fun x94 => R.opt (pyLen x94)) fun x90 => R.bind (R.ok []) fun x91 => R.ok (Slot.dat x90 :: x91)) fun x89 => R.ok (Slot.dat x88 :: x89)) F_numbers) fun x95 => R.bind (R.ok d74.2) fun x96 => R.opt (pyEq x95 x96)) fun x98 => R.opt (pyNe x97 x98)) asB) fun t149 => if t149 then
 R.bind (R.ok (PyData.bool false)) fun x99 => R.ok (Out.rt x99)
 else
 R.bind (R.bind (R.bind (R.bind (R.ok v5) fun x100 => R.bind (R.bind (R.ok d74.2) fun x102 => R.bind (R.ok []) fun x103 => R.ok (Slot.dat x102 :: x103)) fun x101 => R.ok (Slot.dat x100 :: x101)) F_is_row) asB) fun t148 => R.bind (if t148 then
 R.bind (m_Walk_twin z75.2) fun w105 =>
 R.bind (R.bind (toldM W__law_class (z75.2, w105) (R.bind (m_Walk_go w105) fun z109 => R.ok (z109.1, (fun w108 => (z75.2, w108)) z109.2))) fun z115 => noexc (R.bind (R.bind (R.ok (PyData.str (PySem.Str.ofString "ended"))) fun x113 => R.ok (x113, (z115.2.1, z115.2.2))) fun y116 => R.bind (R.opt (pyNe z115.1 y116.1)) fun t117 => R.ok (t117, y116.2))) fun z121 =>
 R.bind (R.bind (R.bind (R.bind (R.bind (R.ok v5) fun x123 => R.bind (R.bind (R.ok d74.2) fun x125 => R.bind (R.ok []) fun x126 => R.ok (Slot.dat x125 :: x126)) fun x124 => R.ok (Slot.dat x123 :: x124)) F_goes_on) fun x127 => R.bind (R.ok z121.1) fun x128 => R.opt (pyNe x127 x128)) asB) fun t130 => if t130 then
 R.bind (R.ok (PyData.bool false)) fun x129 => R.ok (Out.rt x129)
 else
 R.ok (Out.nx z121.2.1)
 else
 R.bind (R.bind (R.bind (toldR W__law_class (R.bind (R.bind (R.ok v5) fun x132 => R.bind (R.bind (R.ok d74.2) fun x134 => R.bind (R.ok []) fun x135 => R.ok (Slot.dat x134 :: x135)) fun x133 => R.ok (Slot.dat x132 :: x133)) F_goes_on)) fun x136 => R.bind (R.ok (PyData.str (PySem.Str.ofString "ended"))) fun x137 => R.opt (pyNe x136 x137)) asB) fun t139 => if t139 then
 R.bind (R.ok (PyData.bool false)) fun x138 => R.ok (Out.rt x138)
 else
 R.ok (Out.nx z75.2)) (Out.meet fun (z140 : Wk) =>
 R.bind (R.bind (R.bind (R.bind (R.ok d74.1) fun x141 => R.bind (R.ok (PyData.str (PySem.Str.ofString "ended"))) fun x142 => R.opt (pyEq x141 x142)) asB) fun t145 => if t145 then R.bind (R.bind (R.ok v55) fun x143 => R.bind (R.ok d74.2) fun x144 => R.opt (pyNe x143 x144)) asB else R.ok false) fun t147 => if t147 then
 R.bind (R.ok (PyData.bool false)) fun x146 => R.ok (Out.rt x146)
 else
 R.ok (Out.nx z140)))) ds191 w6) (Out.cont fun (z152 : Wk) =>
 R.bind (whileM (fun (z154 : Wk) => R.bind (R.bind (R.bind (m_Walk_counts z154) fun x157 => R.bind (R.ok (PyData.int 0)) fun x158 => R.opt (pyIx x157 x158)) fun x159 => R.bind (R.ok (PyData.int 0)) fun x160 => R.opt (pyGt x159 x160)) asB) (fun (z155 : Wk) =>
 R.bind (R.bind (m_Walk_back z155) fun z162 => R.ok (z162.1, (fun w161 => w161) z162.2)) fun z166 =>
 R.ok (Out.nx z166.2)) 3000 z152) (Out.cont fun (z167 : Wk) =>
 R.bind (R.bind (R.bind (R.bind (R.bind (R.ok v5) fun x168 => R.bind (R.bind (m_Walk_row z167) fun x170 => R.bind (R.ok []) fun x171 => R.ok (Slot.dat x170 :: x171)) fun x169 => R.ok (Slot.dat x168 :: x169)) F_is_row) fun x172 => R.bind (R.ok (PyData.bool true)) fun x173 => R.opt (pyIs x172 x173)) fun x188 => R.bind (asB x188) fun t189 => if t189 then R.bind (R.bind (R.bind (R.bind (R.ok v5) fun x174 => R.bind (R.bind (R.bind (R.ok []) lstD) fun x176 => R.bind (R.ok []) fun x177 => R.ok (Slot.dat x176 :: x177)) fun x175 => R.ok (Slot.dat x174 :: x175)) F_is_row) fun x178 => R.bind (R.ok (PyData.bool false)) fun x179 => R.opt (pyIs x178 x179)) fun x186 => R.bind (asB x186) fun t187 => if t187 then R.bind (R.bind (R.bind (R.ok v5) fun x180 => R.bind (R.bind (R.bind (R.bind (m_Walk_row z167) asSeq) tupD) fun x182 => R.bind (R.ok []) fun x183 => R.ok (Slot.dat x182 :: x183)) fun x181 => R.ok (Slot.dat x180 :: x181)) F_is_row) fun x184 => R.bind (R.ok (PyData.bool false)) fun x185 => R.opt (pyIs x184 x185) else R.ok (PyData.bool false) else R.ok (PyData.bool false)) fun x190 => R.ok (Out.rt x190)))) outD
def F_law : List Slot → R D
  | [.bor (.lst a_script)] => m_law a_script
  | _ => R.stuck
end K69
end Br
namespace Br
open PySem PySem.Spec PyProof.Rows L2
namespace K69
def topS (i : Nat) : Stmt := PySem.Challenge.pw_backrows_k69_whole_beginnings_held.main.body.getD i (.Pass ⟨0, 0, 0, 0⟩)
abbrev s_is_whole : Stmt := topS 15
abbrev N_is_whole : List Str := ["thing", "low", "high"]
abbrev s_is_term_in : Stmt := topS 16
abbrev N_is_term_in : List Str := ["thing", "deep"]
abbrev s_is_term : Stmt := topS 17
abbrev N_is_term : List Str := ["thing"]
abbrev s_is_rule : Stmt := topS 18
abbrev N_is_rule : List Str := ["thing", "one", "term"]
abbrev s_look_rule : Stmt := topS 19
abbrev N_look_rule : List Str := ["rule"]
abbrev s_look_many : Stmt := topS 20
abbrev N_look_many : List Str := ["many"]
abbrev s_place_of : Stmt := topS 22
abbrev N_place_of : List Str := ["term", "row", "here", "inner"]
abbrev s_number_of : Stmt := topS 23
abbrev N_number_of : List Str := ["term", "row", "place"]
abbrev s_next_number : Stmt := topS 24
abbrev N_next_number : List Str := ["rule", "row", "some", "term"]
abbrev s_row_of : Stmt := topS 25
abbrev N_row_of : List Str := ["rule", "many", "made", "here"]
abbrev s_numbers : Stmt := topS 26
abbrev N_numbers : List Str := ["rule", "many"]
abbrev s_is_row : Stmt := topS 27
abbrev N_is_row : List Str := ["rule", "thing", "one"]
abbrev s_goes_on : Stmt := topS 28
abbrev N_goes_on : List Str := ["rule", "row"]
abbrev s_Walk___init__ : Stmt := inClass (topS 31) 0
abbrev N_Walk___init__ : List Str := ["self", "rule"]
abbrev s_Walk_do : Stmt := inClass (topS 31) 1
abbrev N_Walk_do : List Str := ["self", "word", "row"]
abbrev s_Walk_go : Stmt := inClass (topS 31) 2
abbrev N_Walk_go : List Str := ["self", "here"]
abbrev s_Walk_poke : Stmt := inClass (topS 31) 3
abbrev N_Walk_poke : List Str := ["self", "number", "was"]
abbrev s_Walk_row : Stmt := inClass (topS 31) 4
abbrev N_Walk_row : List Str := ["self"]
abbrev s_Walk_is_true : Stmt := inClass (topS 31) 6
abbrev N_Walk_is_true : List Str := ["self"]
abbrev s_Walk_back : Stmt := inClass (topS 31) 7
abbrev N_Walk_back : List Str := ["self", "word", "was"]
abbrev s_Walk_counts : Stmt := inClass (topS 31) 9
abbrev N_Walk_counts : List Str := ["self"]
abbrev s_Walk_twin : Stmt := inClass (topS 31) 10
abbrev N_Walk_twin : List Str := ["self", "made"]
abbrev s__law_cell : Stmt := topS 33
abbrev N__law_cell : List Str := ["script", "k"]
abbrev s__law_pick : Stmt := topS 34
abbrev N__law_pick : List Str := ["script", "k", "many", "drawn"]
abbrev s__law_term : Stmt := topS 35
abbrev N__law_term : List Str := ["script", "at", "deep", "way", "inner"]
abbrev s__law_rule : Stmt := topS 36
abbrev N__law_rule : List Str := ["script", "at", "way", "first", "some", "here", "terms", "k"]
abbrev s__law_class : Stmt := topS 39
abbrev N__law_class : List Str := ["kept", "kinds"]
abbrev s__law_told : Stmt := topS 40
abbrev N__law_told : List Str := ["deed", "e"]
abbrev s__law_done : Stmt := topS 43
abbrev N__law_done : List Str := ["walk", "deed"]
abbrev s_law : Stmt := topS 44
abbrev N_law : List Str := ["script", "rule", "walk", "k", "deed", "before", "told", "row", "other", "goes"]
structure Top (K : PySem.W.Frag) (mg : Str → Option Value) (CA : XC → Addr) (base : Heap) (Tt : Tb) : Prop where
  b_ValueError : mg "ValueError" = none
  b_abs : mg "abs" = none
  b_all : mg "all" = none
  b_bool : mg "bool" = none
  b_int : mg "int" = none
  b_isinstance : mg "isinstance" = none
  b_len : mg "len" = none
  b_list : mg "list" = none
  b_range : mg "range" = none
  b_str : mg "str" = none
  b_sum : mg "sum" = none
  b_tuple : mg "tuple" = none
  c_DEEPEST : ∃ t, mg "DEEPEST" = some (.int 3 t)
  c_MOST_TERMS : ∃ t, mg "MOST_TERMS" = some (.int 3 t)
  c_FARTHEST : ∃ t, mg "FARTHEST" = some (.int 5 t)
  c_GREATEST : ∃ t, mg "GREATEST" = some (.int 9 t)
  c_MOST_FIRST : ∃ t, mg "MOST_FIRST" = some (.int 6 t)
  c_LONGEST : ∃ t, mg "LONGEST" = some (.int 200 t)
  c_FARTHEST_POKE : ∃ t, mg "FARTHEST_POKE" = some (.int 999 t)
  x_NoRule : ExcF K mg CA .noRule "NoRule"
  x_NoNumber : ExcF K mg CA .noNumber "NoNumber"
  x_Ended : ExcF K mg CA .ended "Ended"
  x_NoText : ExcF K mg CA .noText "NoText"
  x_NoBack : ExcF K mg CA .noBack "NoBack"
  xs : ExcsF K mg CA (rowX K) [.noRule, .noNumber, .ended, .noText, .noBack]
  wc : WCls K
  d_is_whole : ∃ f fd, mg "is_whole" = some (.ref f) ∧ Fun K "is_whole" "is_whole" s_is_whole f fd ∧ Binds K fd ["thing", "low", "high"] []
  d_is_term_in : ∃ f fd, mg "is_term_in" = some (.ref f) ∧ Fun K "is_term_in" "is_term_in" s_is_term_in f fd ∧ Binds K fd ["thing", "deep"] []
  d_is_term : ∃ f fd, mg "is_term" = some (.ref f) ∧ Fun K "is_term" "is_term" s_is_term f fd ∧ Binds K fd ["thing"] []
  d_is_rule : ∃ f fd, mg "is_rule" = some (.ref f) ∧ Fun K "is_rule" "is_rule" s_is_rule f fd ∧ Binds K fd ["thing"] []
  d_look_rule : ∃ f fd, mg "look_rule" = some (.ref f) ∧ Fun K "look_rule" "look_rule" s_look_rule f fd ∧ Binds K fd ["rule"] []
  d_look_many : ∃ f fd, mg "look_many" = some (.ref f) ∧ Fun K "look_many" "look_many" s_look_many f fd ∧ Binds K fd ["many"] []
  d_place_of : ∃ f fd, mg "place_of" = some (.ref f) ∧ Fun K "place_of" "place_of" s_place_of f fd ∧ Binds K fd ["term", "row"] []
  d_number_of : ∃ f fd, mg "number_of" = some (.ref f) ∧ Fun K "number_of" "number_of" s_number_of f fd ∧ Binds K fd ["term", "row"] []
  d_next_number : ∃ f fd, mg "next_number" = some (.ref f) ∧ Fun K "next_number" "next_number" s_next_number f fd ∧ Binds K fd ["rule", "row"] []
  d_row_of : ∃ f fd, mg "row_of" = some (.ref f) ∧ Fun K "row_of" "row_of" s_row_of f fd ∧ Binds K fd ["rule", "many"] []
  d_numbers : ∃ f fd, mg "numbers" = some (.ref f) ∧ Fun K "numbers" "numbers" s_numbers f fd ∧ Binds K fd ["rule", "many"] []
  d_is_row : ∃ f fd, mg "is_row" = some (.ref f) ∧ Fun K "is_row" "is_row" s_is_row f fd ∧ Binds K fd ["rule", "thing"] []
  d_goes_on : ∃ f fd, mg "goes_on" = some (.ref f) ∧ Fun K "goes_on" "goes_on" s_goes_on f fd ∧ Binds K fd ["rule", "row"] []
  d_Walk___init__ : ∃ f fd, Mk K (wkC K) f ∧ mg "Walk" = some (.ref (wkC K)) ∧ Fun K "__init__" "Walk.__init__" s_Walk___init__ f fd ∧ Binds K fd ["self", "rule"] []
  d_Walk_do : ∃ f fd, Meth K (wkC K) "do" f ∧ Fun K "do" "Walk.do" s_Walk_do f fd ∧ Binds K fd ["self", "word", "row"] []
  d_Walk_go : ∃ f fd, Meth K (wkC K) "go" f ∧ Fun K "go" "Walk.go" s_Walk_go f fd ∧ Binds K fd ["self"] []
  d_Walk_poke : ∃ f fd, Meth K (wkC K) "poke" f ∧ Fun K "poke" "Walk.poke" s_Walk_poke f fd ∧ Binds K fd ["self", "number"] []
  d_Walk_row : ∃ f fd, Meth K (wkC K) "row" f ∧ Fun K "row" "Walk.row" s_Walk_row f fd ∧ Binds K fd ["self"] []
  d_Walk_is_true : ∃ f fd, Meth K (wkC K) "is_true" f ∧ Fun K "is_true" "Walk.is_true" s_Walk_is_true f fd ∧ Binds K fd ["self"] []
  d_Walk_back : ∃ f fd, Meth K (wkC K) "back" f ∧ Fun K "back" "Walk.back" s_Walk_back f fd ∧ Binds K fd ["self"] []
  d_Walk_counts : ∃ f fd, Meth K (wkC K) "counts" f ∧ Fun K "counts" "Walk.counts" s_Walk_counts f fd ∧ Binds K fd ["self"] []
  d_Walk_twin : ∃ f fd, Meth K (wkC K) "twin" f ∧ Fun K "twin" "Walk.twin" s_Walk_twin f fd ∧ Binds K fd ["self"] []
  d__law_cell : ∃ f fd, mg "_law_cell" = some (.ref f) ∧ Fun K "_law_cell" "_law_cell" s__law_cell f fd ∧ Binds K fd ["script", "k"] []
  d__law_pick : ∃ f fd, mg "_law_pick" = some (.ref f) ∧ Fun K "_law_pick" "_law_pick" s__law_pick f fd ∧ Binds K fd ["script", "k", "many"] []
  d__law_term : ∃ f fd, mg "_law_term" = some (.ref f) ∧ Fun K "_law_term" "_law_term" s__law_term f fd ∧ Binds K fd ["script", "at", "deep"] []
  d__law_rule : ∃ f fd, mg "_law_rule" = some (.ref f) ∧ Fun K "_law_rule" "_law_rule" s__law_rule f fd ∧ Binds K fd ["script", "at"] []
  d__law_class : ∃ f fd, mg "_law_class" = some (.ref f) ∧ Fun K "_law_class" "_law_class" s__law_class f fd ∧ Binds K fd ["kept"] []
  d__law_told : ∃ f fd, mg "_law_told" = some (.ref f) ∧ Fun K "_law_told" "_law_told" s__law_told f fd ∧ Binds K fd ["deed"] []
  d__law_done : ∃ f fd, mg "_law_done" = some (.ref f) ∧ Fun K "_law_done" "_law_done" s__law_done f fd ∧ Binds K fd ["walk", "deed"] [] ∧ ∃ c P, fd.code = .ref c ∧ LamX.TabB base mg c P ∧ (P, lamQ "_law_done") ∈ Tt ∧ ∀ p ∈ Tt, p.1 = P → p.2 = lamQ "_law_done"
  d_law : ∃ f fd, mg "law" = some (.ref f) ∧ Fun K "law" "law" s_law f fd ∧ Binds K fd ["script"] [] ∧ ∃ c P, fd.code = .ref c ∧ LamX.TabB base mg c P ∧ (P, lamQ "law") ∈ Tt ∧ ∀ p ∈ Tt, p.1 = P → p.2 = lamQ "law"
section
variable {Tt : Tb} {P : Program} {w : World} {K : PySem.W.Frag} {mg : Str → Option Value} {base : Heap} {CA : XC → Addr}
theorem sc_is_whole : FnScope N_is_whole ["thing", "low", "high"] (defScope s_is_whole) := ⟨rfl, rfl, rfl, by decide +kernel, rfl, by decide +kernel, by decide +kernel⟩
theorem inv_is_whole (ss : List Slot) : (∃ a_thing a_low a_high, ss = [.dat a_thing, .dat a_low, .dat a_high]) ∨ F_is_whole ss = R.stuck := by
  unfold F_is_whole
  split
  · exact .inl ⟨_, _, _, rfl⟩
  · exact .inr rfl
theorem ok_is_whole (T : Top K mg CA base Tt) : FnD Tt P w K mg base CA 1 "is_whole" ["thing", "low", "high"] F_is_whole := by
  obtain ⟨f, fd, hm, Fn, hb⟩ := T.d_is_whole
  refine ⟨f, fd, hm, Fn.kp, hb, fnOk (N := N_is_whole) (k := 0) Fn sc_is_whole (fun cdv hcv A outer s H Q E ss hl X hX C => ?_) (by decide)⟩
  subst hX
  rcases inv_is_whole ss with h | h
  · obtain ⟨a_thing, a_low, a_high, rfl⟩ := h
    exact ⟨_, jk_ret (je_and (je_isi .int (by decide +kernel) T.b_int T.b_isinstance (JE.h (je_var (i := 0) rfl))) (je_and (je_not (je_isi .bool (by decide +kernel) T.b_bool T.b_isinstance (JE.h (je_var (i := 0) rfl)))) (je_one (je_cc (c_le) (c_le) (JE.h (je_var (i := 1) rfl)) (JE.h (je_var (i := 0) rfl)) (JE.h (je_var (i := 2) rfl)))))), by kernel_rfl⟩
  · exact ⟨R.stuck, jk_stuck, h⟩
theorem sc_is_term_in : FnScope N_is_term_in ["thing", "deep"] (defScope s_is_term_in) := ⟨rfl, rfl, rfl, by decide +kernel, rfl, by decide +kernel, by decide +kernel⟩
theorem inv_is_term_in (k : Nat) (ss : List Slot) : (∃ a_thing a_deep, ss = [.dat a_thing, .dat a_deep]) ∨ F_is_term_in k ss = R.stuck := by
  unfold F_is_term_in
  split
  · exact .inl ⟨_, _, rfl⟩
  · exact .inr rfl
theorem step_is_term_in (T : Top K mg CA base Tt) (k : Nat) (ih_is_term_in : FnD Tt P w K mg base CA (k + 1) "is_term_in" ["thing", "deep"] (F_is_term_in k)) : FnD Tt P w K mg base CA (k + 1 + 1) "is_term_in" ["thing", "deep"] (F_is_term_in (k + 1)) := by
  obtain ⟨f, fd, hm, Fn, hb⟩ := T.d_is_term_in
  refine ⟨f, fd, hm, Fn.kp, hb, fnOk (N := N_is_term_in) (k := k + 1) Fn sc_is_term_in (fun cdv hcv A outer s H Q E ss hl X hX C => ?_) (by decide)⟩
  subst hX
  rcases inv_is_term_in (k + 1) ss with h | h
  · obtain ⟨a_thing, a_deep, rfl⟩ := h
    exact ⟨_, jk_if (jt_w (jw_or (jt_c (c_eq C.hr) (JE.h (je_var (i := 1) rfl)) (JE.h (je_int))) (jw_or (jt_not (jt_val (je_isi .tuple (by decide +kernel) T.b_tuple T.b_isinstance (JE.h (je_var (i := 0) rfl))))) (jw_or (jt_c (c_lt) (JE.h (je_cb call_len ok_len (by decide +kernel) T.b_len (jl_cons (JE.h (je_var (i := 0) rfl)) (jl_nil)))) (JE.h (je_int))) (jw_or1 (jt_not (jt_val (je_isi .str (by decide +kernel) T.b_str T.b_isinstance (JE.h (je_ix (je_var (i := 0) rfl) (je_int)))))))))))
 (jk_ret (je_bl))
 (jk_nil (jk_if (jt_c (c_eq C.hr) (JE.h (je_ix (je_var (i := 0) rfl) (je_int))) (JE.h (je_str)))
 (jk_ret (je_and (je_c (c_eq C.hr) (JE.h (je_cb call_len ok_len (by decide +kernel) T.b_len (jl_cons (JE.h (je_var (i := 0) rfl)) (jl_nil)))) (JE.h (je_int))) (je_one (je_call (ok_is_whole T) (C.hr.mono (by omega)) C.tk rfl (ja_dat (je_ix (je_var (i := 0) rfl) (je_int)) (ja_dat (je_int) (ja_dat (je_globE T.c_FARTHEST) (ja_nil))))))))
 (jk_nil (jk_if (jt_c (c_eq C.hr) (JE.h (je_ix (je_var (i := 0) rfl) (je_int))) (JE.h (je_str)))
 (jk_ret (je_and (je_c (c_eq C.hr) (JE.h (je_cb call_len ok_len (by decide +kernel) T.b_len (jl_cons (JE.h (je_var (i := 0) rfl)) (jl_nil)))) (JE.h (je_int))) (je_one (je_call (ih_is_term_in) (C.hr.mono (Nat.le_refl _)) C.tk rfl (ja_dat (je_ix (je_var (i := 0) rfl) (je_int)) (ja_dat (je_sub (je_var (i := 1) rfl) (je_int)) (ja_nil)))))))
 (jk_nil (jk_if (jt_w (jw_or (jt_c (c_notin (C.hr.mono (Nat.le_refl _))) (JE.h (je_ix (je_var (i := 0) rfl) (je_int))) (JE.h (je_const (d := PyData.tuple [PyData.str (PySem.Str.ofString "back"), PyData.str (PySem.Str.ofString "rest")]) (by kernel_rfl)))) (jw_or (jt_c (c_ne C.hr) (JE.h (je_cb call_len ok_len (by decide +kernel) T.b_len (jl_cons (JE.h (je_var (i := 0) rfl)) (jl_nil)))) (JE.h (je_int))) (jw_or1 (jt_not (jt_val (je_call (ok_is_whole T) (C.hr.mono (by omega)) C.tk rfl (ja_dat (je_ix (je_var (i := 0) rfl) (je_int)) (ja_dat (je_int) (ja_dat (je_globE T.c_FARTHEST) (ja_nil)))))))))))
 (jk_ret (je_bl))
 (jk_nil (jk_ret (je_call (ih_is_term_in) (C.hr.mono (Nat.le_refl _)) C.tk rfl (ja_dat (je_ix (je_var (i := 0) rfl) (je_int)) (ja_dat (je_sub (je_var (i := 1) rfl) (je_int)) (ja_nil)))))))))))), by kernel_rfl⟩
  · exact ⟨R.stuck, jk_stuck, h⟩
theorem zero_is_term_in (ss : List Slot) : F_is_term_in 0 ss = R.stuck := by
  rcases inv_is_term_in 0 ss with h | h
  · obtain ⟨_, _, rfl⟩ := h
    rfl
  · exact h
theorem both_is_term_in (T : Top K mg CA base Tt) : ∀ k : Nat, FnD Tt P w K mg base CA (k + 1) "is_term_in" ["thing", "deep"] (F_is_term_in k)
  | 0 => (let ⟨_, _, hm, Fn, hb⟩ := T.d_is_term_in; FnD.zero zero_is_term_in hm Fn.kp hb)
  | k + 1 => by
    have ih := both_is_term_in T k
    exact step_is_term_in T k ih
theorem ok_is_term_in (T : Top K mg CA base Tt) (k : Nat) : FnD Tt P w K mg base CA (k + 1) "is_term_in" ["thing", "deep"] (F_is_term_in k) := both_is_term_in T k
theorem sc_is_term : FnScope N_is_term ["thing"] (defScope s_is_term) := ⟨rfl, rfl, rfl, by decide +kernel, rfl, by decide +kernel, by decide +kernel⟩
theorem inv_is_term (ss : List Slot) : (∃ a_thing, ss = [.dat a_thing]) ∨ F_is_term ss = R.stuck := by
  unfold F_is_term
  split
  · exact .inl ⟨_, rfl⟩
  · exact .inr rfl
theorem ok_is_term (T : Top K mg CA base Tt) : FnD Tt P w K mg base CA 16 "is_term" ["thing"] F_is_term := by
  obtain ⟨f, fd, hm, Fn, hb⟩ := T.d_is_term
  refine ⟨f, fd, hm, Fn.kp, hb, fnOk (N := N_is_term) (k := 15) Fn sc_is_term (fun cdv hcv A outer s H Q E ss hl X hX C => ?_) (by decide)⟩
  subst hX
  rcases inv_is_term ss with h | h
  · obtain ⟨a_thing, rfl⟩ := h
    exact ⟨_, jk_ret (je_call ((ok_is_term_in T 14)) (C.hr.mono (by decide)) C.tk rfl (ja_dat (je_var (i := 0) rfl) (ja_dat (je_globE T.c_DEEPEST) (ja_nil)))), by kernel_rfl⟩
  · exact ⟨R.stuck, jk_stuck, h⟩
theorem sc_is_rule : FnScope N_is_rule ["thing"] (defScope s_is_rule) := ⟨rfl, rfl, rfl, by decide +kernel, rfl, by decide +kernel, by decide +kernel⟩
theorem inv_is_rule (ss : List Slot) : (∃ a_thing, ss = [.dat a_thing]) ∨ F_is_rule ss = R.stuck := by
  unfold F_is_rule
  split
  · exact .inl ⟨_, rfl⟩
  · exact .inr rfl
theorem ok_is_rule (T : Top K mg CA base Tt) : FnD Tt P w K mg base CA 17 "is_rule" ["thing"] F_is_rule := by
  obtain ⟨f, fd, hm, Fn, hb⟩ := T.d_is_rule
  refine ⟨f, fd, hm, Fn.kp, hb, fnOk (N := N_is_rule) (k := 16) Fn sc_is_rule (fun cdv hcv A outer s H Q E ss hl X hX C => ?_) (by decide)⟩
  subst hX
  rcases inv_is_rule ss with h | h
  · obtain ⟨a_thing, rfl⟩ := h
    exact ⟨_, jk_if (jt_w (jw_or (jt_not (jt_val (je_isi .tuple (by decide +kernel) T.b_tuple T.b_isinstance (JE.h (je_var (i := 0) rfl))))) (jw_or1 (jt_c (c_ne C.hr) (JE.h (je_cb call_len ok_len (by decide +kernel) T.b_len (jl_cons (JE.h (je_var (i := 0) rfl)) (jl_nil)))) (JE.h (je_int))))))
 (jk_ret (je_bl))
 (jk_nil (jk_if (jt_w (jw_or (jt_not (jt_val (je_isi .tuple (by decide +kernel) T.b_tuple T.b_isinstance (JE.h (je_ix (je_var (i := 0) rfl) (je_int)))))) (jw_or1 (jt_not (jt_val (je_isi .tuple (by decide +kernel) T.b_tuple T.b_isinstance (JE.h (je_ix (je_var (i := 0) rfl) (je_int)))))))))
 (jk_ret (je_bl))
 (jk_nil (jk_if (jt_w (jw_or (jt_not (jt_cc (c_le) (c_le) (JE.h (je_int)) (JE.h (je_cb call_len ok_len (by decide +kernel) T.b_len (jl_cons (JE.h (je_ix (je_var (i := 0) rfl) (je_int))) (jl_nil)))) (JE.h (je_globE T.c_MOST_FIRST)))) (jw_or1 (jt_not (jt_val (je_cb (cr_all C.calm) ok_all (by decide +kernel) T.b_all (jl_cons (JE.h (ln_data (ln_lc (i := 1) (ji_seq (je_ix (je_var (i := 0) rfl) (je_int))) (fun d33 s1 H1 Ca1 cl1 fp1 => have C34 := C.blk s1 H1 _ Ca1 cl1 fp1; je_call (ok_is_whole T) (C34.hr.mono (by decide)) C34.tk rfl (ja_dat (je_var (i := 1) rfl) (ja_dat (je_int) (ja_dat (je_globE T.c_GREATEST) (ja_nil))))) C.calm sc_is_rule.nd (blkOk_by (own := [((PySem.Str.ofString "one"), 1)]) (N := N_is_rule) (sc := defScope s_is_rule) (by decide +kernel))))) (jl_nil))))))))
 (jk_ret (je_bl))
 (jk_nil (jk_if (jt_w (jw_or (jt_not (jt_val (je_call (ok_is_whole T) (C.hr.mono (by decide)) C.tk rfl (ja_dat (je_ix (je_var (i := 0) rfl) (je_int)) (ja_dat (je_int) (ja_dat (je_globE T.c_GREATEST) (ja_nil))))))) (jw_or1 (jt_not (jt_cc (c_le) (c_le) (JE.h (je_int)) (JE.h (je_cb call_len ok_len (by decide +kernel) T.b_len (jl_cons (JE.h (je_ix (je_var (i := 0) rfl) (je_int))) (jl_nil)))) (JE.h (je_globE T.c_MOST_TERMS)))))))
 (jk_ret (je_bl))
 (jk_nil (jk_ret (je_cb (cr_all C.calm) ok_all (by decide +kernel) T.b_all (jl_cons (JE.h (ln_data (ln_lc (i := 2) (ji_seq (je_ix (je_var (i := 0) rfl) (je_int))) (fun d71 s1 H1 Ca1 cl1 fp1 => have C72 := C.blk s1 H1 _ Ca1 cl1 fp1; je_call (ok_is_term T) (C72.hr.mono (by decide)) C72.tk rfl (ja_dat (je_var (i := 2) rfl) (ja_nil))) C.calm sc_is_rule.nd (blkOk_by (own := [((PySem.Str.ofString "term"), 2)]) (N := N_is_rule) (sc := defScope s_is_rule) (by decide +kernel))))) (jl_nil))))))))))), by kernel_rfl⟩
  · exact ⟨R.stuck, jk_stuck, h⟩
theorem sc_look_rule : FnScope N_look_rule ["rule"] (defScope s_look_rule) := ⟨rfl, rfl, rfl, by decide +kernel, rfl, by decide +kernel, by decide +kernel⟩
theorem inv_look_rule (ss : List Slot) : (∃ a_rule, ss = [.dat a_rule]) ∨ F_look_rule ss = R.stuck := by
  unfold F_look_rule
  split
  · exact .inl ⟨_, rfl⟩
  · exact .inr rfl
theorem ok_look_rule (T : Top K mg CA base Tt) : FnD Tt P w K mg base CA 18 "look_rule" ["rule"] F_look_rule := by
  obtain ⟨f, fd, hm, Fn, hb⟩ := T.d_look_rule
  refine ⟨f, fd, hm, Fn.kp, hb, fnOk (N := N_look_rule) (k := 17) Fn sc_look_rule (fun cdv hcv A outer s H Q E ss hl X hX C => ?_) (by decide)⟩
  subst hX
  rcases inv_look_rule ss with h | h
  · obtain ⟨a_rule, rfl⟩ := h
    exact ⟨_, jk_if (jt_not (jt_val (je_call (ok_is_rule T) (C.hr.mono (by decide)) C.tk rfl (ja_dat (je_var (i := 0) rfl) (ja_nil)))))
 (jk_raise T.x_NoRule C.tk C.calm)
 (jk_nil (jk_end (x := ()) (show Less ([.un] : Rho) ([.dat a_rule] : Rho) from less_un (less_nil)))), by kernel_rfl⟩
  · exact ⟨R.stuck, jk_stuck, h⟩
theorem sc_look_many : FnScope N_look_many ["many"] (defScope s_look_many) := ⟨rfl, rfl, rfl, by decide +kernel, rfl, by decide +kernel, by decide +kernel⟩
theorem inv_look_many (ss : List Slot) : (∃ a_many, ss = [.dat a_many]) ∨ F_look_many ss = R.stuck := by
  unfold F_look_many
  split
  · exact .inl ⟨_, rfl⟩
  · exact .inr rfl
theorem ok_look_many (T : Top K mg CA base Tt) : FnD Tt P w K mg base CA 2 "look_many" ["many"] F_look_many := by
  obtain ⟨f, fd, hm, Fn, hb⟩ := T.d_look_many
  refine ⟨f, fd, hm, Fn.kp, hb, fnOk (N := N_look_many) (k := 1) Fn sc_look_many (fun cdv hcv A outer s H Q E ss hl X hX C => ?_) (by decide)⟩
  subst hX
  rcases inv_look_many ss with h | h
  · obtain ⟨a_many, rfl⟩ := h
    exact ⟨_, jk_if (jt_not (jt_val (je_call (ok_is_whole T) (C.hr.mono (by decide)) C.tk rfl (ja_dat (je_var (i := 0) rfl) (ja_dat (je_int) (ja_dat (je_globE T.c_LONGEST) (ja_nil)))))))
 (jk_raise T.x_NoNumber C.tk C.calm)
 (jk_nil (jk_end (x := ()) (show Less ([.un] : Rho) ([.dat a_many] : Rho) from less_un (less_nil)))), by kernel_rfl⟩
  · exact ⟨R.stuck, jk_stuck, h⟩
theorem sc_place_of : FnScope N_place_of ["term", "row"] (defScope s_place_of) := ⟨rfl, rfl, rfl, by decide +kernel, rfl, by decide +kernel, by decide +kernel⟩
theorem inv_place_of (k : Nat) (ss : List Slot) : (∃ a_term a_row, ss = [.dat a_term, .bor (.lst a_row)]) ∨ F_place_of k ss = R.stuck := by
  unfold F_place_of
  split
  · exact .inl ⟨_, _, rfl⟩
  · exact .inr rfl
theorem sc_number_of : FnScope N_number_of ["term", "row"] (defScope s_number_of) := ⟨rfl, rfl, rfl, by decide +kernel, rfl, by decide +kernel, by decide +kernel⟩
theorem inv_number_of (k : Nat) (ss : List Slot) : (∃ a_term a_row, ss = [.dat a_term, .bor (.lst a_row)]) ∨ F_number_of k ss = R.stuck := by
  unfold F_number_of
  split
  · exact .inl ⟨_, _, rfl⟩
  · exact .inr rfl
theorem step_place_of (T : Top K mg CA base Tt) (k : Nat) (ih_place_of : FnD Tt P w K mg base CA (k + 0) "place_of" ["term", "row"] (F_place_of k)) (ih_number_of : FnD Tt P w K mg base CA (k + 0) "number_of" ["term", "row"] (F_number_of k)) : FnD Tt P w K mg base CA (k + 1 + 0) "place_of" ["term", "row"] (F_place_of (k + 1)) := by
  obtain ⟨f, fd, hm, Fn, hb⟩ := T.d_place_of
  refine ⟨f, fd, hm, Fn.kp, hb, fnOk (N := N_place_of) (k := k + 0) Fn sc_place_of (fun cdv hcv A outer s H Q E ss hl X hX C => ?_) (by decide)⟩
  subst hX
  rcases inv_place_of (k + 1) ss with h | h
  · obtain ⟨a_term, a_row, rfl⟩ := h
    exact ⟨_, jk_set (i := 2) (je_add (je_cb call_len ok_len (by decide +kernel) T.b_len (jl_cons (lh (lb_bor (i := 1) rfl)) (jl_nil))) (je_int)) (fun v6 =>
 jk_if (jt_c (c_eq C.hr) (JE.h (je_ix (je_var (i := 0) rfl) (je_int))) (JE.h (je_str)))
 (jk_ret (je_sub (je_var (i := 2) rfl) (je_ix (je_var (i := 0) rfl) (je_int))))
 (jk_nil (jk_set (i := 3) (je_call (ih_number_of) (C.hr.mono (Nat.le_refl _)) C.tk rfl (ja_dat (je_ix (je_var (i := 0) rfl) (je_neg (je_int))) (ja_borL (lb_bor (i := 1) rfl) (ja_nil)))) (fun v23 =>
 jk_if (jt_c (c_is) (JE.h (je_var (i := 3) rfl)) (JE.h (je_non)))
 (jk_ret (je_non))
 (jk_nil (jk_ret (je_if (jt_c (c_eq C.hr) (JE.h (je_ix (je_var (i := 0) rfl) (je_int))) (JE.h (je_str))) (je_var (i := 3) rfl) (je_sub (je_sub (je_var (i := 2) rfl) (je_ix (je_var (i := 0) rfl) (je_int))) (je_var (i := 3) rfl)))))) sc_place_of.nd))) sc_place_of.nd, by kernel_rfl⟩
  · exact ⟨R.stuck, jk_stuck, h⟩
theorem step_number_of (T : Top K mg CA base Tt) (k : Nat) (ih_place_of : FnD Tt P w K mg base CA (k + 0) "place_of" ["term", "row"] (F_place_of k)) (ih_number_of : FnD Tt P w K mg base CA (k + 0) "number_of" ["term", "row"] (F_number_of k)) : FnD Tt P w K mg base CA (k + 1 + 0) "number_of" ["term", "row"] (F_number_of (k + 1)) := by
  obtain ⟨f, fd, hm, Fn, hb⟩ := T.d_number_of
  refine ⟨f, fd, hm, Fn.kp, hb, fnOk (N := N_number_of) (k := k + 0) Fn sc_number_of (fun cdv hcv A outer s H Q E ss hl X hX C => ?_) (by decide)⟩
  subst hX
  rcases inv_number_of (k + 1) ss with h | h
  · obtain ⟨a_term, a_row, rfl⟩ := h
    exact ⟨_, jk_set (i := 2) (je_call (ih_place_of) (C.hr.mono (Nat.le_refl _)) C.tk rfl (ja_dat (je_var (i := 0) rfl) (ja_borL (lb_bor (i := 1) rfl) (ja_nil)))) (fun v5 =>
 jk_if (jt_w (jw_or (jt_c (c_is) (JE.h (je_var (i := 2) rfl)) (JE.h (je_non))) (jw_or1 (jt_c (c_eq C.hr) (JE.h (je_ix (je_var (i := 0) rfl) (je_int))) (JE.h (je_str))))))
 (jk_ret (je_var (i := 2) rfl))
 (jk_nil (jk_ret (je_if (jt_cc (c_le) (c_le) (JE.h (je_int)) (JE.h (je_var (i := 2) rfl)) (JE.h (je_cb call_len ok_len (by decide +kernel) T.b_len (jl_cons (lh (lb_bor (i := 1) rfl)) (jl_nil))))) (je_ixL (lb_bor (i := 1) rfl) (je_sub (je_var (i := 2) rfl) (je_int))) (je_non))))) sc_number_of.nd, by kernel_rfl⟩
  · exact ⟨R.stuck, jk_stuck, h⟩
theorem zero_place_of (ss : List Slot) : F_place_of 0 ss = R.stuck := by
  rcases inv_place_of 0 ss with h | h
  · obtain ⟨_, _, rfl⟩ := h
    rfl
  · exact h
theorem zero_number_of (ss : List Slot) : F_number_of 0 ss = R.stuck := by
  rcases inv_number_of 0 ss with h | h
  · obtain ⟨_, _, rfl⟩ := h
    rfl
  · exact h
theorem both_place_of (T : Top K mg CA base Tt) : ∀ k : Nat, FnD Tt P w K mg base CA (k + 0) "place_of" ["term", "row"] (F_place_of k) ∧ FnD Tt P w K mg base CA (k + 0) "number_of" ["term", "row"] (F_number_of k)
  | 0 => ⟨(let ⟨_, _, hm, Fn, hb⟩ := T.d_place_of; FnD.zero zero_place_of hm Fn.kp hb), (let ⟨_, _, hm, Fn, hb⟩ := T.d_number_of; FnD.zero zero_number_of hm Fn.kp hb)⟩
  | k + 1 => by
    have ih := both_place_of T k
    exact ⟨step_place_of T k ih.1 ih.2, step_number_of T k ih.1 ih.2⟩
theorem ok_place_of (T : Top K mg CA base Tt) (k : Nat) : FnD Tt P w K mg base CA (k + 0) "place_of" ["term", "row"] (F_place_of k) := (both_place_of T k).1
theorem ok_number_of (T : Top K mg CA base Tt) (k : Nat) : FnD Tt P w K mg base CA (k + 0) "number_of" ["term", "row"] (F_number_of k) := (both_place_of T k).2
theorem sc_next_number : FnScope N_next_number ["rule", "row"] (defScope s_next_number) := ⟨rfl, rfl, rfl, by decide +kernel, rfl, by decide +kernel, by decide +kernel⟩
theorem inv_next_number (ss : List Slot) : (∃ a_rule a_row, ss = [.dat a_rule, .bor (.lst a_row)]) ∨ F_next_number ss = R.stuck := by
  unfold F_next_number
  split
  · exact .inl ⟨_, _, rfl⟩
  · exact .inr rfl
theorem ok_next_number (T : Top K mg CA base Tt) : FnD Tt P w K mg base CA 15 "next_number" ["rule", "row"] F_next_number := by
  obtain ⟨f, fd, hm, Fn, hb⟩ := T.d_next_number
  refine ⟨f, fd, hm, Fn.kp, hb, fnOk (N := N_next_number) (k := 14) Fn sc_next_number (fun cdv hcv A outer s H Q E ss hl X hX C => ?_) (by decide)⟩
  subst hX
  rcases inv_next_number ss with h | h
  · obtain ⟨a_rule, a_row, rfl⟩ := h
    exact ⟨_, jk_datLc (i := 3) (j := 2) (ji_seq (je_ix (je_var (i := 0) rfl) (je_int))) (fun d3 s1 H1 Ca1 cl1 fp1 => have C4 := C.blk s1 H1 _ Ca1 cl1 fp1; je_call ((ok_number_of T 14)) (C4.hr.mono (by decide)) C4.tk rfl (ja_dat (je_var (i := 3) rfl) (ja_borL (lb_bor (i := 1) rfl) (ja_nil)))) (fun v9 =>
 jk_if (jt_c (c_in (C.hr.mono (Nat.le_refl _))) (JE.h (je_non)) (JE.h (je_var (i := 2) rfl)))
 (jk_ret (je_non))
 (jk_nil (jk_ret (je_add (je_ix (je_var (i := 0) rfl) (je_int)) (je_cb (cr_sumD C.calm) ok_sumD (by decide +kernel) T.b_sum (jl_cons (JE.h (je_var (i := 2) rfl)) (jl_nil))))))) C.calm sc_next_number.nd (blkOk_by (own := [((PySem.Str.ofString "term"), 3)]) (N := N_next_number) (sc := defScope s_next_number) (by decide +kernel)) (sw_true rfl rfl rfl (by decide +kernel)), by kernel_rfl⟩
  · exact ⟨R.stuck, jk_stuck, h⟩
theorem sc_row_of : FnScope N_row_of ["rule", "many"] (defScope s_row_of) := ⟨rfl, rfl, rfl, by decide +kernel, rfl, by decide +kernel, by decide +kernel⟩
theorem inv_row_of (ss : List Slot) : (∃ a_rule a_many, ss = [.dat a_rule, .dat a_many]) ∨ F_row_of ss = R.stuck := by
  unfold F_row_of
  split
  · exact .inl ⟨_, _, rfl⟩
  · exact .inr rfl
theorem ok_row_of (T : Top K mg CA base Tt) : FnD Tt P w K mg base CA 16 "row_of" ["rule", "many"] F_row_of := by
  obtain ⟨f, fd, hm, Fn, hb⟩ := T.d_row_of
  refine ⟨f, fd, hm, Fn.kp, hb, fnOk (N := N_row_of) (k := 15) Fn sc_row_of (fun cdv hcv A outer s H Q E ss hl X hX C => ?_) (by decide)⟩
  subst hX
  rcases inv_row_of ss with h | h
  · obtain ⟨a_rule, a_many, rfl⟩ := h
    exact ⟨_, jk_setL (i := 2) (ln_list T.b_list (je_sl (je_ix (je_var (i := 0) rfl) (je_int)) (jo_none) (jo_some (je_var (i := 1) rfl)))) (fun l6 =>
 jk_while (γ := List D) (fuel := 3000) (fl := (fun (z7 : List D) => ([.dat a_rule, .dat a_many, .own (.lst z7), .un] : Rho))) (a0 := l6) (show Less ([.dat a_rule, .dat a_many, .own (.lst l6), .un] : Rho) ([.dat a_rule, .dat a_many, .own (.lst l6), .un] : Rho) from less_cons (less_cons (less_cons (less_un (less_nil))))) (fun z8 => jt_c (c_lt) (JE.h (je_cb call_len ok_len (by decide +kernel) T.b_len (jl_cons (lh (lb_own (i := 2) rfl)) (jl_nil)))) (JE.h (je_var (i := 1) rfl)))
 (fun z9 =>
 jk_set (i := 3) (je_call (ok_next_number T) (C.hr.mono (by decide)) C.tk rfl (ja_dat (je_var (i := 0) rfl) (ja_borL (lb_own (i := 2) rfl) (ja_nil)))) (fun v20 =>
 jk_if (jt_c (c_is) (JE.h (je_var (i := 3) rfl)) (JE.h (je_non)))
 (jk_retOwn (i := 2) rfl)
 (jk_nil (jk_append (i := 2) rfl (je_var (i := 3) rfl) (fun l24 =>
 jk_end (x := l24) (show Less ([.dat a_rule, .dat a_many, .own (.lst l24), .un] : Rho) ([.dat a_rule, .dat a_many, .own (.lst l24), .dat v20] : Rho) from less_cons (less_cons (less_cons (less_un (less_nil))))))))) sc_row_of.nd)
 (fun z26 =>
 jk_retOwn (i := 2) rfl) C.pass) sc_row_of.nd, by kernel_rfl⟩
  · exact ⟨R.stuck, jk_stuck, h⟩
theorem sc_numbers : FnScope N_numbers ["rule", "many"] (defScope s_numbers) := ⟨rfl, rfl, rfl, by decide +kernel, rfl, by decide +kernel, by decide +kernel⟩
theorem inv_numbers (ss : List Slot) : (∃ a_rule a_many, ss = [.dat a_rule, .dat a_many]) ∨ F_numbers ss = R.stuck := by
  unfold F_numbers
  split
  · exact .inl ⟨_, _, rfl⟩
  · exact .inr rfl
theorem ok_numbers (T : Top K mg CA base Tt) : FnD Tt P w K mg base CA 19 "numbers" ["rule", "many"] F_numbers := by
  obtain ⟨f, fd, hm, Fn, hb⟩ := T.d_numbers
  refine ⟨f, fd, hm, Fn.kp, hb, fnOk (N := N_numbers) (k := 18) Fn sc_numbers (fun cdv hcv A outer s H Q E ss hl X hX C => ?_) (by decide)⟩
  subst hX
  rcases inv_numbers ss with h | h
  · obtain ⟨a_rule, a_many, rfl⟩ := h
    exact ⟨_, jk_expr (je_call (ok_look_rule T) (C.hr.mono (by decide)) C.tk rfl (ja_dat (je_var (i := 0) rfl) (ja_nil)))
 (jk_expr (je_call (ok_look_many T) (C.hr.mono (by decide)) C.tk rfl (ja_dat (je_var (i := 1) rfl) (ja_nil)))
 (jk_ret (je_call (ok_row_of T) (C.hr.mono (by decide)) C.tk rfl (ja_dat (je_var (i := 0) rfl) (ja_dat (je_var (i := 1) rfl) (ja_nil)))))), by kernel_rfl⟩
  · exact ⟨R.stuck, jk_stuck, h⟩
theorem sc_is_row : FnScope N_is_row ["rule", "thing"] (defScope s_is_row) := ⟨rfl, rfl, rfl, by decide +kernel, rfl, by decide +kernel, by decide +kernel⟩
theorem inv_is_row (ss : List Slot) : (∃ a_rule a_thing, ss = [.dat a_rule, .dat a_thing]) ∨ F_is_row ss = R.stuck := by
  unfold F_is_row
  split
  · exact .inl ⟨_, _, rfl⟩
  · exact .inr rfl
theorem ok_is_row (T : Top K mg CA base Tt) : FnD Tt P w K mg base CA 19 "is_row" ["rule", "thing"] F_is_row := by
  obtain ⟨f, fd, hm, Fn, hb⟩ := T.d_is_row
  refine ⟨f, fd, hm, Fn.kp, hb, fnOk (N := N_is_row) (k := 18) Fn sc_is_row (fun cdv hcv A outer s H Q E ss hl X hX C => ?_) (by decide)⟩
  subst hX
  rcases inv_is_row ss with h | h
  · obtain ⟨a_rule, a_thing, rfl⟩ := h
    exact ⟨_, jk_expr (je_call (ok_look_rule T) (C.hr.mono (by decide)) C.tk rfl (ja_dat (je_var (i := 0) rfl) (ja_nil)))
 (jk_if (jt_w (jw_or (jt_not (jt_val (je_isi .list (by decide +kernel) T.b_list T.b_isinstance (JE.h (je_var (i := 1) rfl))))) (jw_or1 (jt_not (jt_cc (c_le) (c_le) (JE.h (je_int)) (JE.h (je_cb call_len ok_len (by decide +kernel) T.b_len (jl_cons (JE.h (je_var (i := 1) rfl)) (jl_nil)))) (JE.h (je_globE T.c_LONGEST)))))))
 (jk_ret (je_bl))
 (jk_nil (jk_if (jt_not (jt_val (je_cb (cr_all C.calm) ok_all (by decide +kernel) T.b_all (jl_cons (JE.h (ln_data (ln_lc (i := 2) (ji_seq (je_var (i := 1) rfl)) (fun d16 s1 H1 Ca1 cl1 fp1 => je_and (je_isi .int (by decide +kernel) T.b_int T.b_isinstance (JE.h (je_var (i := 2) rfl))) (je_one (je_not (je_isi .bool (by decide +kernel) T.b_bool T.b_isinstance (JE.h (je_var (i := 2) rfl)))))) C.calm sc_is_row.nd (blkOk_by (own := [((PySem.Str.ofString "one"), 2)]) (N := N_is_row) (sc := defScope s_is_row) (by decide +kernel))))) (jl_nil)))))
 (jk_ret (je_bl))
 (jk_nil (jk_ret (je_c (c_eq C.hr) (JE.h (je_call (ok_row_of T) (C.hr.mono (by decide)) C.tk rfl (ja_dat (je_var (i := 0) rfl) (ja_dat (je_cb call_len ok_len (by decide +kernel) T.b_len (jl_cons (JE.h (je_var (i := 1) rfl)) (jl_nil))) (ja_nil))))) (JE.h (je_var (i := 1) rfl)))))))), by kernel_rfl⟩
  · exact ⟨R.stuck, jk_stuck, h⟩
theorem sc_goes_on : FnScope N_goes_on ["rule", "row"] (defScope s_goes_on) := ⟨rfl, rfl, rfl, by decide +kernel, rfl, by decide +kernel, by decide +kernel⟩
theorem inv_goes_on (ss : List Slot) : (∃ a_rule a_row, ss = [.dat a_rule, .dat a_row]) ∨ F_goes_on ss = R.stuck := by
  unfold F_goes_on
  split
  · exact .inl ⟨_, _, rfl⟩
  · exact .inr rfl
theorem ok_goes_on (T : Top K mg CA base Tt) : FnD Tt P w K mg base CA 20 "goes_on" ["rule", "row"] F_goes_on := by
  obtain ⟨f, fd, hm, Fn, hb⟩ := T.d_goes_on
  refine ⟨f, fd, hm, Fn.kp, hb, fnOk (N := N_goes_on) (k := 19) Fn sc_goes_on (fun cdv hcv A outer s H Q E ss hl X hX C => ?_) (by decide)⟩
  subst hX
  rcases inv_goes_on ss with h | h
  · obtain ⟨a_rule, a_row, rfl⟩ := h
    exact ⟨_, jk_if (jt_not (jt_val (je_call (ok_is_row T) (C.hr.mono (by decide)) C.tk rfl (ja_dat (je_var (i := 0) rfl) (ja_dat (je_var (i := 1) rfl) (ja_nil))))))
 (jk_raise T.x_Ended C.tk C.calm)
 (jk_nil (jk_ret (je_or (je_c (c_lt) (JE.h (je_cb call_len ok_len (by decide +kernel) T.b_len (jl_cons (JE.h (je_var (i := 1) rfl)) (jl_nil)))) (JE.h (je_cb call_len ok_len (by decide +kernel) T.b_len (jl_cons (JE.h (je_ix (je_var (i := 0) rfl) (je_int))) (jl_nil))))) (je_one (je_c (c_isnot) (JE.h (je_call (ok_next_number T) (C.hr.mono (by decide)) C.tk rfl (ja_dat (je_var (i := 0) rfl) (ja_borL (lb_dat (je_var (i := 1) rfl)) (ja_nil))))) (JE.h (je_non))))))), by kernel_rfl⟩
  · exact ⟨R.stuck, jk_stuck, h⟩
theorem sc_Walk___init__ : FnScope N_Walk___init__ ["self", "rule"] (defScope s_Walk___init__) := ⟨rfl, rfl, rfl, by decide +kernel, rfl, by decide +kernel, by decide +kernel⟩
theorem ok_Walk___init__ (T : Top K mg CA base Tt) : FnI Tt P w K mg base CA 19 ["self", "rule"] m_Walk___init__ := by
  obtain ⟨f, fd, hm, hg, Fn, hb⟩ := T.d_Walk___init__
  refine ⟨f, fd, hg, hm, hb, rfl, fnInit (k := 18) (m1 := fun a_rule => R.bind (R.bind (R.bind (R.ok a_rule) fun x1 => R.bind (R.ok []) fun x2 => R.ok (Slot.dat x1 :: x2)) F_look_rule) fun _ =>
 R.ok (Out.nx ())) Fn sc_Walk___init__ T.wc rfl (.inl rfl) (.inl rfl) (by decide) (by decide) (by decide) (by decide) (fun cdv hcv A outer s H E p1 a_rule X hX C => ?_) (fun d => by kernel_rfl)⟩
  subst hX
  exact (jk_expr (je_call (ok_look_rule T) (C.hr.mono (by decide)) C.tk rfl (ja_dat (je_var (i := 1) rfl) (ja_nil)))
 (jk_end (x := ()) (show Less ([.ptr p1, .dat a_rule] : Rho) ([.ptr p1, .dat a_rule] : Rho) from less_cons (less_cons (less_nil)))))
theorem sc_Walk_do : FnScope N_Walk_do ["self", "word", "row"] (defScope s_Walk_do) := ⟨rfl, rfl, rfl, by decide +kernel, rfl, by decide +kernel, by decide +kernel⟩
theorem ok_Walk_do (T : Top K mg CA base Tt) : FnWM Tt P w K mg base CA 1 "do" ["self", "word", "row"] F_Walk_do := by
  obtain ⟨f, fd, hm, Fn, hb⟩ := T.d_Walk_do
  refine ⟨⟨f, fd, hm, hb, ?_⟩, by intro _ _ _ _; kernel_rfl⟩
  refine fnW (N := N_Walk_do) (k := 0) Fn sc_Walk_do (fun cdv hcv A outer s H Q E p1 a_self ds hl X hX C => ?_) (by decide)
  subst hX
  match ds, hl with
  | [a_word, a_row], _ =>
    exact ⟨Unit, (defBody s_Walk_do).take 0, (defBody s_Walk_do).drop 0, (fun (z1 : Unit) => ([.bwk p1 a_self, .dat a_word, .dat a_row] : Rho)), _, _, (List.take_append_drop 0 _).symm,
      jk_end (x := ()) (show Less ([.bwk p1 a_self, .dat a_word, .dat a_row] : Rho) ([.bwk p1 a_self, .dat a_word, .dat a_row] : Rho) from less_cons (less_cons (less_cons (less_nil)))),
      fun z2 => ⟨_, rfl, rfl, jr_split 3 (jr_pre (fin := (fun (z12 : Wk × D) => ([.wlk p1 z12.1, .dat a_word, .dat z12.2] : Rho))) (jk_wappP (i := 0) T.wc rfl (je_tup (jd_cons (je_var (i := 1) rfl) (jd_cons (je_wnow (i := 0) T.wc (.inl rfl)) (jd_nil)))) (fun l9 =>
 jk_wlater (i := 0) T.wc rfl (ln_lst (jd_nil)) (fun l10 =>
 jk_wnow (i := 0) T.wc rfl (je_var (i := 2) rfl) (fun v11 =>
 jk_end (x := ((Wk.mk a_self.own v11 l9 l10), a_row)) (show Less ([.wlk p1 (Wk.mk a_self.own v11 l9 l10), .dat a_word, .dat a_row] : Rho) ([.wlk p1 (Wk.mk a_self.own v11 l9 l10), .dat a_word, .dat a_row] : Rho) from less_cons (less_cons (less_cons (less_nil)))))))) (fun z12 => jr_end (i := 0) rfl))⟩, by kernel_rfl⟩
theorem sc_Walk_go : FnScope N_Walk_go ["self"] (defScope s_Walk_go) := ⟨rfl, rfl, rfl, by decide +kernel, rfl, by decide +kernel, by decide +kernel⟩
theorem ok_Walk_go (T : Top K mg CA base Tt) : FnWM Tt P w K mg base CA 16 "go" ["self"] F_Walk_go := by
  obtain ⟨f, fd, hm, Fn, hb⟩ := T.d_Walk_go
  refine ⟨⟨f, fd, hm, hb, ?_⟩, by intro _ _ _ _; kernel_rfl⟩
  refine fnW (N := N_Walk_go) (k := 15) Fn sc_Walk_go (fun cdv hcv A outer s H Q E p1 a_self ds hl X hX C => ?_) (by decide)
  subst hX
  match ds, hl with
  | [], _ =>
    exact ⟨D, (defBody s_Walk_go).take 3, (defBody s_Walk_go).drop 3, (fun (z15 : D) => ([.bwk p1 a_self, .dat z15] : Rho)), _, _, (List.take_append_drop 3 _).symm,
      jk_if (jt_c (c_eq C.hr) (JE.h (je_cb call_len ok_len (by decide +kernel) T.b_len (jl_cons (JE.h (je_wnow (i := 0) T.wc (.inr rfl))) (jl_nil)))) (JE.h (je_globE T.c_LONGEST)))
 (jk_raise T.x_NoNumber C.tk C.calm)
 (jk_nil (jk_set (i := 1) (je_call (ok_next_number T) (C.hr.mono (by decide)) C.tk rfl (ja_dat (je_wown (i := 0) T.wc (.inr rfl)) (ja_borL (lb_dat (ln_data (ln_list T.b_list (je_wnow (i := 0) T.wc (.inr rfl))))) (ja_nil)))) (fun v10 =>
 jk_if (jt_c (c_is) (JE.h (je_var (i := 1) rfl)) (JE.h (je_non)))
 (jk_raise T.x_Ended C.tk C.calm)
 (jk_nil (jk_end (x := v10) (show Less ([.bwk p1 a_self, .dat v10] : Rho) ([.bwk p1 a_self, .dat v10] : Rho) from less_cons (less_cons (less_nil)))))) sc_Walk_go.nd)),
      fun z16 => ⟨_, rfl, rfl, jr_split 1 (jr_pre (fin := (fun (z33 : Wk × D) => ([.wlk p1 z33.1, .dat z33.2] : Rho))) (jk_exprM (fl := (fun (s30 : Wk) => ([.wlk p1 s30, .dat z16] : Rho))) (jm_meth (fl := (fun (s29 : Wk) => ([.wlk p1 s29, .dat z16] : Rho))) (i := 0) (u := (fun w17 => w17)) (ok_Walk_do T) (C.hr.mono (by decide)) C.tk T.wc rfl (fun _ => rfl) (jd_cons (je_str) (jd_cons (je_add (je_wnow (i := 0) T.wc (.inl rfl)) (je_tup (jd_cons (je_var (i := 1) rfl) (jd_nil)))) (jd_nil))) rfl)
 (fun s31 => jk_end (x := (s31, z16)) (show Less ([.wlk p1 s31, .dat z16] : Rho) ([.wlk p1 s31, .dat z16] : Rho) from less_cons (less_cons (less_nil))))) (fun z33 => jr_retE (i := 0) (je_var (i := 1) rfl) rfl))⟩, by kernel_rfl⟩
theorem sc_Walk_poke : FnScope N_Walk_poke ["self", "number"] (defScope s_Walk_poke) := ⟨rfl, rfl, rfl, by decide +kernel, rfl, by decide +kernel, by decide +kernel⟩
theorem ok_Walk_poke (T : Top K mg CA base Tt) : FnWM Tt P w K mg base CA 2 "poke" ["self", "number"] F_Walk_poke := by
  obtain ⟨f, fd, hm, Fn, hb⟩ := T.d_Walk_poke
  refine ⟨⟨f, fd, hm, hb, ?_⟩, by intro _ _ _ _; kernel_rfl⟩
  refine fnW (N := N_Walk_poke) (k := 1) Fn sc_Walk_poke (fun cdv hcv A outer s H Q E p1 a_self ds hl X hX C => ?_) (by decide)
  subst hX
  match ds, hl with
  | [a_number], _ =>
    exact ⟨D, (defBody s_Walk_poke).take 2, (defBody s_Walk_poke).drop 2, (fun (z16 : D) => ([.bwk p1 a_self, .dat a_number, .dat z16] : Rho)), _, _, (List.take_append_drop 2 _).symm,
      jk_if (jt_w (jw_or (jt_not (jt_val (je_isi .int (by decide +kernel) T.b_int T.b_isinstance (JE.h (je_var (i := 1) rfl))))) (jw_or (jt_val (je_isi .bool (by decide +kernel) T.b_bool T.b_isinstance (JE.h (je_var (i := 1) rfl)))) (jw_or1 (jt_c (c_gt) (JE.h (je_cb call_abs ok_abs (by decide +kernel) T.b_abs (jl_cons (JE.h (je_var (i := 1) rfl)) (jl_nil)))) (JE.h (je_globE T.c_FARTHEST_POKE)))))))
 (jk_raise T.x_NoNumber C.tk C.calm)
 (jk_nil (jk_set (i := 2) (je_ix (je_wnow (i := 0) T.wc (.inr rfl)) (je_neg (je_int))) (fun v14 =>
 jk_end (x := v14) (show Less ([.bwk p1 a_self, .dat a_number, .dat v14] : Rho) ([.bwk p1 a_self, .dat a_number, .dat v14] : Rho) from less_cons (less_cons (less_cons (less_nil))))) sc_Walk_poke.nd)),
      fun z17 => ⟨_, rfl, rfl, jr_split 1 (jr_pre (fin := (fun (z38 : Wk × D) => ([.wlk p1 z38.1, .dat a_number, .dat z38.2] : Rho))) (jk_exprM (fl := (fun (s35 : Wk) => ([.wlk p1 s35, .dat a_number, .dat z17] : Rho))) (jm_meth (fl := (fun (s34 : Wk) => ([.wlk p1 s34, .dat a_number, .dat z17] : Rho))) (i := 0) (u := (fun w18 => w18)) (ok_Walk_do T) (C.hr.mono (by decide)) C.tk T.wc rfl (fun _ => rfl) (jd_cons (je_str) (jd_cons (je_add (je_sl (je_wnow (i := 0) T.wc (.inl rfl)) (jo_none) (jo_some (je_neg (je_int)))) (je_tup (jd_cons (je_var (i := 1) rfl) (jd_nil)))) (jd_nil))) rfl)
 (fun s36 => jk_end (x := (s36, z17)) (show Less ([.wlk p1 s36, .dat a_number, .dat z17] : Rho) ([.wlk p1 s36, .dat a_number, .dat z17] : Rho) from less_cons (less_cons (less_cons (less_nil)))))) (fun z38 => jr_retE (i := 0) (je_var (i := 2) rfl) rfl))⟩, by kernel_rfl⟩
theorem sc_Walk_row : FnScope N_Walk_row ["self"] (defScope s_Walk_row) := ⟨rfl, rfl, rfl, by decide +kernel, rfl, by decide +kernel, by decide +kernel⟩
theorem inv_Walk_row (ss : List Slot) : (∃ p_self a_self, ss = [.bwk p_self a_self]) ∨ F_Walk_row ss = R.stuck := by
  unfold F_Walk_row
  split
  · exact .inl ⟨_, _, rfl⟩
  · exact .inr rfl
theorem ok_Walk_row (T : Top K mg CA base Tt) : FnM Tt P w K mg base CA 1 "row" ["self"] F_Walk_row := by
  obtain ⟨f, fd, hm, Fn, hb⟩ := T.d_Walk_row
  refine ⟨⟨f, fd, hm, hb, fnOk (N := N_Walk_row) (k := 0) Fn sc_Walk_row (fun cdv hcv A outer s H Q E ss hl X hX C => ?_) (by decide)⟩, by intro _ _ _ _; kernel_rfl⟩
  subst hX
  rcases inv_Walk_row ss with h | h
  · obtain ⟨p_self, a_self, rfl⟩ := h
    exact ⟨_, jk_ret (ln_data (ln_list T.b_list (je_wnow (i := 0) T.wc (.inr rfl)))), by kernel_rfl⟩
  · exact ⟨R.stuck, jk_stuck, h⟩
theorem sc_Walk_is_true : FnScope N_Walk_is_true ["self"] (defScope s_Walk_is_true) := ⟨rfl, rfl, rfl, by decide +kernel, rfl, by decide +kernel, by decide +kernel⟩
theorem inv_Walk_is_true (ss : List Slot) : (∃ p_self a_self, ss = [.bwk p_self a_self]) ∨ F_Walk_is_true ss = R.stuck := by
  unfold F_Walk_is_true
  split
  · exact .inl ⟨_, _, rfl⟩
  · exact .inr rfl
theorem ok_Walk_is_true (T : Top K mg CA base Tt) : FnM Tt P w K mg base CA 17 "is_true" ["self"] F_Walk_is_true := by
  obtain ⟨f, fd, hm, Fn, hb⟩ := T.d_Walk_is_true
  refine ⟨⟨f, fd, hm, hb, fnOk (N := N_Walk_is_true) (k := 16) Fn sc_Walk_is_true (fun cdv hcv A outer s H Q E ss hl X hX C => ?_) (by decide)⟩, by intro _ _ _ _; kernel_rfl⟩
  subst hX
  rcases inv_Walk_is_true ss with h | h
  · obtain ⟨p_self, a_self, rfl⟩ := h
    exact ⟨_, jk_ret (je_c (c_eq C.hr) (JE.h (je_call (ok_row_of T) (C.hr.mono (by decide)) C.tk rfl (ja_dat (je_wown (i := 0) T.wc (.inr rfl)) (ja_dat (je_cb call_len ok_len (by decide +kernel) T.b_len (jl_cons (JE.h (je_wnow (i := 0) T.wc (.inr rfl))) (jl_nil))) (ja_nil))))) (JE.h (ln_data (ln_list T.b_list (je_wnow (i := 0) T.wc (.inr rfl)))))), by kernel_rfl⟩
  · exact ⟨R.stuck, jk_stuck, h⟩
theorem sc_Walk_back : FnScope N_Walk_back ["self"] (defScope s_Walk_back) := ⟨rfl, rfl, rfl, by decide +kernel, rfl, by decide +kernel, by decide +kernel⟩
theorem ok_Walk_back (T : Top K mg CA base Tt) : FnWM Tt P w K mg base CA 1 "back" ["self"] F_Walk_back := by
  obtain ⟨f, fd, hm, Fn, hb⟩ := T.d_Walk_back
  refine ⟨⟨f, fd, hm, hb, ?_⟩, by intro _ _ _ _; kernel_rfl⟩
  refine fnW (N := N_Walk_back) (k := 0) Fn sc_Walk_back (fun cdv hcv A outer s H Q E p1 a_self ds hl X hX C => ?_) (by decide)
  subst hX
  match ds, hl with
  | [], _ =>
    exact ⟨Unit, (defBody s_Walk_back).take 1, (defBody s_Walk_back).drop 1, (fun (z4 : Unit) => ([.bwk p1 a_self, .un, .un] : Rho)), _, _, (List.take_append_drop 1 _).symm,
      jk_if (jt_c (c_eq C.hr) (lh (lb_wpast (i := 0) T.wc (.inr rfl))) (JE.h (ln_data (ln_lst (jd_nil)))))
 (jk_raise T.x_NoBack C.tk C.calm)
 (jk_nil (jk_end (x := ()) (show Less ([.bwk p1 a_self, .un, .un] : Rho) ([.bwk p1 a_self, .un, .un] : Rho) from less_cons (less_un (less_un (less_nil)))))),
      fun z5 => ⟨_, rfl, rfl, jr_split 3 (jr_pre (fin := (fun (z15 : Wk × D) => ([.wlk p1 z15.1, .dat z15.2, .un] : Rho))) (jk_wpopP (i := 0) (i1 := 1) (i2 := 2) T.wc rfl (fun z6 =>
 jk_wappL (i := 0) T.wc rfl (je_tup (jd_cons (je_var (i := 1) rfl) (jd_cons (je_wnow (i := 0) T.wc (.inl rfl)) (jd_nil)))) (fun l13 =>
 jk_wnow (i := 0) T.wc rfl (je_var (i := 2) rfl) (fun v14 =>
 jk_end (x := ((Wk.mk a_self.own v14 z6.2.2 l13), z6.1)) (show Less ([.wlk p1 (Wk.mk a_self.own v14 z6.2.2 l13), .dat z6.1, .un] : Rho) ([.wlk p1 (Wk.mk a_self.own v14 z6.2.2 l13), .dat z6.1, .dat z6.2.1] : Rho) from less_cons (less_cons (less_un (less_nil))))))) sc_Walk_back.nd C.calm) (fun z15 => jr_retE (i := 0) (je_var (i := 1) rfl) rfl))⟩, by kernel_rfl⟩
theorem sc_Walk_counts : FnScope N_Walk_counts ["self"] (defScope s_Walk_counts) := ⟨rfl, rfl, rfl, by decide +kernel, rfl, by decide +kernel, by decide +kernel⟩
theorem inv_Walk_counts (ss : List Slot) : (∃ p_self a_self, ss = [.bwk p_self a_self]) ∨ F_Walk_counts ss = R.stuck := by
  unfold F_Walk_counts
  split
  · exact .inl ⟨_, _, rfl⟩
  · exact .inr rfl
theorem ok_Walk_counts (T : Top K mg CA base Tt) : FnM Tt P w K mg base CA 1 "counts" ["self"] F_Walk_counts := by
  obtain ⟨f, fd, hm, Fn, hb⟩ := T.d_Walk_counts
  refine ⟨⟨f, fd, hm, hb, fnOk (N := N_Walk_counts) (k := 0) Fn sc_Walk_counts (fun cdv hcv A outer s H Q E ss hl X hX C => ?_) (by decide)⟩, by intro _ _ _ _; kernel_rfl⟩
  subst hX
  rcases inv_Walk_counts ss with h | h
  · obtain ⟨p_self, a_self, rfl⟩ := h
    exact ⟨_, jk_ret (je_tup (jd_cons (je_cb call_len ok_len (by decide +kernel) T.b_len (jl_cons (lh (lb_wpast (i := 0) T.wc (.inr rfl))) (jl_nil))) (jd_cons (je_cb call_len ok_len (by decide +kernel) T.b_len (jl_cons (lh (lb_wlater (i := 0) T.wc (.inr rfl))) (jl_nil))) (jd_nil)))), by kernel_rfl⟩
  · exact ⟨R.stuck, jk_stuck, h⟩
theorem sc_Walk_twin : FnScope N_Walk_twin ["self"] (defScope s_Walk_twin) := ⟨rfl, rfl, rfl, by decide +kernel, rfl, by decide +kernel, by decide +kernel⟩
theorem inv_Walk_twin (ss : List Slot) : (∃ p_self a_self, ss = [.bwk p_self a_self]) ∨ F_Walk_twin ss = R.stuck := by
  unfold F_Walk_twin
  split
  · exact .inl ⟨_, _, rfl⟩
  · exact .inr rfl
theorem ok_Walk_twin (T : Top K mg CA base Tt) : FnNM Tt P w K mg base CA 21 "twin" ["self"] F_Walk_twin := by
  obtain ⟨f, fd, hm, Fn, hb⟩ := T.d_Walk_twin
  refine ⟨⟨f, fd, hm, hb, ?_⟩, by intro _ _ _ _; kernel_rfl⟩
  refine fnN (N := N_Walk_twin) (k := 20) Fn sc_Walk_twin 1 "made" (fun cdv hcv A outer s H Q E ss hl X hX C => ?_) (by decide) rfl (.inl rfl) (by decide) (by decide)
  subst hX
  rcases inv_Walk_twin ss with h | h
  · obtain ⟨p_self, a_self, rfl⟩ := h
    exact ⟨(defBody s_Walk_twin).take 4, _, _, (fun z6 => ([.un, .wkx z6] : Rho)), _, rfl, jk_setW (i := 1) (jw_make (ok_Walk___init__ T) (C.hr.mono (by decide)) C.tk (je_wown (i := 0) T.wc (.inr rfl))) (fun p2 w1 =>
 jk_wnow (i := 1) T.wc rfl (je_wnow (i := 0) T.wc (.inr rfl)) (fun v3 =>
 jk_wpast (i := 1) T.wc rfl (ln_listB T.b_list (lb_wpast (i := 0) T.wc (.inr rfl))) (fun l4 =>
 jk_wlater (i := 1) T.wc rfl (ln_listB T.b_list (lb_wlater (i := 0) T.wc (.inr rfl))) (fun l5 =>
 jk_end (x := (Wk.mk w1.own v3 l4 l5)) (show Less ([.un, .wkx (Wk.mk w1.own v3 l4 l5)] : Rho) ([.bwk p_self a_self, .wlk p2 (Wk.mk w1.own v3 l4 l5)] : Rho) from less_un (less_wkx (less_nil))))))) sc_Walk_twin.nd, fun _ => rfl, by kernel_rfl⟩
  · exact ⟨(defBody s_Walk_twin).take 4, _, _, (fun z6 => ([.un, .wkx z6] : Rho)), R.stuck, rfl, jk_stuck, fun _ => rfl, h⟩
theorem sc__law_cell : FnScope N__law_cell ["script", "k"] (defScope s__law_cell) := ⟨rfl, rfl, rfl, by decide +kernel, rfl, by decide +kernel, by decide +kernel⟩
theorem inv__law_cell (ss : List Slot) : (∃ a_script a_k, ss = [.bor (.lst a_script), .dat a_k]) ∨ F__law_cell ss = R.stuck := by
  unfold F__law_cell
  split
  · exact .inl ⟨_, _, rfl⟩
  · exact .inr rfl
theorem ok__law_cell (T : Top K mg CA base Tt) : FnD Tt P w K mg base CA 1 "_law_cell" ["script", "k"] F__law_cell := by
  obtain ⟨f, fd, hm, Fn, hb⟩ := T.d__law_cell
  refine ⟨f, fd, hm, Fn.kp, hb, fnOk (N := N__law_cell) (k := 0) Fn sc__law_cell (fun cdv hcv A outer s H Q E ss hl X hX C => ?_) (by decide)⟩
  subst hX
  rcases inv__law_cell ss with h | h
  · obtain ⟨a_script, a_k, rfl⟩ := h
    exact ⟨_, jk_if (jt_c (c_lt) (JE.h (je_var (i := 1) rfl)) (JE.h (je_cb call_len ok_len (by decide +kernel) T.b_len (jl_cons (lh (lb_bor (i := 0) rfl)) (jl_nil)))))
 (jk_ret (je_ixL (lb_bor (i := 0) rfl) (je_var (i := 1) rfl)))
 (jk_nil (jk_if (jt_c (c_eq C.hr) (lh (lb_bor (i := 0) rfl)) (JE.h (ln_data (ln_lst (jd_nil)))))
 (jk_ret (je_int))
 (jk_nil (jk_ret (je_add (je_mul (je_ixL (lb_bor (i := 0) rfl) (je_mod (je_var (i := 1) rfl) (je_cb call_len ok_len (by decide +kernel) T.b_len (jl_cons (lh (lb_bor (i := 0) rfl)) (jl_nil))))) (je_int)) (je_var (i := 1) rfl)))))), by kernel_rfl⟩
  · exact ⟨R.stuck, jk_stuck, h⟩
theorem sc__law_pick : FnScope N__law_pick ["script", "k", "many"] (defScope s__law_pick) := ⟨rfl, rfl, rfl, by decide +kernel, rfl, by decide +kernel, by decide +kernel⟩
theorem inv__law_pick (ss : List Slot) : (∃ a_script a_k a_many, ss = [.bor (.lst a_script), .dat a_k, .dat a_many]) ∨ F__law_pick ss = R.stuck := by
  unfold F__law_pick
  split
  · exact .inl ⟨_, _, _, rfl⟩
  · exact .inr rfl
theorem ok__law_pick (T : Top K mg CA base Tt) : FnD Tt P w K mg base CA 2 "_law_pick" ["script", "k", "many"] F__law_pick := by
  obtain ⟨f, fd, hm, Fn, hb⟩ := T.d__law_pick
  refine ⟨f, fd, hm, Fn.kp, hb, fnOk (N := N__law_pick) (k := 1) Fn sc__law_pick (fun cdv hcv A outer s H Q E ss hl X hX C => ?_) (by decide)⟩
  subst hX
  rcases inv__law_pick ss with h | h
  · obtain ⟨a_script, a_k, a_many, rfl⟩ := h
    exact ⟨_, jk_set (i := 3) (je_mod (je_mul (je_add (je_call (ok__law_cell T) (C.hr.mono (by decide)) C.tk rfl (ja_borL (lb_bor (i := 0) rfl) (ja_dat (je_var (i := 1) rfl) (ja_nil)))) (je_mul (je_int) (je_add (je_var (i := 1) rfl) (je_int)))) (je_int)) (je_int)) (fun v15 =>
 jk_ret (je_mod (je_mod (je_add (je_mul (je_var (i := 3) rfl) (je_var (i := 3) rfl)) (je_div (je_var (i := 3) rfl) (je_int))) (je_int)) (je_var (i := 2) rfl))) sc__law_pick.nd, by kernel_rfl⟩
  · exact ⟨R.stuck, jk_stuck, h⟩
theorem sc__law_term : FnScope N__law_term ["script", "at", "deep"] (defScope s__law_term) := ⟨rfl, rfl, rfl, by decide +kernel, rfl, by decide +kernel, by decide +kernel⟩
theorem inv__law_term (k : Nat) (ss : List Slot) : (∃ a_script a_at a_deep, ss = [.bor (.lst a_script), .dat a_at, .dat a_deep]) ∨ F__law_term k ss = R.stuck := by
  unfold F__law_term
  split
  · exact .inl ⟨_, _, _, rfl⟩
  · exact .inr rfl
theorem step__law_term (T : Top K mg CA base Tt) (k : Nat) (ih__law_term : FnD Tt P w K mg base CA (k + 2) "_law_term" ["script", "at", "deep"] (F__law_term k)) : FnD Tt P w K mg base CA (k + 1 + 2) "_law_term" ["script", "at", "deep"] (F__law_term (k + 1)) := by
  obtain ⟨f, fd, hm, Fn, hb⟩ := T.d__law_term
  refine ⟨f, fd, hm, Fn.kp, hb, fnOk (N := N__law_term) (k := k + 2) Fn sc__law_term (fun cdv hcv A outer s H Q E ss hl X hX C => ?_) (by decide)⟩
  subst hX
  rcases inv__law_term (k + 1) ss with h | h
  · obtain ⟨a_script, a_at, a_deep, rfl⟩ := h
    exact ⟨_, jk_set (i := 3) (je_call (ok__law_pick T) (C.hr.mono (by omega)) C.tk rfl (ja_borL (lb_bor (i := 0) rfl) (ja_dat (je_var (i := 1) rfl) (ja_dat (je_int) (ja_nil))))) (fun v7 =>
 jk_if (jt_w (jw_or (jt_c (c_lt) (JE.h (je_var (i := 3) rfl)) (JE.h (je_int))) (jw_or1 (jt_c (c_eq C.hr) (JE.h (je_var (i := 2) rfl)) (JE.h (je_int))))))
 (jk_ret (je_tup (jd_cons (je_str) (jd_cons (je_add (je_int) (je_call (ok__law_pick T) (C.hr.mono (by omega)) C.tk rfl (ja_borL (lb_bor (i := 0) rfl) (ja_dat (je_add (je_var (i := 1) rfl) (je_int)) (ja_dat (je_int) (ja_nil)))))) (jd_nil)))))
 (jk_nil (jk_set (i := 4) (je_call (ih__law_term) (C.hr.mono (Nat.le_refl _)) C.tk rfl (ja_borL (lb_bor (i := 0) rfl) (ja_dat (je_add (je_var (i := 1) rfl) (je_int)) (ja_dat (je_sub (je_var (i := 2) rfl) (je_int)) (ja_nil))))) (fun v39 =>
 jk_if (jt_c (c_eq C.hr) (JE.h (je_var (i := 3) rfl)) (JE.h (je_int)))
 (jk_ret (je_tup (jd_cons (je_str) (jd_cons (je_var (i := 4) rfl) (jd_nil)))))
 (jk_nil (jk_ret (je_tup (jd_cons (je_if (jt_c (c_eq C.hr) (JE.h (je_var (i := 3) rfl)) (JE.h (je_int))) (je_str) (je_str)) (jd_cons (je_call (ok__law_pick T) (C.hr.mono (by omega)) C.tk rfl (ja_borL (lb_bor (i := 0) rfl) (ja_dat (je_add (je_var (i := 1) rfl) (je_int)) (ja_dat (je_int) (ja_nil))))) (jd_cons (je_var (i := 4) rfl) (jd_nil)))))))) sc__law_term.nd))) sc__law_term.nd, by kernel_rfl⟩
  · exact ⟨R.stuck, jk_stuck, h⟩
theorem zero__law_term (ss : List Slot) : F__law_term 0 ss = R.stuck := by
  rcases inv__law_term 0 ss with h | h
  · obtain ⟨_, _, _, rfl⟩ := h
    rfl
  · exact h
theorem both__law_term (T : Top K mg CA base Tt) : ∀ k : Nat, FnD Tt P w K mg base CA (k + 2) "_law_term" ["script", "at", "deep"] (F__law_term k)
  | 0 => (let ⟨_, _, hm, Fn, hb⟩ := T.d__law_term; FnD.zero zero__law_term hm Fn.kp hb)
  | k + 1 => by
    have ih := both__law_term T k
    exact step__law_term T k ih
theorem ok__law_term (T : Top K mg CA base Tt) (k : Nat) : FnD Tt P w K mg base CA (k + 2) "_law_term" ["script", "at", "deep"] (F__law_term k) := both__law_term T k
theorem sc__law_rule : FnScope N__law_rule ["script", "at"] (defScope s__law_rule) := ⟨rfl, rfl, rfl, by decide +kernel, rfl, by decide +kernel, by decide +kernel⟩
theorem inv__law_rule (ss : List Slot) : (∃ a_script a_at, ss = [.bor (.lst a_script), .dat a_at]) ∨ F__law_rule ss = R.stuck := by
  unfold F__law_rule
  split
  · exact .inl ⟨_, _, rfl⟩
  · exact .inr rfl
theorem ok__law_rule (T : Top K mg CA base Tt) : FnD Tt P w K mg base CA 17 "_law_rule" ["script", "at"] F__law_rule := by
  obtain ⟨f, fd, hm, Fn, hb⟩ := T.d__law_rule
  refine ⟨f, fd, hm, Fn.kp, hb, fnOk (N := N__law_rule) (k := 16) Fn sc__law_rule (fun cdv hcv A outer s H Q E ss hl X hX C => ?_) (by decide)⟩
  subst hX
  rcases inv__law_rule ss with h | h
  · obtain ⟨a_script, a_at, rfl⟩ := h
    exact ⟨_, jk_set (i := 2) (je_call (ok__law_pick T) (C.hr.mono (by decide)) C.tk rfl (ja_borL (lb_bor (i := 0) rfl) (ja_dat (je_var (i := 1) rfl) (ja_dat (je_int) (ja_nil))))) (fun v7 =>
 jk_set (i := 3) (je_tuple T.b_tuple (ln_data (ln_lc (i := 7) (ji_range1 T.b_range (jl_cons (JE.h (je_add (je_int) (je_call (ok__law_pick T) (C.hr.mono (by decide)) C.tk rfl (ja_borL (lb_bor (i := 0) rfl) (ja_dat (je_add (je_var (i := 1) rfl) (je_int)) (ja_dat (je_int) (ja_nil))))))) (jl_nil))) (fun d20 s1 H1 Ca1 cl1 fp1 => have C21 := C.blk s1 H1 _ Ca1 cl1 fp1; je_add (je_int) (je_call (ok__law_pick T) (C21.hr.mono (by decide)) C21.tk rfl (ja_borL (lb_bor (i := 0) rfl) (ja_dat (je_add (je_add (je_var (i := 1) rfl) (je_int)) (je_var (i := 7) rfl)) (ja_dat (je_int) (ja_nil)))))) C.calm sc__law_rule.nd (blkOk_by (own := [((PySem.Str.ofString "k"), 7)]) (N := N__law_rule) (sc := defScope s__law_rule) (by decide +kernel))))) (fun v34 =>
 jk_if (jt_c (c_lt) (JE.h (je_var (i := 2) rfl)) (JE.h (je_int)))
 (jk_setL (i := 4) (ln_lst (jd_cons (je_const (d := PyData.tuple [PyData.tuple [PyData.int 1, PyData.int 1], PyData.int 0, PyData.tuple [PyData.tuple [PyData.str (PySem.Str.ofString "back"), PyData.int 0, PyData.tuple [PyData.str (PySem.Str.ofString "at"), PyData.int 1]], PyData.tuple [PyData.str (PySem.Str.ofString "back"), PyData.int 0, PyData.tuple [PyData.str (PySem.Str.ofString "at"), PyData.int 2]]]]) (by kernel_rfl)) (jd_nil))) (fun l39 =>
 jk_append (i := 4) rfl (je_const (d := PyData.tuple [PyData.tuple [PyData.int 1, PyData.int 1], PyData.int 0, PyData.tuple [PyData.tuple [PyData.str (PySem.Str.ofString "back"), PyData.int 0, PyData.tuple [PyData.str (PySem.Str.ofString "at"), PyData.int 1]], PyData.tuple [PyData.str (PySem.Str.ofString "back"), PyData.int 1, PyData.tuple [PyData.str (PySem.Str.ofString "at"), PyData.int 2]]]]) (by kernel_rfl)) (fun l41 =>
 jk_append (i := 4) rfl (je_const (d := PyData.tuple [PyData.tuple [PyData.int 1, PyData.int 1], PyData.int 0, PyData.tuple [PyData.tuple [PyData.str (PySem.Str.ofString "of"), PyData.tuple [PyData.str (PySem.Str.ofString "at"), PyData.int 1]], PyData.tuple [PyData.str (PySem.Str.ofString "back"), PyData.int 0, PyData.tuple [PyData.str (PySem.Str.ofString "at"), PyData.int 1]]]]) (by kernel_rfl)) (fun l43 =>
 jk_append (i := 4) rfl (je_const (d := PyData.tuple [PyData.tuple [PyData.int 1], PyData.int 0, PyData.tuple [PyData.tuple [PyData.str (PySem.Str.ofString "rest"), PyData.int 0, PyData.tuple [PyData.str (PySem.Str.ofString "of"), PyData.tuple [PyData.str (PySem.Str.ofString "at"), PyData.int 1]]]]]) (by kernel_rfl)) (fun l45 =>
 jk_append (i := 4) rfl (je_const (d := PyData.tuple [PyData.tuple [PyData.int 1], PyData.int 1, PyData.tuple [PyData.tuple [PyData.str (PySem.Str.ofString "back"), PyData.int 0, PyData.tuple [PyData.str (PySem.Str.ofString "of"), PyData.tuple [PyData.str (PySem.Str.ofString "at"), PyData.int 1]]]]]) (by kernel_rfl)) (fun l47 =>
 jk_set (i := 5) (je_ixL (lb_own (i := 4) rfl) (je_var (i := 2) rfl)) (fun v50 =>
 jk_ret (je_if (jt_c (c_gt) (JE.h (je_call (ok__law_pick T) (C.hr.mono (by decide)) C.tk rfl (ja_borL (lb_bor (i := 0) rfl) (ja_dat (je_add (je_var (i := 1) rfl) (je_int)) (ja_dat (je_int) (ja_nil)))))) (JE.h (je_int))) (je_var (i := 5) rfl) (je_tup (jd_cons (je_var (i := 3) rfl) (jd_cons (je_ix (je_var (i := 5) rfl) (je_int)) (jd_cons (je_ix (je_var (i := 5) rfl) (je_int)) (jd_nil))))))) sc__law_rule.nd))))) sc__law_rule.nd)
 (jk_nil (jk_datLc (i := 7) (j := 6) (ji_range1 T.b_range (jl_cons (JE.h (je_add (je_int) (je_call (ok__law_pick T) (C.hr.mono (by decide)) C.tk rfl (ja_borL (lb_bor (i := 0) rfl) (ja_dat (je_add (je_var (i := 1) rfl) (je_int)) (ja_dat (je_int) (ja_nil))))))) (jl_nil))) (fun d86 s1 H1 Ca1 cl1 fp1 => have C87 := C.blk s1 H1 _ Ca1 cl1 fp1; je_call ((ok__law_term T 14)) (C87.hr.mono (by decide)) C87.tk rfl (ja_borL (lb_bor (i := 0) rfl) (ja_dat (je_add (je_add (je_var (i := 1) rfl) (je_int)) (je_mul (je_int) (je_var (i := 7) rfl))) (ja_dat (je_int) (ja_nil))))) (fun v100 =>
 jk_ret (je_tup (jd_cons (je_var (i := 3) rfl) (jd_cons (je_div (je_call (ok__law_pick T) (C.hr.mono (by decide)) C.tk rfl (ja_borL (lb_bor (i := 0) rfl) (ja_dat (je_add (je_var (i := 1) rfl) (je_int)) (ja_dat (je_int) (ja_nil))))) (je_int)) (jd_cons (je_tuple T.b_tuple (je_var (i := 6) rfl)) (jd_nil)))))) C.calm sc__law_rule.nd (blkOk_by (own := [((PySem.Str.ofString "k"), 7)]) (N := N__law_rule) (sc := defScope s__law_rule) (by decide +kernel)) (sw_true rfl rfl rfl (by decide +kernel))))) sc__law_rule.nd) sc__law_rule.nd, by kernel_rfl⟩
  · exact ⟨R.stuck, jk_stuck, h⟩
theorem sc__law_class : FnScope N__law_class ["kept"] (defScope s__law_class) := ⟨rfl, rfl, rfl, by decide +kernel, rfl, by decide +kernel, by decide +kernel⟩
theorem mem__law_class {c : XC} {t : Str} (h : W__law_class c = some t) : c ∈ ([.noRule, .noNumber, .ended, .noText, .noBack] : List XC) := by cases c <;> first | decide | cases h
theorem ok__law_class (T : Top K mg CA base Tt) : FnP Tt P w K mg base CA 1 "_law_class" W__law_class := by
  obtain ⟨f, fd, hm, Fn, hb⟩ := T.d__law_class
  refine fnP (N := N__law_class) (k := 0) hm Fn hb sc__law_class (fun cdv hcv A outer s H p c t hF hx X hX hr => ?_) (by decide)
  subst hX
  have C := cq_of T.xs (mem__law_class hF) hx hr
  exact ⟨_, jk_set (i := 1) (ln_data (ln_lst (jd_cons (je_isX (i := 0) (a := CA .ended) rfl C.C C.is C.mem T.x_Ended.g T.b_isinstance (C.k .ended (by decide))) (jd_cons (je_isX (i := 0) (a := CA .noBack) rfl C.C C.is C.mem T.x_NoBack.g T.b_isinstance (C.k .noBack (by decide))) (jd_cons (je_isX (i := 0) (a := CA .noNumber) rfl C.C C.is C.mem T.x_NoNumber.g T.b_isinstance (C.k .noNumber (by decide))) (jd_cons (je_isX (i := 0) (a := CA .noRule) rfl C.C C.is C.mem T.x_NoRule.g T.b_isinstance (C.k .noRule (by decide))) (jd_nil))))))) (fun v9 =>
 jk_set (i := 1) (je_add (je_var (i := 1) rfl) (ln_data (ln_lst (jd_cons (je_isX (i := 0) (a := CA .noText) rfl C.C C.is C.mem T.x_NoText.g T.b_isinstance (C.k .noText (by decide))) (jd_nil))))) (fun v14 =>
 jk_if (jt_w (jw_or (jt_c (c_neU C.hu) (JE.h (je_lcountD C.hu (lb_dat (je_var (i := 1) rfl)) (JE.h (je_bl)))) (JE.h (je_int))) (jw_or1 (jt_not (jt_val (je_isXV (i := 0) rfl C.C C.is C.mem T.b_ValueError T.b_isinstance C.v))))))
 (jk_ret (je_str))
 (jk_nil (jk_ret (je_ix (ln_data (ln_lst (jd_cons (je_str) (jd_cons (je_str) (jd_cons (je_str) (jd_cons (je_str) (jd_cons (je_str) (jd_nil)))))))) (je_lindexD C.hu (lb_dat (je_var (i := 1) rfl)) (JE.h (je_bl))))))) sc__law_class.nd) sc__law_class.nd, by cases c <;> first | (cases hF; kernel_rfl) | cases hF⟩
theorem sc__law_told : FnScope N__law_told ["deed"] (defScope s__law_told) := ⟨rfl, rfl, rfl, by decide +kernel, rfl, by decide +kernel, by decide +kernel⟩
theorem ok__law_told (T : Top K mg CA base Tt) : ToldF Tt P w K mg base CA (rowX K) 1 "_law_told" W__law_class := by
  obtain ⟨f, fd, hm, Fn, hb⟩ := T.d__law_told
  exact ⟨⟨s__law_told, f, fd, "deed", "e", "_law_class", _, _, _, _, _, _, _, _, _, _, hm, Fn, hb, sc__law_told, rfl, rfl, rfl, rfl, rfl, by decide, by decide, by decide, by decide, by decide, ok__law_class T⟩, T.xs.row, fun c t h => (T.xs.at (mem__law_class h)).2.1⟩
theorem sc__law_done : FnScope N__law_done ["walk", "deed"] (defScope s__law_done) := ⟨rfl, rfl, rfl, by decide +kernel, rfl, by decide +kernel, by decide +kernel⟩
theorem ok__law_done (T : Top K mg CA base Tt) : FnWD Tt P w K mg base CA 20 "_law_done" ["walk", "deed"] F__law_done := by
  obtain ⟨f, fd, hm, Fn, hb, c1, P1, hc1, tb1, mem1, one1⟩ := T.d__law_done
  refine ⟨f, fd, hm, Fn.kp, hb, ?_⟩
  refine fnW (N := N__law_done) (k := 19) Fn sc__law_done (fun cdv hcv A outer s H Q E p1 a_walk ds hl X hX C => ?_) (by decide)
  subst hX
  match ds, hl with
  | [a_deed], _ =>
    exact ⟨Unit, (defBody s__law_done).take 0, (defBody s__law_done).drop 0, (fun (z1 : Unit) => ([.bwk p1 a_walk, .dat a_deed] : Rho)), _, _, (List.take_append_drop 0 _).symm,
      jk_end (x := ()) (show Less ([.bwk p1 a_walk, .dat a_deed] : Rho) ([.bwk p1 a_walk, .dat a_deed] : Rho) from less_cons (less_cons (less_nil))),
      fun z2 => ⟨_, rfl, rfl, jr_ret (i := 0) (wk := fun w => w) (jm_told (fl := (fun (s21 : Wk) => ([.wlk p1 s21, .dat a_deed] : Rho))) (k := 16) (s0 := a_walk) (ok__law_told T) (by decide) (C.hr.mono (by decide)) (LamF.of tb1 hcv hc1 mem1 one1) (LamX.lamS_by (sc := defScope s__law_done) (by decide +kernel)) (fun A1 o1 s1 H1 E1 f1 c2 C3 => jm_if (fl := (fun (s20 : Wk) => ([.wlk p1 s20, .dat a_deed] : Rho))) (jt_c (c_eq C3.hr) (JE.h (je_ix (je_var (i := 1) rfl) (je_int))) (JE.h (je_str))) (jm_meth0 (fl := (fun (s10 : Wk) => ([.wlk p1 s10, .dat a_deed] : Rho))) (i := 0) (u := (fun w8 => w8)) (ok_Walk_go T) (C3.hr.mono (by decide)) C3.tk T.wc rfl (fun _ => rfl) rfl) (jm_meth (fl := (fun (s18 : Wk) => ([.wlk p1 s18, .dat a_deed] : Rho))) (i := 0) (u := (fun w11 => w11)) (ok_Walk_poke T) (C3.hr.mono (by decide)) C3.tk T.wc rfl (fun _ => rfl) (jd_cons (je_ix (je_var (i := 1) rfl) (je_int)) (jd_nil)) rfl)) rfl) (fun _ => rfl)⟩, by kernel_rfl⟩
theorem sc_law : FnScope N_law ["script"] (defScope s_law) := ⟨rfl, rfl, rfl, by decide +kernel, rfl, by decide +kernel, by decide +kernel⟩
theorem inv_law (ss : List Slot) : (∃ a_script, ss = [.bor (.lst a_script)]) ∨ F_law ss = R.stuck := by
  unfold F_law
  split
  · exact .inl ⟨_, rfl⟩
  · exact .inr rfl
theorem okF_law {f : Addr} {fd : FuncData} (T : Top K mg CA base Tt) (Fn : Fun K "law" "law" s_law f fd) {c1 P1 : Addr} (hc1 : fd.code = .ref c1) (tb1 : LamX.TabB base mg c1 P1) (mem1 : (P1, lamQ "law") ∈ Tt) (one1 : ∀ p ∈ Tt, p.1 = P1 → p.2 = lamQ "law") : FnOk P w K mg base (L2.CX P w) 25 f fd ["script"] (spD Tt K CA 1 F_law) := by
  refine fnOk (N := N_law) (k := 24) Fn sc_law (fun cdv hcv A outer s H Q E ss hl X hX C => ?_) (by decide)
  subst hX
  rcases inv_law ss with h | h
  · obtain ⟨a_script, rfl⟩ := h
    exact ⟨_, jk_set (i := 1) (je_call (ok__law_rule T) (C.hr.mono (by decide)) C.tk rfl (ja_borL (lb_bor (i := 0) rfl) (ja_dat (je_int) (ja_nil)))) (fun v5 =>
 jk_setW (i := 2) (jw_make (ok_Walk___init__ T) (C.hr.mono (by decide)) C.tk (je_var (i := 1) rfl)) (fun p7 w6 =>
 jk_for1 (γ := Wk) (i := 3) (fl := (fun (z10 : Wk) => ([.bor (.lst a_script), .dat v5, .wlk p7 z10, .un, .un, .un, .un, .un, .un, .un] : Rho))) (a0 := w6) (ji_range1 T.b_range (jl_cons (JE.h (je_int)) (jl_nil))) (show Less ([.bor (.lst a_script), .dat v5, .wlk p7 w6, .un, .un, .un, .un, .un, .un, .un] : Rho) ([.bor (.lst a_script), .dat v5, .wlk p7 w6, .un, .un, .un, .un, .un, .un, .un] : Rho) from less_cons (less_cons (less_cons (less_un (less_un (less_un (less_un (less_un (less_un (less_un (less_nil)))))))))))
 (fun z12 d13 =>
 jk_set (i := 4) (je_const (d := PyData.tuple [PyData.str (PySem.Str.ofString "go"), PyData.int 0]) (by kernel_rfl)) (fun v14 =>
 jk_join (γ := D) (fl := (fun (z34 : D) => ([.bor (.lst a_script), .dat v5, .wlk p7 z12, .dat d13, .dat z34, .un, .un, .un, .un, .un] : Rho))) (jt_w (jw_and (jt_c (c_eq C.hr) (JE.h (je_call (ok__law_pick T) (C.hr.mono (by decide)) C.tk rfl (ja_borL (lb_bor (i := 0) rfl) (ja_dat (je_add (je_int) (je_var (i := 3) rfl)) (ja_dat (je_int) (ja_nil)))))) (JE.h (je_int))) (jw_and1 (jt_c (c_lt) (JE.h (je_cb call_abs ok_abs (by decide +kernel) T.b_abs (jl_cons (JE.h (je_ix (je_meth0 (i := 2) (F' := m_Walk_row) (fun _ _ => rfl) (ok_Walk_row T) (C.hr.mono (by decide)) C.tk T.wc (.inl rfl) rfl) (je_neg (je_int)))) (jl_nil)))) (JE.h (je_int))))))
 (jk_set (i := 4) (je_tup (jd_cons (je_str) (jd_cons (je_add (je_ix (je_meth0 (i := 2) (F' := m_Walk_row) (fun _ _ => rfl) (ok_Walk_row T) (C.hr.mono (by decide)) C.tk T.wc (.inl rfl) rfl) (je_neg (je_int))) (je_call (ok__law_pick T) (C.hr.mono (by decide)) C.tk rfl (ja_borL (lb_bor (i := 0) rfl) (ja_dat (je_add (je_int) (je_var (i := 3) rfl)) (ja_dat (je_int) (ja_nil)))))) (jd_nil)))) (fun v53 =>
 jk_end (x := v53) (show Less ([.bor (.lst a_script), .dat v5, .wlk p7 z12, .dat d13, .dat v53, .un, .un, .un, .un, .un] : Rho) ([.bor (.lst a_script), .dat v5, .wlk p7 z12, .dat d13, .dat v53, .un, .un, .un, .un, .un] : Rho) from less_cons (less_cons (less_cons (less_cons (less_cons (less_un (less_un (less_un (less_un (less_un (less_nil)))))))))))) sc_law.nd)
 (jk_end (x := v14) (show Less ([.bor (.lst a_script), .dat v5, .wlk p7 z12, .dat d13, .dat v14, .un, .un, .un, .un, .un] : Rho) ([.bor (.lst a_script), .dat v5, .wlk p7 z12, .dat d13, .dat v14, .un, .un, .un, .un, .un] : Rho) from less_cons (less_cons (less_cons (less_cons (less_cons (less_un (less_un (less_un (less_un (less_un (less_nil))))))))))))
 (fun z54 =>
 jk_set (i := 5) (je_meth0 (i := 2) (F' := m_Walk_row) (fun _ _ => rfl) (ok_Walk_row T) (C.hr.mono (by decide)) C.tk T.wc (.inl rfl) rfl) (fun v55 =>
 jk_unp2M (fl := (fun (s56 : Wk) => ([.bor (.lst a_script), .dat v5, .wlk p7 s56, .dat d13, .dat z54, .dat v55, .un, .un, .un, .un] : Rho))) (i1 := 6) (i2 := 7) (jdm_cons (fl := (fun (s63 : Wk) => ([.bor (.lst a_script), .dat v5, .wlk p7 s63, .dat d13, .dat z54, .dat v55, .un, .un, .un, .un] : Rho))) (jm_call (fl := (fun (s62 : Wk) => ([.bor (.lst a_script), .dat v5, .wlk p7 s62, .dat d13, .dat z54, .dat v55, .un, .un, .un, .un] : Rho))) (i := 2) (u := (fun w57 => w57)) (ok__law_done T) (C.hr.mono (by decide)) C.tk rfl (fun _ => rfl) (jd_cons (je_var (i := 4) rfl) (jd_nil)) rfl) (fun s64 => jdm_cons (fl := (fun (s67 : Wk) => ([.bor (.lst a_script), .dat v5, .wlk p7 s67, .dat d13, .dat z54, .dat v55, .un, .un, .un, .un] : Rho))) (Ev.m (fl := (fun (s66 : Wk) => ([.bor (.lst a_script), .dat v5, .wlk p7 s66, .dat d13, .dat z54, .dat v55, .un, .un, .un, .un] : Rho))) (s0 := s64) (je_meth0 (i := 2) (F' := m_Walk_row) (fun _ _ => rfl) (ok_Walk_row T) (C.hr.mono (by decide)) C.tk T.wc (.inl rfl) rfl) rfl) (fun s68 => jdm_nil (fl := (fun (s69 : Wk) => ([.bor (.lst a_script), .dat v5, .wlk p7 s69, .dat d13, .dat z54, .dat v55, .un, .un, .un, .un] : Rho))) (s0 := s68) rfl))) (fun d74 s76 =>
 jk_if (jt_c (c_ne C.hr) (JE.h (je_call (ok_is_row T) (C.hr.mono (by decide)) C.tk rfl (ja_dat (je_var (i := 1) rfl) (ja_dat (je_var (i := 7) rfl) (ja_nil))))) (JE.h (je_meth0 (i := 2) (F' := m_Walk_is_true) (fun _ _ => rfl) (ok_Walk_is_true T) (C.hr.mono (by decide)) C.tk T.wc (.inl rfl) rfl)))
 (jk_ret (je_bl))
 (jk_nil (jk_if (jt_c (c_ne C.hr) (JE.h (je_call (ok_is_row T) (C.hr.mono (by decide)) C.tk rfl (ja_dat (je_var (i := 1) rfl) (ja_dat (je_var (i := 7) rfl) (ja_nil))))) (JE.h (je_c (c_eq C.hr) (JE.h (je_call (ok_numbers T) (C.hr.mono (by decide)) C.tk rfl (ja_dat (je_var (i := 1) rfl) (ja_dat (je_cb call_len ok_len (by decide +kernel) T.b_len (jl_cons (JE.h (je_var (i := 7) rfl)) (jl_nil))) (ja_nil))))) (JE.h (je_var (i := 7) rfl)))))
 (jk_ret (je_bl))
 (jk_nil (jk_join (γ := Wk) (fl := (fun (z104 : Wk) => ([.bor (.lst a_script), .dat v5, .wlk p7 z104, .dat d13, .dat z54, .dat v55, .dat d74.1, .dat d74.2, .un, .un] : Rho))) (jt_val (je_call (ok_is_row T) (C.hr.mono (by decide)) C.tk rfl (ja_dat (je_var (i := 1) rfl) (ja_dat (je_var (i := 7) rfl) (ja_nil)))))
 (jk_setW (i := 8) (jw_meth0 (i := 2) (F' := m_Walk_twin) (fun _ _ => rfl) (ok_Walk_twin T) (C.hr.mono (by decide)) C.tk T.wc (.inl rfl) rfl) (fun p106 w105 =>
 jk_setM (fl := (fun (s119 : Wk × Wk) => ([.bor (.lst a_script), .dat v5, .wlk p7 s119.1, .dat d13, .dat z54, .dat v55, .dat d74.1, .dat d74.2, .wlk p106 s119.2, .un] : Rho))) (i := 9) (jm_c (fl := (fun (s118 : Wk × Wk) => ([.bor (.lst a_script), .dat v5, .wlk p7 s118.1, .dat d13, .dat z54, .dat v55, .dat d74.1, .dat d74.2, .wlk p106 s118.2, .un] : Rho))) (c_ne C.hr) (jm_told (fl := (fun (s111 : Wk × Wk) => ([.bor (.lst a_script), .dat v5, .wlk p7 s111.1, .dat d13, .dat z54, .dat v55, .dat d74.1, .dat d74.2, .wlk p106 s111.2, .un] : Rho))) (k := 21) (s0 := (s76, w105)) (ok__law_told T) (by decide) (C.hr.mono (by decide)) (LamF.of tb1 hcv hc1 mem1 one1) (LamX.lamS_by (sc := defScope s_law) (by decide +kernel)) (fun A1 o1 s1 H1 E1 f1 c2 C107 => jm_meth0 (fl := (fun (s110 : Wk × Wk) => ([.bor (.lst a_script), .dat v5, .wlk p7 s110.1, .dat d13, .dat z54, .dat v55, .dat d74.1, .dat d74.2, .wlk p106 s110.2, .un] : Rho))) (i := 8) (u := (fun w108 => (s76, w108))) (ok_Walk_go T) (C107.hr.mono (by decide)) C107.tk T.wc rfl (fun _ => rfl) rfl) rfl) (fun s112 => Ev.m (fl := (fun (s114 : Wk × Wk) => ([.bor (.lst a_script), .dat v5, .wlk p7 s114.1, .dat d13, .dat z54, .dat v55, .dat d74.1, .dat d74.2, .wlk p106 s114.2, .un] : Rho))) (s0 := (s112.1, s112.2)) (JE.h (je_str)) rfl)) (fun d120 s122 =>
 jk_if (jt_c (c_ne C.hr) (JE.h (je_call (ok_goes_on T) (C.hr.mono (by decide)) C.tk rfl (ja_dat (je_var (i := 1) rfl) (ja_dat (je_var (i := 7) rfl) (ja_nil))))) (JE.h (je_var (i := 9) rfl)))
 (jk_ret (je_bl))
 (jk_nil (jk_end (x := s122.1) (show Less ([.bor (.lst a_script), .dat v5, .wlk p7 s122.1, .dat d13, .dat z54, .dat v55, .dat d74.1, .dat d74.2, .un, .un] : Rho) ([.bor (.lst a_script), .dat v5, .wlk p7 s122.1, .dat d13, .dat z54, .dat v55, .dat d74.1, .dat d74.2, .wlk p106 s122.2, .dat d120] : Rho) from less_cons (less_cons (less_cons (less_cons (less_cons (less_cons (less_cons (less_cons (less_un (less_un (less_nil)))))))))))))) sc_law.nd) sc_law.nd)
 (jk_if (jt_c (c_ne C.hr) (JE.h (je_told (k := 21) (ok__law_told T) (by decide) (C.hr.mono (by decide)) (LamF.of tb1 hcv hc1 mem1 one1) (LamX.lamS_by (sc := defScope s_law) (by decide +kernel)) (fun A1 o1 s1 H1 E1 f1 c2 C131 => je_call (ok_goes_on T) (C131.hr.mono (by decide)) C131.tk rfl (ja_dat (je_var (i := 1) rfl) (ja_dat (je_var (i := 7) rfl) (ja_nil)))))) (JE.h (je_str)))
 (jk_ret (je_bl))
 (jk_nil (jk_end (x := s76) (show Less ([.bor (.lst a_script), .dat v5, .wlk p7 s76, .dat d13, .dat z54, .dat v55, .dat d74.1, .dat d74.2, .un, .un] : Rho) ([.bor (.lst a_script), .dat v5, .wlk p7 s76, .dat d13, .dat z54, .dat v55, .dat d74.1, .dat d74.2, .un, .un] : Rho) from less_cons (less_cons (less_cons (less_cons (less_cons (less_cons (less_cons (less_cons (less_un (less_un (less_nil))))))))))))))
 (fun z140 =>
 jk_if (jt_w (jw_and (jt_c (c_eq C.hr) (JE.h (je_var (i := 6) rfl)) (JE.h (je_str))) (jw_and1 (jt_c (c_ne C.hr) (JE.h (je_var (i := 5) rfl)) (JE.h (je_var (i := 7) rfl))))))
 (jk_ret (je_bl))
 (jk_nil (jk_end (x := z140) (show Less ([.bor (.lst a_script), .dat v5, .wlk p7 z140, .un, .un, .un, .un, .un, .un, .un] : Rho) ([.bor (.lst a_script), .dat v5, .wlk p7 z140, .dat d13, .dat z54, .dat v55, .dat d74.1, .dat d74.2, .un, .un] : Rho) from less_cons (less_cons (less_cons (less_un (less_un (less_un (less_un (less_un (less_un (less_un (less_nil))))))))))))))))))) sc_law.nd C.calm) sc_law.nd)) sc_law.nd)
 (fun z152 =>
 jk_while (γ := Wk) (fuel := 3000) (fl := (fun (z153 : Wk) => ([.bor (.lst a_script), .dat v5, .wlk p7 z153, .un, .un, .un, .un, .un, .un, .un] : Rho))) (a0 := z152) (show Less ([.bor (.lst a_script), .dat v5, .wlk p7 z152, .un, .un, .un, .un, .un, .un, .un] : Rho) ([.bor (.lst a_script), .dat v5, .wlk p7 z152, .un, .un, .un, .un, .un, .un, .un] : Rho) from less_cons (less_cons (less_cons (less_un (less_un (less_un (less_un (less_un (less_un (less_un (less_nil))))))))))) (fun z154 => jt_c (c_gt) (JE.h (je_ix (je_meth0 (i := 2) (F' := m_Walk_counts) (fun _ _ => rfl) (ok_Walk_counts T) (C.hr.mono (by decide)) C.tk T.wc (.inl rfl) rfl) (je_int))) (JE.h (je_int)))
 (fun z155 =>
 jk_exprM (fl := (fun (s164 : Wk) => ([.bor (.lst a_script), .dat v5, .wlk p7 s164, .un, .un, .un, .un, .un, .un, .un] : Rho))) (jm_meth0 (fl := (fun (s163 : Wk) => ([.bor (.lst a_script), .dat v5, .wlk p7 s163, .un, .un, .un, .un, .un, .un, .un] : Rho))) (i := 2) (u := (fun w161 => w161)) (ok_Walk_back T) (C.hr.mono (by decide)) C.tk T.wc rfl (fun _ => rfl) rfl)
 (fun s165 => jk_end (x := s165) (show Less ([.bor (.lst a_script), .dat v5, .wlk p7 s165, .un, .un, .un, .un, .un, .un, .un] : Rho) ([.bor (.lst a_script), .dat v5, .wlk p7 s165, .un, .un, .un, .un, .un, .un, .un] : Rho) from less_cons (less_cons (less_cons (less_un (less_un (less_un (less_un (less_un (less_un (less_un (less_nil)))))))))))))
 (fun z167 =>
 jk_ret (je_and (je_c (c_is) (JE.h (je_call (ok_is_row T) (C.hr.mono (by decide)) C.tk rfl (ja_dat (je_var (i := 1) rfl) (ja_dat (je_meth0 (i := 2) (F' := m_Walk_row) (fun _ _ => rfl) (ok_Walk_row T) (C.hr.mono (by decide)) C.tk T.wc (.inl rfl) rfl) (ja_nil))))) (JE.h (je_bl))) (je_and (je_c (c_is) (JE.h (je_call (ok_is_row T) (C.hr.mono (by decide)) C.tk rfl (ja_dat (je_var (i := 1) rfl) (ja_dat (ln_data (ln_lst (jd_nil))) (ja_nil))))) (JE.h (je_bl))) (je_one (je_c (c_is) (JE.h (je_call (ok_is_row T) (C.hr.mono (by decide)) C.tk rfl (ja_dat (je_var (i := 1) rfl) (ja_dat (je_tuple T.b_tuple (je_meth0 (i := 2) (F' := m_Walk_row) (fun _ _ => rfl) (ok_Walk_row T) (C.hr.mono (by decide)) C.tk T.wc (.inl rfl) rfl)) (ja_nil))))) (JE.h (je_bl))))))) C.pass) sc_law.nd C.calm C.pass) sc_law.nd) sc_law.nd, by kernel_rfl⟩
  · exact ⟨R.stuck, jk_stuck, h⟩
end
end K69
end Br
namespace Br
open PySem PySem.Spec PyProof.Rows L2

/-! ### how mirrors reckon -/
@[simp] theorem opt_some {α : Type} (a : α) : R.opt (some a) = .ok a := rfl
@[simp] theorem opt_none {α : Type} : (R.opt none : R α) = .stuck := rfl
@[simp] theorem asB_bool (b : Bool) : asB (.bool b) = .ok b := rfl
@[simp] theorem lstD_eq (l : List D) : lstD l = .ok (.list l) := rfl
@[simp] theorem tupD_eq (l : List D) : tupD l = .ok (.tuple l) := rfl
@[simp] theorem asI_int (i : Int) : asI (.int i) = .ok (some i) := rfl
@[simp] theorem asLst_list (l : List D) : asLst (.list l) = .ok l := rfl
@[simp] theorem asSeq_list (l : List D) : asSeq (.list l) = .ok l := rfl
@[simp] theorem asSeq_tuple (l : List D) : asSeq (.tuple l) = .ok l := rfl
@[simp] theorem outD_rt (d : D) : outD (.rt d) = .ok d := rfl
@[simp] theorem outD_nx (u : Unit) : outD (.nx u) = .ok .none := rfl
@[simp] theorem cont_nx {α β : Type} (k : α → R (Out β)) (a : α) : Out.cont k (.nx a) = k a := rfl
@[simp] theorem cont_rt {α β : Type} (k : α → R (Out β)) (d : D) : Out.cont k (.rt d) = .ok (.rt d) := rfl
@[simp] theorem meet_nx {α β : Type} (k : α → R (Out β)) (a : α) : Out.meet k (.nx a) = k a := rfl
@[simp] theorem meet_rt {α β : Type} (k : α → R (Out β)) (d : D) : Out.meet k (.rt d) = .ok (.rt d) := rfl
@[simp] theorem pyAdd_int (a b : Int) : pyAdd (.int a) (.int b) = some (.int (a + b)) := rfl
@[simp] theorem pySub_int (a b : Int) : pySub (.int a) (.int b) = some (.int (a - b)) := rfl
@[simp] theorem pyNeg_int (a : Int) : pyNeg (.int a) = some (.int (-a)) := rfl
theorem pyMul_l {a b : Int} (h : -18446744073709551616 < a) (h' : a < 18446744073709551616) : pyMul (.int a) (.int b) = some (.int (a * b)) := by
  simp [pyMul, mulOk, h, h']
theorem pyMul_r {a b : Int} (h : -18446744073709551616 < b) (h' : b < 18446744073709551616) : pyMul (.int a) (.int b) = some (.int (a * b)) := by
  simp [pyMul, mulOk, h, h']
theorem pyMod_int {a b : Int} (h : 0 < b) : pyMod (.int a) (.int b) = some (.int (a % b)) := by simp [pyMod, h]
theorem pyDiv_int {a b : Int} (h : 0 < b) (h' : b < 1073741824) : pyDiv (.int a) (.int b) = some (.int (a / b)) := by simp [pyDiv, h, h']
@[simp] theorem pyCmp_int (p : Int → Int → Bool) (a b : Int) : pyCmp p (.int a) (.int b) = some (.bool (p a b)) := rfl
@[simp] theorem pyLen_list (l : List D) : pyLen [.list l] = some (.int l.length) := rfl
@[simp] theorem pyLen_tuple (l : List D) : pyLen [.tuple l] = some (.int l.length) := rfl
@[simp] theorem pyIx_list (l : List D) (i : Int) : pyIx (.list l) (.int i) = atI l i := rfl
@[simp] theorem pyIx_tuple (l : List D) (i : Int) : pyIx (.tuple l) (.int i) = atI l i := rfl
@[simp] theorem isNone_none : isNone .none = true := rfl
@[simp] theorem isNone_int (i : Int) : isNone (.int i) = false := rfl
@[simp] theorem pyIs_none (d : D) : pyIs d .none = some (.bool (isNone d)) := by cases d <;> rfl
@[simp] theorem pyIsNot_none (d : D) : pyIsNot d .none = some (.bool (!isNone d)) := by cases d <;> rfl
@[simp] theorem noexc_ok_eq {α : Type} (a : α) : noexc (R.ok a) = .ok a := rfl
/-! ### == of plain things -/
@[simp] theorem shaped_int (i : Int) : SeqAt.shaped (.int i) = true := by rfl
@[simp] theorem shaped_bool (i : Bool) : SeqAt.shaped (.bool i) = true := by rfl
@[simp] theorem shaped_none : SeqAt.shaped .none = true := by rfl
@[simp] theorem eqv_int (a b : Int) : PyData.eqv (.int a) (.int b) = (a == b) := by simp [PyData.eqv]
@[simp] theorem pyEq_int (a b : Int) : pyEq (.int a) (.int b) = some (.bool (a == b)) := by simp [pyEq]
@[simp] theorem pyNe_int (a b : Int) : pyNe (.int a) (.int b) = some (.bool (!(a == b))) := by simp [pyNe]
theorem canLay_ints (ns : List Int) : PyData.canLayAll0 (ns.map .int) = true := by
  induction ns with
  | nil => rfl
  | cons n r ih => rw [List.map_cons, PyData.canLayAll0, ih]; rfl
theorem depth_ints (ns : List Int) : PyData.depthAll (ns.map .int) ≤ 1 := by
  induction ns with
  | nil => simp [PyData.depthAll]
  | cons n r ih => simp only [List.map_cons, PyData.depthAll, PyData.depth]; omega
theorem shaped_ints (ns : List Int) : SeqAt.shaped (.list (ns.map .int)) = true := by
  have h := depth_ints ns
  have e : (PyData.list (ns.map .int)).depth = PyData.depthAll (ns.map .int) + 1 := by simp [PyData.depth, Nat.add_comm]
  have c : (PyData.list (ns.map .int)).canLay0 = true := by rw [PyData.canLay0]; exact canLay_ints ns
  unfold SeqAt.shaped
  rw [c, e]
  exact decide_eq_true (by omega)
theorem shaped_intsT (ns : List Int) : SeqAt.shaped (.tuple (ns.map .int)) = true := by
  have h := depth_ints ns
  have e : (PyData.tuple (ns.map .int)).depth = PyData.depthAll (ns.map .int) + 1 := by simp [PyData.depth, Nat.add_comm]
  have c : (PyData.tuple (ns.map .int)).canLay0 = true := by rw [PyData.canLay0]; exact canLay_ints ns
  unfold SeqAt.shaped
  rw [c, e]
  exact decide_eq_true (by omega)
theorem eqvAll_ints : ∀ ns ms : List Int, PyData.eqvAll (ns.map .int) (ms.map .int) = (ns == ms)
  | [], [] => by simp [PyData.eqvAll]
  | [], _ :: _ => by simp [PyData.eqvAll]
  | _ :: _, [] => by simp [PyData.eqvAll]
  | a :: r, b :: s => by simp [PyData.eqvAll, eqvAll_ints r s]
theorem eqv_ints (ns ms : List Int) : PyData.eqv (.list (ns.map .int)) (.list (ms.map .int)) = (ns == ms) := by rw [PyData.eqv, eqvAll_ints]
theorem pyEq_ints (ns ms : List Int) : pyEq (.list (ns.map .int)) (.list (ms.map .int)) = some (.bool (ns == ms)) := by simp [pyEq, shaped_ints, eqv_ints]
theorem pyNe_ints (ns ms : List Int) : pyNe (.list (ns.map .int)) (.list (ms.map .int)) = some (.bool (!(ns == ms))) := by simp [pyNe, shaped_ints, eqv_ints]
theorem atI_map {α β : Type} (f : α → β) (l : List α) (i : Int) : atI (l.map f) i = (atI l i).map f := by
  unfold atI
  rw [List.length_map]
  cases ixN l.length i with
  | none => rfl
  | some j => simp
theorem atI_pos {α : Type} {l : List α} {i : Int} (h : 0 ≤ i) (h' : i < l.length) : atI l i = some (l[i.toNat]'(by omega)) := by
  unfold atI ixN
  rw [if_pos h, if_pos h', Option.bind_some]
  exact List.getElem?_eq_getElem (by omega)
/-! ### drawn numbers -/
def cell (ns : List Int) (k : Int) : Int := if k < ns.length then ns.getD k.toNat 0 else if ns = [] then 0 else ns.getD (k % ns.length).toNat 0 * 31 + k
theorem cell_eq (ns : List Int) (k : Int) (hk : 0 ≤ k) : m__law_cell (ns.map .int) (.int k) = .ok (.int (cell ns k)) := by
  unfold m__law_cell cell
  simp only [R.bind_ok, lstD_eq, pyLen_list, opt_some, pyCmp_int, asB_bool, List.length_map]
  by_cases h : k < ns.length
  · simp only [h, decide_true, if_true, pyIx_list, atI_map, atI_pos hk h, Option.map_some, opt_some, R.bind_ok, outD_rt]
    rw [List.getD_eq_getElem?_getD, List.getElem?_eq_getElem (by omega)]
    rfl
  · simp only [h, decide_false, if_false, Bool.false_eq_true]
    have e : pyEq (.list (ns.map .int)) (.list []) = some (.bool (ns == [])) := pyEq_ints ns []
    simp only [e, opt_some, R.bind_ok, asB_bool]
    by_cases hn : ns = []
    · subst hn
      simp
    · have hl : 0 < ns.length := List.length_pos_iff.mpr hn
      have h0 : 0 ≤ k % (ns.length : Int) := Int.emod_nonneg _ (by omega)
      have h1 : k % (ns.length : Int) < ns.length := Int.emod_lt_of_pos _ (by omega)
      simp only [beq_iff_eq, hn, if_false, pyMod_int (show (0 : Int) < ns.length by omega), opt_some, R.bind_ok, pyIx_list, atI_map, atI_pos h0 h1, Option.map_some]
      rw [pyMul_r (by decide) (by decide)]
      simp only [opt_some, R.bind_ok, pyAdd_int, outD_rt]
      rw [List.getD_eq_getElem?_getD, List.getElem?_eq_getElem (by omega)]
      rfl
def pick (ns : List Int) (k many : Int) : Int :=
  let drawn := (cell ns k + 6151 * (k + 1)) * 40692 % 2147483399
  (drawn * drawn + drawn / 31) % 2147483629 % many
theorem pick_nn (ns : List Int) (k many : Int) (h : 0 < many) : 0 ≤ pick ns k many := Int.emod_nonneg _ (by omega)
theorem pick_lt (ns : List Int) (k many : Int) (h : 0 < many) : pick ns k many < many := Int.emod_lt_of_pos _ h
theorem pick_eq (ns : List Int) (k many : Int) (hk : 0 ≤ k) (hm : 0 < many) : m__law_pick (ns.map .int) (.int k) (.int many) = .ok (.int (pick ns k many)) := by
  unfold m__law_pick pick
  simp only [R.bind_ok, F__law_cell, cell_eq ns k hk, pyAdd_int, opt_some]
  rw [pyMul_l (a := 6151) (by decide) (by decide)]
  simp only [R.bind_ok, pyAdd_int, opt_some]
  rw [pyMul_r (b := 40692) (by decide) (by decide)]
  simp only [R.bind_ok, opt_some]
  rw [pyMod_int (by decide)]
  simp only [R.bind_ok, opt_some]
  have h0 : 0 ≤ (cell ns k + 6151 * (k + 1)) * 40692 % 2147483399 := Int.emod_nonneg _ (by decide)
  have h1 : (cell ns k + 6151 * (k + 1)) * 40692 % 2147483399 < 2147483399 := Int.emod_lt_of_pos _ (by decide)
  rw [pyMul_l (by omega) (by omega), pyDiv_int (by decide) (by decide)]
  simp only [R.bind_ok, opt_some, pyAdd_int]
  rw [pyMod_int (by decide)]
  simp only [R.bind_ok, opt_some]
  rw [pyMod_int hm]
  simp only [R.bind_ok, opt_some, outD_rt]
theorem F_pick (ns : List Int) (k many : Int) (hk : 0 ≤ k) (hm : 0 < many) : F__law_pick [.bor (.lst (ns.map .int)), .dat (.int k), .dat (.int many)] = .ok (.int (pick ns k many)) := pick_eq ns k many hk hm
end Br
namespace Br
open PySem PySem.Spec PyProof.Rows L2

/-! ### terms and rules, plainly -/
inductive Tm where
  | at (k : Int) | of (t : Tm) | back (k : Int) (t : Tm) | rest (k : Int) (t : Tm)
  deriving DecidableEq
abbrev sAt : Str := PySem.Str.ofString "at"
abbrev sOf : Str := PySem.Str.ofString "of"
abbrev sBack : Str := PySem.Str.ofString "back"
abbrev sRest : Str := PySem.Str.ofString "rest"
def Tm.d : Tm → D
  | .at k => .tuple [.str sAt, .int k]
  | .of t => .tuple [.str sOf, t.d]
  | .back k t => .tuple [.str sBack, .int k, t.d]
  | .rest k t => .tuple [.str sRest, .int k, t.d]
def Tm.depth : Tm → Nat
  | .at _ => 1
  | .of t => t.depth + 1
  | .back _ t => t.depth + 1
  | .rest _ t => t.depth + 1
def Tm.ok : Tm → Bool
  | .at k => decide (1 ≤ k) && decide (k ≤ 5)
  | .of t => t.ok
  | .back k t => decide (0 ≤ k) && decide (k ≤ 5) && t.ok
  | .rest k t => decide (0 ≤ k) && decide (k ≤ 5) && t.ok
def Tm.isRest : Tm → Bool
  | .rest _ _ => true
  | _ => false
structure Rl where
  first : List Int
  more : Int
  terms : List Tm
def Rl.d (r : Rl) : D := .tuple [.tuple (r.first.map .int), .int r.more, .tuple (r.terms.map Tm.d)]
structure Rl.Ok (r : Rl) : Prop where
  f1 : 1 ≤ r.first.length
  f2 : r.first.length ≤ 6
  f3 : ∀ x ∈ r.first, 0 ≤ x ∧ x ≤ 9
  m1 : 0 ≤ r.more
  m2 : r.more ≤ 9
  t1 : 1 ≤ r.terms.length
  t2 : r.terms.length ≤ 3
  t3 : ∀ t ∈ r.terms, t.ok = true ∧ t.depth ≤ 3
/-- the number at a place, from 1 on -/
def getAt (row : List Int) (p : Int) : Option Int := if 1 ≤ p ∧ p ≤ row.length then row[(p - 1).toNat]? else none
def numberOf (row : List Int) : Tm → Option Int
  | .at k => getAt row (row.length + 1 - k)
  | .of t => (numberOf row t).bind (getAt row)
  | .back k t => (numberOf row t).bind fun v => getAt row (row.length + 1 - k - v)
  | .rest k t => (numberOf row t).map fun v => row.length + 1 - k - v
def placeOf (row : List Int) : Tm → Option Int
  | .at k => some (row.length + 1 - k)
  | .of t => numberOf row t
  | .back k t => (numberOf row t).map fun v => row.length + 1 - k - v
  | .rest k t => (numberOf row t).map fun v => row.length + 1 - k - v
theorem numberOf_place (row : List Int) (t : Tm) : numberOf row t = if t.isRest then placeOf row t else (placeOf row t).bind (getAt row) := by
  cases t <;> simp [numberOf, placeOf, Tm.isRest]
  rename_i k t
  cases numberOf row t <;> rfl
/-- None, or an int -/
def oD : Option Int → D
  | none => .none
  | some i => .int i
@[simp] theorem isNone_oD (o : Option Int) : isNone (oD o) = o.isNone := by cases o <;> rfl
/-! ### the words of terms -/
theorem sh_at : SeqAt.shaped (.str sAt) = true := by decide +kernel
theorem sh_of : SeqAt.shaped (.str sOf) = true := by decide +kernel
theorem sh_back : SeqAt.shaped (.str sBack) = true := by decide +kernel
theorem sh_rest : SeqAt.shaped (.str sRest) = true := by decide +kernel
theorem eq_str (a b : Str) (ha : SeqAt.shaped (.str a) = true) (hb : SeqAt.shaped (.str b) = true) : pyEq (.str a) (.str b) = some (.bool (a == b)) := by simp [pyEq, ha, hb, PyData.eqv]
@[simp] theorem eq_at_at : pyEq (.str sAt) (.str sAt) = some (.bool true) := by rw [eq_str _ _ sh_at sh_at]; simp
@[simp] theorem eq_of_at : pyEq (.str sOf) (.str sAt) = some (.bool false) := by rw [eq_str _ _ sh_of sh_at, show (sOf == sAt) = false by decide +kernel]
@[simp] theorem eq_back_at : pyEq (.str sBack) (.str sAt) = some (.bool false) := by rw [eq_str _ _ sh_back sh_at, show (sBack == sAt) = false by decide +kernel]
@[simp] theorem eq_rest_at : pyEq (.str sRest) (.str sAt) = some (.bool false) := by rw [eq_str _ _ sh_rest sh_at, show (sRest == sAt) = false by decide +kernel]
@[simp] theorem eq_at_of : pyEq (.str sAt) (.str sOf) = some (.bool false) := by rw [eq_str _ _ sh_at sh_of, show (sAt == sOf) = false by decide +kernel]
@[simp] theorem eq_of_of : pyEq (.str sOf) (.str sOf) = some (.bool true) := by rw [eq_str _ _ sh_of sh_of]; simp
@[simp] theorem eq_back_of : pyEq (.str sBack) (.str sOf) = some (.bool false) := by rw [eq_str _ _ sh_back sh_of, show (sBack == sOf) = false by decide +kernel]
@[simp] theorem eq_rest_of : pyEq (.str sRest) (.str sOf) = some (.bool false) := by rw [eq_str _ _ sh_rest sh_of, show (sRest == sOf) = false by decide +kernel]
@[simp] theorem eq_at_rest : pyEq (.str sAt) (.str sRest) = some (.bool false) := by rw [eq_str _ _ sh_at sh_rest, show (sAt == sRest) = false by decide +kernel]
@[simp] theorem eq_of_rest : pyEq (.str sOf) (.str sRest) = some (.bool false) := by rw [eq_str _ _ sh_of sh_rest, show (sOf == sRest) = false by decide +kernel]
@[simp] theorem eq_back_rest : pyEq (.str sBack) (.str sRest) = some (.bool false) := by rw [eq_str _ _ sh_back sh_rest, show (sBack == sRest) = false by decide +kernel]
@[simp] theorem eq_rest_rest : pyEq (.str sRest) (.str sRest) = some (.bool true) := by rw [eq_str _ _ sh_rest sh_rest]; simp
theorem ix0_2 (a b : D) : atI [a, b] 0 = some a := rfl
theorem ix1_2 (a b : D) : atI [a, b] 1 = some b := rfl
theorem ixl_2 (a b : D) : atI [a, b] (-1) = some b := rfl
theorem ix0_3 (a b c : D) : atI [a, b, c] 0 = some a := rfl
theorem ix1_3 (a b c : D) : atI [a, b, c] 1 = some b := rfl
theorem ix2_3 (a b c : D) : atI [a, b, c] 2 = some c := rfl
theorem ixl_3 (a b c : D) : atI [a, b, c] (-1) = some c := rfl
/-! ### place_of, number_of -/
theorem place_number (row : List Int) : ∀ (t : Tm) (k : Nat), 2 * t.depth ≤ k + 1 → (m_place_of (k + 1) t.d (row.map .int) = .ok (oD (placeOf row t))) ∧ (m_number_of (k + 2) t.d (row.map .int) = .ok (oD (numberOf row t))) := by
  have num : ∀ (t : Tm) (k : Nat), m_place_of (k + 1) t.d (row.map .int) = .ok (oD (placeOf row t)) → m_number_of (k + 2) t.d (row.map .int) = .ok (oD (numberOf row t)) := by
    intro t k h
    rw [numberOf_place]
    unfold m_number_of
    simp only [R.bind_ok, h, pyIs_none, opt_some, asB_bool, isNone_oD]
    cases hp : placeOf row t with
    | none => cases t <;> simp [Tm.isRest, oD]
    | some p =>
      simp only [Option.isNone_some, Bool.false_eq_true, if_false, oD]
      cases t with
      | rest c t => simp [Tm.d, ix0_3, Tm.isRest]
      | «at» c =>
        simp only [Tm.d, pyIx_tuple, ix0_2, opt_some, R.bind_ok, eq_at_rest, asB_bool, Bool.false_eq_true, if_false, lstD_eq, pyLen_list, pyCmp_int, List.length_map, Tm.isRest, Option.bind_some, getAt, pySub_int, pyIx_list, atI_map]
        by_cases h1 : 1 ≤ p
        · by_cases h2 : p ≤ row.length
          · simp [h1, h2, atI_pos (show 0 ≤ p - 1 by omega) (show p - 1 < row.length by omega)]
            rw [List.getElem?_eq_getElem (by omega)]
          · simp [h1, h2]
        · simp [h1]
      | of t =>
        simp only [Tm.d, pyIx_tuple, ix0_2, opt_some, R.bind_ok, eq_of_rest, asB_bool, Bool.false_eq_true, if_false, lstD_eq, pyLen_list, pyCmp_int, List.length_map, Tm.isRest, Option.bind_some, getAt, pySub_int, pyIx_list, atI_map]
        by_cases h1 : 1 ≤ p
        · by_cases h2 : p ≤ row.length
          · simp [h1, h2, atI_pos (show 0 ≤ p - 1 by omega) (show p - 1 < row.length by omega)]
            rw [List.getElem?_eq_getElem (by omega)]
          · simp [h1, h2]
        · simp [h1]
      | back c t =>
        simp only [Tm.d, pyIx_tuple, ix0_3, opt_some, R.bind_ok, eq_back_rest, asB_bool, Bool.false_eq_true, if_false, lstD_eq, pyLen_list, pyCmp_int, List.length_map, Tm.isRest, Option.bind_some, getAt, pySub_int, pyIx_list, atI_map]
        by_cases h1 : 1 ≤ p
        · by_cases h2 : p ≤ row.length
          · simp [h1, h2, atI_pos (show 0 ≤ p - 1 by omega) (show p - 1 < row.length by omega)]
            rw [List.getElem?_eq_getElem (by omega)]
          · simp [h1, h2]
        · simp [h1]
  intro t
  induction t with
  | «at» c =>
    intro k hk
    have h : m_place_of (k + 1) (Tm.at c).d (row.map .int) = .ok (oD (placeOf row (.at c))) := by
      unfold m_place_of
      simp [Tm.d, ix0_2, ix1_2, placeOf, oD]
    exact ⟨h, num _ k h⟩
  | of t ih =>
    intro k hk
    simp only [Tm.depth] at hk
    have hd : 1 ≤ t.depth := by cases t <;> simp [Tm.depth]
    obtain ⟨k', rfl⟩ : ∃ k', k = k' + 2 := ⟨k - 2, by omega⟩
    have ht := (ih k' (by omega)).2
    have h : m_place_of (k' + 2 + 1) (Tm.of t).d (row.map .int) = .ok (oD (placeOf row (.of t))) := by
      unfold m_place_of
      simp only [Tm.d, R.bind_ok, lstD_eq, pyLen_list, opt_some, pyAdd_int, pyIx_tuple, ix0_2, eq_of_at, asB_bool, Bool.false_eq_true, if_false, pyNeg_int, ixl_2, ht, pyIs_none, isNone_oD, placeOf]
      cases numberOf row t <;> simp [oD]
    exact ⟨h, num _ (k' + 2) h⟩
  | back c t ih =>
    intro k hk
    simp only [Tm.depth] at hk
    have hd : 1 ≤ t.depth := by cases t <;> simp [Tm.depth]
    obtain ⟨k', rfl⟩ : ∃ k', k = k' + 2 := ⟨k - 2, by omega⟩
    have ht := (ih k' (by omega)).2
    have h : m_place_of (k' + 2 + 1) (Tm.back c t).d (row.map .int) = .ok (oD (placeOf row (.back c t))) := by
      unfold m_place_of
      simp only [Tm.d, R.bind_ok, lstD_eq, pyLen_list, opt_some, pyAdd_int, pyIx_tuple, ix0_3, ix1_3, eq_back_at, eq_back_of, asB_bool, Bool.false_eq_true, if_false, pyNeg_int, ixl_3, ht, pyIs_none, isNone_oD, placeOf]
      cases numberOf row t <;> simp [oD]
    exact ⟨h, num _ (k' + 2) h⟩
  | rest c t ih =>
    intro k hk
    simp only [Tm.depth] at hk
    have hd : 1 ≤ t.depth := by cases t <;> simp [Tm.depth]
    obtain ⟨k', rfl⟩ : ∃ k', k = k' + 2 := ⟨k - 2, by omega⟩
    have ht := (ih k' (by omega)).2
    have h : m_place_of (k' + 2 + 1) (Tm.rest c t).d (row.map .int) = .ok (oD (placeOf row (.rest c t))) := by
      unfold m_place_of
      simp only [Tm.d, R.bind_ok, lstD_eq, pyLen_list, opt_some, pyAdd_int, pyIx_tuple, ix0_3, ix1_3, eq_rest_at, eq_rest_of, asB_bool, Bool.false_eq_true, if_false, pyNeg_int, ixl_3, ht, pyIs_none, isNone_oD, placeOf]
      cases numberOf row t <;> simp [oD]
    exact ⟨h, num _ (k' + 2) h⟩
theorem number_eq (row : List Int) (t : Tm) (h : t.depth ≤ 3) : m_number_of 14 t.d (row.map .int) = .ok (oD (numberOf row t)) := (place_number row t 12 (by omega)).2
theorem place_eq (row : List Int) (t : Tm) (h : t.depth ≤ 3) : m_place_of 14 t.d (row.map .int) = .ok (oD (placeOf row t)) := (place_number row t 13 (by omega)).1
end Br
namespace Br
open PySem PySem.Spec PyProof.Rows L2

/-! ### rows, plainly -/
theorem lineOk_of {n : Nat} (h : n ≤ 16777216) : lineOk n = true := by simp [lineOk, h]
theorem compG_map {α : Type} (g : α → D) (h : α → D) (f : D → R D) : ∀ ts : List α, (∀ t ∈ ts, f (g t) = .ok (h t)) → compG R.ok (fun _ => R.ok true) f (ts.map g) = .ok (ts.map h)
  | [], _ => rfl
  | t :: ts, e => by
    simp only [List.map_cons, compG, R.bind_ok, noexc_ok_eq, if_true, e t (by simp)]
    rw [compG_map g h f ts fun t ht => e t (by simp [ht])]
    rfl
theorem compD_map {α : Type} (g : α → D) (h : α → D) (f : D → R D) (ts : List α) (hl : ts.length ≤ 16777216) (e : ∀ t ∈ ts, f (g t) = .ok (h t)) : compD R.ok (fun _ => R.ok true) f (ts.map g) = .ok (ts.map h) := by
  unfold compD
  rw [List.length_map, lineOk_of hl, if_pos rfl, compG_map g h f ts e]
def nextOf (r : Rl) (row : List Int) : Option Int :=
  if none ∈ r.terms.map (numberOf row) then none else some (r.more + (r.terms.map fun t => (numberOf row t).getD 0).sum)
theorem canLay_oD : ∀ os : List (Option Int), PyData.canLayAll0 (os.map oD) = true
  | [] => rfl
  | none :: os => by rw [List.map_cons, PyData.canLayAll0, canLay_oD os]; rfl
  | some _ :: os => by rw [List.map_cons, PyData.canLayAll0, canLay_oD os]; rfl
theorem eqv_oD_none (o : Option Int) : PyData.eqv (oD o) .none = o.isNone := by cases o <;> simp [oD, PyData.eqv]
theorem in_none (os : List (Option Int)) : pyIn false .none (.list (os.map oD)) = some (.bool (decide (none ∈ os))) := by
  simp only [pyIn, shaped_none, canLay_oD, Bool.and_self, if_true, Bool.false_eq_true, if_false]
  congr 2
  induction os with
  | nil => rfl
  | cons o os ih =>
    rw [List.map_cons, List.any_cons, ih, eqv_oD_none]
    cases o <;> simp
theorem intsD_ints : ∀ ns : List Int, intsD (ns.map .int) = some ns
  | [] => rfl
  | n :: ns => by simp [intsD, intsD_ints ns]
theorem sum_ints (ns : List Int) : pySum [.list (ns.map .int)] = some (.int ns.sum) := by simp [pySum, intsD_ints]
theorem next_eq (r : Rl) (row : List Int) (h2 : r.terms.length ≤ 3) (h : ∀ t ∈ r.terms, t.depth ≤ 3) : m_next_number r.d (row.map .int) = .ok (oD (nextOf r row)) := by
  unfold m_next_number
  simp only [R.bind_ok, Rl.d, pyIx_tuple, ix2_3, ix1_3, opt_some, asSeq_tuple]
  rw [compD_map Tm.d (fun t => oD (numberOf row t)) _ r.terms (by omega) fun t ht => by
    simp only [R.bind_ok, F_number_of]
    exact number_eq row t (h t ht)]
  simp only [R.bind_ok, lstD_eq]
  rw [show (r.terms.map fun t => oD (numberOf row t)) = (r.terms.map (numberOf row)).map oD by simp, in_none]
  simp only [R.bind_ok, opt_some, asB_bool, decide_eq_true_eq]
  unfold nextOf
  by_cases hn : none ∈ r.terms.map (numberOf row)
  · simp only [hn, if_true, R.bind_ok, outD_rt]; rfl
  · simp only [hn, if_false]
    have e : (r.terms.map (numberOf row)).map oD = (r.terms.map fun t => (numberOf row t).getD 0).map .int := by
      rw [List.map_map, List.map_map]
      apply List.map_congr_left
      intro t ht
      simp only [Function.comp]
      cases ho : numberOf row t with
      | none => exact absurd (List.mem_map.mpr ⟨t, ht, ho⟩) hn
      | some i => rfl
    rw [e, sum_ints]
    simp only [R.bind_ok, opt_some, pyAdd_int, outD_rt]; rfl
def grow (r : Rl) (many : Nat) : Nat → List Int → List Int
  | 0, row => row
  | n + 1, row => if row.length < many then (match nextOf r row with
    | none => row
    | some x => grow r many n (row ++ [x])) else row
def rowOf (r : Rl) (many : Nat) : List Int := grow r many many (r.first.take many)
theorem row_eq (r : Rl) (many : Nat) (hm : many ≤ 2000) (h2 : r.terms.length ≤ 3) (h : ∀ t ∈ r.terms, t.depth ≤ 3) : m_row_of r.d (.int many) = .ok (.list ((rowOf r many).map .int)) := by
  unfold m_row_of
  simp only [R.bind_ok, asI_int, opt_some]
  simp only [Rl.d, pyIx_tuple, ix0_3, opt_some, R.bind_ok, pySl, asSeq_tuple]
  have ec : cutD (r.first.map PyData.int) none (some (many : Int)) = (r.first.take many).map .int := by
    unfold cutD
    rw [HT.sIx_none, HT.sIx_nat, List.drop_zero, List.length_map, Nat.sub_zero, ← List.map_take, List.take_eq_take_min, List.take_eq_take_min (i := many)]
    simp
  rw [ec]
  have key : ∀ (n j : Nat) (row : List Int), row.length ≤ many → many ≤ row.length + n → (whileM (fun (z8 : List D) => R.bind (R.bind (R.bind (R.bind (R.bind (R.ok z8) lstD) fun x11 => R.bind (R.ok []) fun x12 => R.ok (x11 :: x12)) fun x13 => R.opt (pyLen x13)) fun x14 => R.bind (R.ok (PyData.int many)) fun x15 => R.opt (pyLt x14 x15)) asB) (fun (z9 : List D) =>
 R.bind (R.bind (R.bind (R.ok r.d) fun x16 => R.bind (R.bind (R.ok z9) fun x18 => R.bind (R.ok []) fun x19 => R.ok (Slot.bor (Ob.lst x18) :: x19)) fun x17 => R.ok (Slot.dat x16 :: x17)) F_next_number) fun v20 =>
 R.bind (R.bind (R.bind (R.ok v20) fun x21 => R.bind (R.ok PyData.none) fun x22 => R.opt (pyIs x21 x22)) asB) fun t25 => if t25 then
 R.ok (Out.rt (PyData.list z9))
 else
 R.bind (R.ok v20) fun d23 => if lineOk (List.length z9 + 1) then (fun l24 =>
 R.ok (Out.nx l24)) (z9 ++ [d23]) else R.stuck) (n + 1 + j) (row.map .int)).bind (Out.cont (β := Unit) fun (z26 : List D) =>
 R.ok (Out.rt (PyData.list z26))) = .ok (.rt (.list ((grow r many n row).map .int))) := by
    intro n
    induction n with
    | zero =>
      intro j row h1 h3
      rw [show 0 + 1 + j = j + 1 by omega, whileM]
      simp only [R.bind_ok, lstD_eq, pyLen_list, opt_some, pyCmp_int, asB_bool, List.length_map]
      rw [if_neg (by simp; omega)]
      rfl
    | succ n ih =>
      intro j row h1 h3
      rw [show n + 1 + 1 + j = (n + 1 + j) + 1 by omega, whileM, grow]
      simp only [R.bind_ok, lstD_eq, pyLen_list, opt_some, pyCmp_int, asB_bool, List.length_map]
      by_cases hl : row.length < many
      · rw [if_pos (by simpa using hl), if_pos hl]
        have hn := next_eq r row h2 h
        simp only [F_next_number, hn, R.bind_ok, pyIs_none, opt_some, asB_bool, isNone_oD]
        cases hx : nextOf r row with
        | none => simp
        | some x =>
          simp only [Option.isNone_some, Bool.false_eq_true, if_false, lineOk_of (show row.length + 1 ≤ 16777216 by omega), if_true, R.bind_ok, oD]
          have := ih j (row ++ [x]) (by simp; omega) (by simp; omega)
          rw [List.map_append] at this
          exact this
      · rw [if_neg (by simpa using hl), if_neg hl]
        rfl
  have k2 := key many (2999 - many) (r.first.take many) (by simp; omega) (by omega)
  rw [show many + 1 + (2999 - many) = 3000 by omega] at k2
  unfold rowOf
  have k3 := congrArg (fun z => z.bind outD) k2
  exact k3
theorem is_whole_int (i lo hi : Int) : m_is_whole (.int i) (.int lo) (.int hi) = .ok (.bool (decide (lo ≤ i) && decide (i ≤ hi))) := by
  unfold m_is_whole
  simp only [R.bind_ok, isTy, asB_bool, if_true, Bool.not_false, pyCmp_int, opt_some]
  by_cases h : lo ≤ i <;> simp [h]
theorem look_many_eq (i : Int) (h : 1 ≤ i) (h' : i ≤ 200) : m_look_many (.int i) = .ok .none := by
  unfold m_look_many
  simp only [R.bind_ok, F_is_whole, is_whole_int, asB_bool, h, h', decide_true, Bool.and_self, Bool.not_true, Bool.false_eq_true, if_false]
  rfl
theorem look_place_eq (i : Int) (h : 1 ≤ i) (h' : i ≤ 1000000000) : m_look_place (.int i) = .ok .none := by
  unfold m_look_place
  simp only [R.bind_ok, F_is_whole, is_whole_int, asB_bool, h, h', decide_true, Bool.and_self, Bool.not_true, Bool.false_eq_true, if_false]
  rfl
theorem numbers_eq (r : Rl) (many : Nat) (hr : m_look_rule r.d = .ok .none) (h1 : 1 ≤ many) (hm : many ≤ 200) (h2 : r.terms.length ≤ 3) (h : ∀ t ∈ r.terms, t.depth ≤ 3) : m_numbers r.d (.int many) = .ok (.list ((rowOf r many).map .int)) := by
  unfold m_numbers
  simp only [R.bind_ok, F_look_rule, hr, F_look_many, look_many_eq many (by omega) (by omega), F_row_of, row_eq r many (by omega) h2 h, outD_rt]
theorem number_at_eq (r : Rl) (p : Nat) (hr : m_look_rule r.d = .ok .none) (h1 : 1 ≤ p) (hm : p ≤ 200) (h2 : r.terms.length ≤ 3) (h : ∀ t ∈ r.terms, t.depth ≤ 3) (hl : (rowOf r p).length = p) : m_number_at r.d (.int p) = .ok (.int ((rowOf r p)[p - 1]'(by omega))) := by
  unfold m_number_at
  simp only [R.bind_ok, F_look_rule, hr, F_look_many, look_many_eq p (by omega) (by omega), F_row_of, row_eq r p (by omega) h2 h, pyLen_list, opt_some, pyCmp_int, asB_bool, List.length_map, hl, pySub_int, pyIx_list, atI_map]
  rw [if_neg (by simp), atI_pos (by omega) (by omega)]
  simp only [Option.map_some, opt_some, R.bind_ok, outD_rt]
  congr 3
  omega
end Br
namespace Br
open PySem PySem.Spec PyProof.Rows L2

/-! ### a shorter row is the beginning of a longer one -/
theorem grow_pre (r : Rl) (many : Nat) : ∀ (n : Nat) (row : List Int), ∃ s, grow r many n row = row ++ s
  | 0, row => ⟨[], by simp [grow]⟩
  | n + 1, row => by
    rw [grow]
    split
    · cases nextOf r row with
      | none => exact ⟨[], by simp⟩
      | some x =>
        obtain ⟨s, e⟩ := grow_pre r many n (row ++ [x])
        exact ⟨x :: s, by simp [e]⟩
    · exact ⟨[], by simp⟩
theorem grow_len (r : Rl) (many : Nat) : ∀ (n : Nat) (row : List Int), row.length ≤ many → (grow r many n row).length ≤ many
  | 0, row, h => by simpa [grow] using h
  | n + 1, row, h => by
    rw [grow]
    split
    · cases nextOf r row with
      | none => exact h
      | some x => exact grow_len r many n _ (by simp; omega)
    · exact h
theorem rowOf_len (r : Rl) (many : Nat) : (rowOf r many).length ≤ many := grow_len r many many _ (by simp; omega)
theorem grow_take (r : Rl) (p many : Nat) (hp : p ≤ many) : ∀ (n n' : Nat) (row : List Int), row.length ≤ p → p ≤ row.length + n → many ≤ row.length + n' → grow r p n row = (grow r many n' row).take p
  | 0, n', row, h1, h2, h3 => by
    obtain ⟨s, e⟩ := grow_pre r many n' row
    rw [e, grow, List.take_append_of_le_length (by omega), List.take_of_length_le h1]
  | n + 1, n', row, h1, h2, h3 => by
    rw [grow]
    split
    · obtain ⟨m, rfl⟩ : ∃ m, n' = m + 1 := ⟨n' - 1, by omega⟩
      rw [grow, if_pos (by omega)]
      cases nextOf r row with
      | none => exact (List.take_of_length_le h1).symm
      | some x => exact grow_take r p many hp n m _ (by simp; omega) (by simp; omega) (by simp; omega)
    · obtain ⟨s, e⟩ := grow_pre r many n' row
      rw [e, List.take_append_of_le_length (by omega), List.take_of_length_le h1]
theorem rowOf_take (r : Rl) (p many : Nat) (hp : p ≤ many) : rowOf r p = (rowOf r many).take p := by
  unfold rowOf
  by_cases h : r.first.length ≤ p
  · rw [List.take_of_length_le h, List.take_of_length_le (show r.first.length ≤ many by omega)]
    exact grow_take r p many hp p many _ h (by omega) (by omega)
  · obtain ⟨s, e⟩ := grow_pre r many many (r.first.take many)
    obtain ⟨s', e'⟩ := grow_pre r p p (r.first.take p)
    have l := grow_len r p p (r.first.take p) (by simp; omega)
    rw [e'] at l ⊢
    rw [e, List.take_append_of_le_length (by simp; omega), List.take_take, Nat.min_eq_left hp]
    simp only [List.length_append, List.length_take] at l
    have : s' = [] := List.eq_nil_of_length_eq_zero (by omega)
    rw [this, List.append_nil]
theorem at_eq (r : Rl) (many p : Nat) (hr : m_look_rule r.d = .ok .none) (h1 : 1 ≤ p) (hm : p ≤ 200) (h2 : r.terms.length ≤ 3) (h : ∀ t ∈ r.terms, t.depth ≤ 3) (hl : p ≤ (rowOf r many).length) : m_number_at r.d (.int p) = .ok (.int ((rowOf r many)[p - 1]'(by omega))) := by
  have hpm : p ≤ many := Nat.le_trans hl (rowOf_len r many)
  have e := rowOf_take r p many hpm
  have l : (rowOf r p).length = p := by rw [e, List.length_take]; omega
  rw [number_at_eq r p hr h1 hm h2 h l]
  congr 2
  simp only [e, List.getElem_take]
/-! ### totals -/
def totFrom : Int → List Int → List Int
  | _, [] => []
  | a, x :: xs => (x + a) :: totFrom (x + a) xs
theorem tot_len : ∀ (xs : List Int) (a : Int), (totFrom a xs).length = xs.length
  | [], _ => rfl
  | x :: xs, a => by simp [totFrom, tot_len xs]
theorem tot_get : ∀ (xs : List Int) (a : Int) (i : Nat) (h : i < (totFrom a xs).length), (totFrom a xs)[i] = a + (xs.take (i + 1)).sum
  | [], _, i, h => by simp [totFrom] at h
  | x :: xs, a, 0, h => by simp [totFrom]; omega
  | x :: xs, a, i + 1, h => by
    simp only [totFrom, List.getElem_cons_succ, List.take_succ_cons, List.sum_cons]
    rw [tot_get xs (x + a) i]
    omega
theorem atI_last {α : Type} (l : List α) (x : α) : atI (l ++ [x]) (-1) = some x := by
  unfold atI ixN
  rw [if_neg (by decide), if_pos (by simp; omega), Option.bind_some]
  rw [show (-1 + ((l ++ [x]).length : Int)).toNat = l.length by simp; omega]
  simp
theorem totals_eq (r : Rl) (many : Nat) (hr : m_look_rule r.d = .ok .none) (h1 : 1 ≤ many) (hm : many ≤ 200) (h2 : r.terms.length ≤ 3) (h : ∀ t ∈ r.terms, t.depth ≤ 3) : m_totals r.d (.int many) = .ok (.list ((totFrom 0 (rowOf r many)).map .int)) := by
  unfold m_totals
  simp -implicitDefEqProofs only [R.bind_ok, F_numbers, numbers_eq r many hr h1 hm h2 h, asSeq_list]
  have key : ∀ (xs made : List Int) (a : Int), made.length + xs.length ≤ 1000 → (made = [] ∧ a = 0 ∨ ∃ l, made = l ++ [a]) → forM (fun (z8 : List D) (d9 : D) =>
 R.bind (R.bind (R.ok d9) fun x16 => R.bind (R.bind (R.bind (R.bind (R.bind (R.ok z8) lstD) fun x10 => R.bind (R.bind (R.ok []) lstD) fun x11 => R.opt (pyNe x10 x11)) asB) fun t15 => if t15 then R.bind (R.ok z8) fun x13 => R.bind (R.bind (R.ok (PyData.int 1)) fun x12 => R.opt (pyNeg x12)) fun x14 => R.opt (pyIx (PyData.list x13) x14) else R.ok (PyData.int 0)) fun x17 => R.opt (pyAdd x16 x17)) fun d18 => if lineOk (List.length z8 + 1) then (fun l19 =>
 R.ok (Out.nx l19)) (z8 ++ [d18]) else R.stuck) (xs.map .int) (made.map .int) = .ok (.nx ((made ++ totFrom a xs).map .int)) := by
    intro xs
    induction xs with
    | nil => intro made a _ _; simp [forM, totFrom]
    | cons x xs ih =>
      intro made a hl hc
      have e : pyNe (.list (made.map .int)) (.list []) = some (.bool (!(made == []))) := pyNe_ints made []
      have nx := ih (made ++ [x + a]) (x + a) (by simp at hl ⊢; omega) (.inr ⟨made, rfl⟩)
      have lk : lineOk (made.length + 1) = true := lineOk_of (by simp at hl; omega)
      rw [List.map_append] at nx
      rw [List.map_cons, forM]
      simp -implicitDefEqProofs only [R.bind_ok, lstD_eq, e, opt_some, asB_bool, List.length_map, lk, if_true, pyNeg_int]
      have e2 : (if (!made == []) = true then R.opt (pyIx (PyData.list (made.map .int)) (PyData.int (-1))) else R.ok (PyData.int 0)) = .ok (.int a) := by
        rcases hc with ⟨rfl, rfl⟩ | ⟨l, rfl⟩
        · rfl
        · rw [if_pos (by simp), pyIx_list, atI_map, atI_last]
          rfl
      rw [e2]
      simp -implicitDefEqProofs only [R.bind_ok, opt_some, pyAdd_int]
      have e3 : made ++ totFrom a (x :: xs) = made ++ [x + a] ++ totFrom (x + a) xs := by simp [totFrom]
      rw [e3]
      exact nx
  have k := key (rowOf r many) [] 0 (by have := rowOf_len r many; simp; omega) (.inl ⟨rfl, rfl⟩)
  have k2 := congrArg (fun z => R.bind (R.bind z (Out.cont (β := Unit) fun (z20 : List D) => R.ok (Out.rt (PyData.list z20)))) outD) k
  exact k2
theorem sum_between_eq (r : Rl) (many a b : Nat) (hr : m_look_rule r.d = .ok .none) (h2 : r.terms.length ≤ 3) (h : ∀ t ∈ r.terms, t.depth ≤ 3) (ha : 1 ≤ a) (hab : a ≤ b) (hb : b ≤ 200) (hl : b ≤ (rowOf r many).length) :
    m_sum_between r.d (.int a) (.int b) = .ok (.int (((rowOf r many).take b).drop (a - 1)).sum) := by
  have hpm : b ≤ many := Nat.le_trans hl (rowOf_len r many)
  unfold m_sum_between
  have em : pyMax2 [.int (a : Int), .int (b : Int)] = some (.int b) := by
    simp only [pyMax2]
    by_cases z : (a : Int) < b
    · simp [z]
    · have : a = b := by omega
      subst this
      simp
  simp -implicitDefEqProofs only [R.bind_ok, F_look_rule, hr, F_look_many, look_many_eq (a : Int) (by omega) (by omega), look_many_eq (b : Int) (by omega) (by omega), em, opt_some, F_number_at, at_eq r many b hr (by omega) hb h2 h hl, pyCmp_int, asB_bool]
  rw [if_neg (by simp; omega)]
  simp -implicitDefEqProofs only [R.bind_ok, F_numbers, numbers_eq r b hr (by omega) hb h2 h, pySub_int, opt_some, asI_int, pySl]
  have ec : cutD ((rowOf r b).map PyData.int) (some ((a : Int) - 1)) none = ((rowOf r b).drop (a - 1)).map .int := by
    unfold cutD
    rw [HT.sIx_none, show (a : Int) - 1 = ((a - 1 : Nat) : Int) by omega, HT.sIx_nat, List.length_map]
    have hlb : (rowOf r b).length = b := by rw [rowOf_take r b many hpm, List.length_take]; omega
    rw [Nat.min_eq_left (by omega), List.take_of_length_le (by simp), List.map_drop]
  rw [ec, sum_ints]
  simp -implicitDefEqProofs only [R.bind_ok, opt_some, outD_rt]
  rw [rowOf_take r b many hpm]
end Br
namespace Br
open PySem PySem.Spec PyProof.Rows L2

/-! ### terms and rules are looked at -/
theorem in_back : pyIn true (.str sBack) (.tuple [.str sBack, .str sRest]) = some (.bool false) := by kernel_rfl
theorem in_rest : pyIn true (.str sRest) (.tuple [.str sBack, .str sRest]) = some (.bool false) := by kernel_rfl
theorem F_whole (i lo hi : Int) : F_is_whole [.dat (.int i), .dat (.int lo), .dat (.int hi)] = .ok (.bool (decide (lo ≤ i) && decide (i ≤ hi))) := is_whole_int i lo hi
theorem depth_pos (t : Tm) : 1 ≤ t.depth := by cases t <;> simp [Tm.depth]
theorem term_in_eq : ∀ (t : Tm) (k d : Nat), t.ok = true → t.depth ≤ d → t.depth ≤ k → m_is_term_in k t.d (.int d) = .ok (.bool true) := by
  intro t
  induction t with
  | «at» c =>
    intro k d h1 h2 h3
    simp only [Tm.depth] at h2 h3
    simp only [Tm.ok, Bool.and_eq_true, decide_eq_true_eq] at h1
    obtain ⟨k, rfl⟩ : ∃ k', k = k' + 1 := ⟨k - 1, by omega⟩
    have hd : ((d : Int) == 0) = false := by simp; omega
    unfold m_is_term_in
    simp -implicitDefEqProofs only [Tm.d, R.bind_ok, pyEq_int, opt_some, asB_bool, hd, Bool.false_eq_true, if_false, isTy, Bool.not_true, pyLen_tuple, List.length_cons, List.length_nil, pyCmp_int, pyIx_tuple, ix0_2, ix1_2, eq_at_at, if_true]
    rw [if_neg (by decide)]
    simp -implicitDefEqProofs only [R.bind_ok, Bool.false_eq_true, if_false, asB_bool]
    rw [if_pos (by decide), F_whole]
    simp [h1]
  | of t ih =>
    intro k d h1 h2 h3
    simp only [Tm.depth] at h2 h3
    have h1' : t.ok = true := h1
    obtain ⟨k, rfl⟩ : ∃ k', k = k' + 1 := ⟨k - 1, by omega⟩
    have hd : ((d : Int) == 0) = false := by simp; omega
    have e := ih k (d - 1) h1' (by omega) (by omega)
    rw [show ((d - 1 : Nat) : Int) = (d : Int) - 1 by omega] at e
    unfold m_is_term_in
    simp -implicitDefEqProofs only [Tm.d, R.bind_ok, pyEq_int, opt_some, asB_bool, hd, Bool.false_eq_true, if_false, isTy, Bool.not_true, pyLen_tuple, List.length_cons, List.length_nil, pyCmp_int, pyIx_tuple, ix0_2, ix1_2, eq_of_at, eq_of_of, if_true, pySub_int, e]
    rw [if_neg (by decide)]
    simp -implicitDefEqProofs only [R.bind_ok, Bool.false_eq_true, if_false, asB_bool]
    rw [if_pos (by decide)]
    rfl
  | back c t ih =>
    intro k d h1 h2 h3
    simp only [Tm.depth] at h2 h3
    simp only [Tm.ok, Bool.and_eq_true, decide_eq_true_eq] at h1
    obtain ⟨k, rfl⟩ : ∃ k', k = k' + 1 := ⟨k - 1, by omega⟩
    have hd : ((d : Int) == 0) = false := by simp; omega
    have e := ih k (d - 1) h1.2 (by omega) (by omega)
    rw [show ((d - 1 : Nat) : Int) = (d : Int) - 1 by omega] at e
    unfold m_is_term_in
    simp -implicitDefEqProofs only [Tm.d, R.bind_ok, pyEq_int, opt_some, asB_bool, hd, Bool.false_eq_true, if_false, isTy, Bool.not_true, pyLen_tuple, List.length_cons, List.length_nil, pyCmp_int, pyIx_tuple, ix0_3, ix1_3, ix2_3, eq_back_at, eq_back_of, in_back, if_true, pySub_int, e, pyNe_int, F_whole, h1.1, decide_true, Bool.and_self]
    rw [if_neg (by decide)]
    simp -implicitDefEqProofs only [R.bind_ok, Bool.false_eq_true, if_false, asB_bool]
    rw [if_neg (by decide)]
    rfl
  | rest c t ih =>
    intro k d h1 h2 h3
    simp only [Tm.depth] at h2 h3
    simp only [Tm.ok, Bool.and_eq_true, decide_eq_true_eq] at h1
    obtain ⟨k, rfl⟩ : ∃ k', k = k' + 1 := ⟨k - 1, by omega⟩
    have hd : ((d : Int) == 0) = false := by simp; omega
    have e := ih k (d - 1) h1.2 (by omega) (by omega)
    rw [show ((d - 1 : Nat) : Int) = (d : Int) - 1 by omega] at e
    unfold m_is_term_in
    simp -implicitDefEqProofs only [Tm.d, R.bind_ok, pyEq_int, opt_some, asB_bool, hd, Bool.false_eq_true, if_false, isTy, Bool.not_true, pyLen_tuple, List.length_cons, List.length_nil, pyCmp_int, pyIx_tuple, ix0_3, ix1_3, ix2_3, eq_rest_at, eq_rest_of, in_rest, if_true, pySub_int, e, pyNe_int, F_whole, h1.1, decide_true, Bool.and_self]
    rw [if_neg (by decide)]
    simp -implicitDefEqProofs only [R.bind_ok, Bool.false_eq_true, if_false, asB_bool]
    rw [if_neg (by decide)]
    rfl
theorem is_term_eq (t : Tm) (h : t.ok = true) (h3 : t.depth ≤ 3) : m_is_term t.d = .ok (.bool true) := by
  unfold m_is_term
  have e := term_in_eq t 14 3 h h3 (by omega)
  simp -implicitDefEqProofs only [R.bind_ok, F_is_term_in]
  rw [show (PyData.int 3) = PyData.int ((3 : Nat) : Int) from rfl, e]
  rfl
theorem bools_true : ∀ n : Nat, boolsD (List.replicate n (.bool true)) = some (List.replicate n true)
  | 0 => rfl
  | n + 1 => by rw [List.replicate_succ, List.replicate_succ, boolsD, bools_true n]; rfl
theorem all_true (n : Nat) : pyAll [.list (List.replicate n (.bool true))] = some (.bool true) := by
  rw [pyAll, bools_true]
  simp
theorem is_rule_eq (r : Rl) (h : r.Ok) : m_is_rule r.d = .ok (.bool true) := by
  have f1 := h.f1; have f2 := h.f2; have t1 := h.t1; have t2 := h.t2
  unfold m_is_rule
  simp -implicitDefEqProofs only [Rl.d, R.bind_ok, isTy, asB_bool, Bool.not_true, Bool.false_eq_true, if_false, pyLen_tuple, List.length_cons, List.length_nil, opt_some, pyNe_int, pyIx_tuple, ix0_3, ix1_3, ix2_3, List.length_map, pyCmp_int, asSeq_tuple]
  rw [if_neg (by decide)]
  rw [compD_map PyData.int (fun _ => .bool true) _ r.first (by omega) fun x hx => by
    have := h.f3 x hx
    simp -implicitDefEqProofs only [R.bind_ok, F_whole, this.1, this.2, decide_true, Bool.and_self]]
  rw [compD_map Tm.d (fun _ => .bool true) _ r.terms (by omega) fun t ht => by
    have := h.t3 t ht
    simp -implicitDefEqProofs only [R.bind_ok, F_is_term, is_term_eq t this.1 this.2]]
  have a1 : decide ((1 : Int) ≤ (r.first.length : Int)) = true := decide_eq_true (by omega)
  have a2 : decide ((r.first.length : Int) ≤ 6) = true := decide_eq_true (by omega)
  have a3 : decide ((1 : Int) ≤ (r.terms.length : Int)) = true := decide_eq_true (by omega)
  have a4 : decide ((r.terms.length : Int) ≤ 3) = true := decide_eq_true (by omega)
  have b1 : decide ((0 : Int) ≤ r.more) = true := decide_eq_true h.m1
  have b2 : decide (r.more ≤ 9) = true := decide_eq_true h.m2
  simp -implicitDefEqProofs only [R.bind_ok, lstD_eq, List.map_const', all_true, opt_some, asB_bool, a1, a2, a3, a4, b1, b2, if_true, Bool.not_true, Bool.false_eq_true, if_false, F_whole, Bool.and_self, outD_rt]
theorem look_rule_eq (r : Rl) (h : r.Ok) : m_look_rule r.d = .ok .none := by
  unfold m_look_rule
  simp -implicitDefEqProofs only [R.bind_ok, F_is_rule, is_rule_eq r h, asB_bool, Bool.not_true, Bool.false_eq_true, if_false]
  rfl
theorem Rl.Ok.dep {r : Rl} (h : r.Ok) : ∀ t ∈ r.terms, t.depth ≤ 3 := fun t ht => (h.t3 t ht).2
/-! ### drawn terms and rules -/
def lawTm (ns : List Int) : Nat → Int → Tm
  | 0, _ => .at 1
  | d + 1, k => if pick ns k 7 < 2 ∨ d = 0 then .at (1 + pick ns (k + 1) 3) else if pick ns k 7 = 2 then .of (lawTm ns d (k + 3)) else if pick ns k 7 = 3 then .rest (pick ns (k + 2) 3) (lawTm ns d (k + 3)) else .back (pick ns (k + 2) 3) (lawTm ns d (k + 3))
theorem lawTm_ok (ns : List Int) : ∀ (d : Nat) (k : Int), (lawTm ns (d + 1) k).ok = true ∧ (lawTm ns (d + 1) k).depth ≤ d + 1 := by
  intro d
  induction d with
  | zero =>
    intro k
    have a := pick_nn ns (k + 1) 3 (by decide)
    have b := pick_lt ns (k + 1) 3 (by decide)
    rw [lawTm, if_pos (.inr rfl)]
    refine ⟨?_, by simp [Tm.depth]⟩
    simp only [Tm.ok, Bool.and_eq_true, decide_eq_true_eq]
    omega
  | succ d ih =>
    intro k
    have a := pick_nn ns (k + 1) 3 (by decide)
    have b := pick_lt ns (k + 1) 3 (by decide)
    have a' := pick_nn ns (k + 2) 3 (by decide)
    have b' := pick_lt ns (k + 2) 3 (by decide)
    have i := ih (k + 3)
    rw [lawTm]
    split
    · refine ⟨?_, by simp [Tm.depth]⟩
      simp only [Tm.ok, Bool.and_eq_true, decide_eq_true_eq]
      omega
    · split
      · exact ⟨i.1, by simp only [Tm.depth]; omega⟩
      · split
        · refine ⟨?_, by simp only [Tm.depth]; omega⟩
          simp only [Tm.ok, Bool.and_eq_true, decide_eq_true_eq]
          exact ⟨⟨by omega, by omega⟩, i.1⟩
        · refine ⟨?_, by simp only [Tm.depth]; omega⟩
          simp only [Tm.ok, Bool.and_eq_true, decide_eq_true_eq]
          exact ⟨⟨by omega, by omega⟩, i.1⟩
theorem lawTm_at {ns : List Int} {d : Nat} {k : Int} (h : pick ns k 7 < 2 ∨ d = 0) : lawTm ns (d + 1) k = .at (1 + pick ns (k + 1) 3) := by rw [lawTm, if_pos h]
theorem lawTm_of {ns : List Int} {d : Nat} {k : Int} (h : ¬ (pick ns k 7 < 2 ∨ d = 0)) (h2 : pick ns k 7 = 2) : lawTm ns (d + 1) k = .of (lawTm ns d (k + 3)) := by rw [lawTm, if_neg h, if_pos h2]
theorem lawTm_rest {ns : List Int} {d : Nat} {k : Int} (h : ¬ (pick ns k 7 < 2 ∨ d = 0)) (h2 : ¬ pick ns k 7 = 2) (h3 : pick ns k 7 = 3) : lawTm ns (d + 1) k = .rest (pick ns (k + 2) 3) (lawTm ns d (k + 3)) := by rw [lawTm, if_neg h, if_neg h2, if_pos h3]
theorem lawTm_back {ns : List Int} {d : Nat} {k : Int} (h : ¬ (pick ns k 7 < 2 ∨ d = 0)) (h2 : ¬ pick ns k 7 = 2) (h3 : ¬ pick ns k 7 = 3) : lawTm ns (d + 1) k = .back (pick ns (k + 2) 3) (lawTm ns d (k + 3)) := by rw [lawTm, if_neg h, if_neg h2, if_neg h3]
theorem law_term_eq (ns : List Int) : ∀ (d k : Nat) (a : Int), d ≤ k → 0 ≤ a → m__law_term (k + 1) (ns.map .int) (.int a) (.int ((d : Int) + 1)) = .ok (lawTm ns (d + 1) a).d := by
  intro d
  induction d with
  | zero =>
    intro k a _ ha
    unfold m__law_term
    simp -implicitDefEqProofs only [R.bind_ok, F_pick ns a 7 ha (by decide), pyCmp_int, opt_some, asB_bool, pyEq_int, pyAdd_int, F_pick ns (a + 1) 3 (by omega) (by decide)]
    rw [lawTm_at (.inr rfl)]
    by_cases w : pick ns a 7 < 2
    · simp -implicitDefEqProofs only [w, decide_true, if_true, R.bind_ok, outD_rt, Tm.d]
    · simp -implicitDefEqProofs only [w, decide_false, Bool.false_eq_true, if_false, R.bind_ok]
      rw [if_pos (by decide)]
      simp -implicitDefEqProofs only [R.bind_ok, outD_rt, Tm.d]
  | succ d ih =>
    intro k a hk ha
    obtain ⟨k, rfl⟩ : ∃ k', k = k' + 1 := ⟨k - 1, by omega⟩
    have i := ih k (a + 3) (by omega) (by omega)
    have hd : (((d + 1 : Nat) : Int) + 1 == 1) = false := by simp; omega
    unfold m__law_term
    simp -implicitDefEqProofs only [R.bind_ok, F_pick ns a 7 ha (by decide), pyCmp_int, opt_some, asB_bool, pyEq_int, pyAdd_int, F_pick ns (a + 1) 3 (by omega) (by decide), F_pick ns (a + 2) 3 (by omega) (by decide), hd, pySub_int]
    rw [show ((d + 1 : Nat) : Int) + 1 - 1 = (d : Int) + 1 by omega]
    simp -implicitDefEqProofs only [i, R.bind_ok]
    by_cases w : pick ns a 7 < 2
    · rw [lawTm_at (.inl w)]
      simp -implicitDefEqProofs only [w, decide_true, if_true, R.bind_ok, outD_rt, Tm.d]
    · have w0 : ¬ (pick ns a 7 < 2 ∨ d + 1 = 0) := by omega
      simp -implicitDefEqProofs only [w, decide_false, Bool.false_eq_true, if_false, R.bind_ok]
      by_cases w2 : pick ns a 7 = 2
      · rw [lawTm_of w0 w2]
        simp -implicitDefEqProofs only [w2, beq_self_eq_true, if_true, R.bind_ok, outD_rt, Tm.d]
      · have w2' : (pick ns a 7 == 2) = false := by simpa using w2
        simp -implicitDefEqProofs only [w2', Bool.false_eq_true, if_false, R.bind_ok]
        by_cases w3 : pick ns a 7 = 3
        · rw [lawTm_rest w0 w2 w3]
          simp -implicitDefEqProofs only [w3, beq_self_eq_true, if_true, R.bind_ok, outD_rt, Tm.d]
        · have w3' : (pick ns a 7 == 3) = false := by simpa using w3
          rw [lawTm_back w0 w2 w3]
          simp -implicitDefEqProofs only [w3', Bool.false_eq_true, if_false, R.bind_ok, outD_rt, Tm.d]
end Br
namespace Br
open PySem PySem.Spec PyProof.Rows L2

/-! ### drawn rules -/
def nr0 : Rl := ⟨[1, 1], 0, [.back 0 (.at 1), .back 0 (.at 2)]⟩
def nr1 : Rl := ⟨[1, 1], 0, [.back 0 (.at 1), .back 1 (.at 2)]⟩
def nr2 : Rl := ⟨[1, 1], 0, [.of (.at 1), .back 0 (.at 1)]⟩
def nr3 : Rl := ⟨[1], 0, [.rest 0 (.of (.at 1))]⟩
def nr4 : Rl := ⟨[1], 1, [.back 0 (.of (.at 1))]⟩
def nrOf (w : Int) : Rl := if w = 0 then nr0 else if w = 1 then nr1 else if w = 2 then nr2 else if w = 3 then nr3 else nr4
def lawFirst (ns : List Int) (k : Int) : List Int := (List.range (1 + pick ns (k + 9) 4).toNat).map fun i : Nat => 1 + pick ns (k + 1 + (0 + (i : Int))) 2
def lawTerms (ns : List Int) (k : Int) : List Tm := (List.range (1 + pick ns (k + 8) 2).toNat).map fun i : Nat => lawTm ns 3 (k + 11 + 10 * (0 + (i : Int)))
def lawRl (ns : List Int) (k : Int) : Rl :=
  if pick ns k 8 < 5 then (if pick ns (k + 10) 3 > 0 then nrOf (pick ns k 8) else ⟨lawFirst ns k, (nrOf (pick ns k 8)).more, (nrOf (pick ns k 8)).terms⟩)
  else ⟨lawFirst ns k, pick ns (k + 7) 4 / 3, lawTerms ns k⟩
theorem nr_ok (w : Int) : (nrOf w).Ok := by
  unfold nrOf
  split
  · exact ⟨by decide, by decide, by decide, by decide, by decide, by decide, by decide, by decide⟩
  · split
    · exact ⟨by decide, by decide, by decide, by decide, by decide, by decide, by decide, by decide⟩
    · split
      · exact ⟨by decide, by decide, by decide, by decide, by decide, by decide, by decide, by decide⟩
      · split
        · exact ⟨by decide, by decide, by decide, by decide, by decide, by decide, by decide, by decide⟩
        · exact ⟨by decide, by decide, by decide, by decide, by decide, by decide, by decide, by decide⟩
theorem first_ok (ns : List Int) (k : Int) : 1 ≤ (lawFirst ns k).length ∧ (lawFirst ns k).length ≤ 4 ∧ ∀ x ∈ lawFirst ns k, 1 ≤ x ∧ x ≤ 2 := by
  have a := pick_nn ns (k + 9) 4 (by decide)
  have b := pick_lt ns (k + 9) 4 (by decide)
  refine ⟨by simp [lawFirst]; omega, by simp [lawFirst]; omega, fun x hx => ?_⟩
  obtain ⟨i, _, rfl⟩ := List.mem_map.mp hx
  have c := pick_nn ns (k + 1 + (0 + (i : Int))) 2 (by decide)
  have d := pick_lt ns (k + 1 + (0 + (i : Int))) 2 (by decide)
  omega
theorem terms_ok (ns : List Int) (k : Int) : 1 ≤ (lawTerms ns k).length ∧ (lawTerms ns k).length ≤ 2 ∧ ∀ t ∈ lawTerms ns k, t.ok = true ∧ t.depth ≤ 3 := by
  have a := pick_nn ns (k + 8) 2 (by decide)
  have b := pick_lt ns (k + 8) 2 (by decide)
  refine ⟨by simp [lawTerms]; omega, by simp [lawTerms]; omega, fun x hx => ?_⟩
  obtain ⟨i, _, rfl⟩ := List.mem_map.mp hx
  exact lawTm_ok ns 2 _
theorem lawRl_ok (ns : List Int) (k : Int) : (lawRl ns k).Ok := by
  obtain ⟨f1, f2, f3⟩ := first_ok ns k
  unfold lawRl
  split
  · split
    · exact nr_ok _
    · have h := nr_ok (pick ns k 8)
      exact ⟨f1, Nat.le_trans f2 (by decide), fun x hx => by have := f3 x hx; omega, h.m1, h.m2, h.t1, h.t2, h.t3⟩
  · obtain ⟨t1, t2, t3⟩ := terms_ok ns k
    have a := pick_nn ns (k + 7) 4 (by decide)
    have b := pick_lt ns (k + 7) 4 (by decide)
    exact ⟨f1, Nat.le_trans f2 (by decide), fun x hx => by have := f3 x hx; omega, by show 0 ≤ pick ns (k + 7) 4 / 3; omega, by show pick ns (k + 7) 4 / 3 ≤ 9; omega, t1, Nat.le_trans t2 (by decide), t3⟩
theorem rng1_eq (b : Int) (h3 : -1000000 ≤ b) (h4 : b ≤ 1000000) : rng1 [.int b] = .ok ((List.range b.toNat).map fun i : Nat => .int (0 + (i : Int))) := by
  have r2 : rngOk b = true := by simp only [rngOk, Bool.and_eq_true, decide_eq_true_eq]; omega
  simp only [rng1, r2, if_true, rngD]
theorem nr_at (w : Int) (h : 0 ≤ w) (h' : w < 5) : atI [nr0.d, nr1.d, nr2.d, nr3.d, nr4.d] w = some (nrOf w).d := by
  have : w = 0 ∨ w = 1 ∨ w = 2 ∨ w = 3 ∨ w = 4 := by omega
  rcases this with rfl | rfl | rfl | rfl | rfl <;> rfl
theorem law_rule_eq (ns : List Int) (k : Int) (hk : 0 ≤ k) : m__law_rule (ns.map .int) (.int k) = .ok (lawRl ns k).d := by
  have a := pick_nn ns (k + 9) 4 (by decide)
  have b := pick_lt ns (k + 9) 4 (by decide)
  have a2 := pick_nn ns (k + 8) 2 (by decide)
  have b2 := pick_lt ns (k + 8) 2 (by decide)
  have w0 := pick_nn ns k 8 (by decide)
  unfold m__law_rule
  simp -implicitDefEqProofs only [R.bind_ok, F_pick ns k 8 hk (by decide), pyAdd_int, opt_some, F_pick ns (k + 9) 4 (by omega) (by decide), F_pick ns (k + 8) 2 (by omega) (by decide), F_pick ns (k + 10) 3 (by omega) (by decide), F_pick ns (k + 7) 4 (by omega) (by decide)]
  rw [rng1_eq (1 + pick ns (k + 9) 4) (by omega) (by omega)]
  simp -implicitDefEqProofs only [R.bind_ok]
  rw [compD_map (fun i : Nat => PyData.int (0 + (i : Int))) (fun i : Nat => .int (1 + pick ns (k + 1 + (0 + (i : Int))) 2)) _ (List.range (1 + pick ns (k + 9) 4).toNat) (by simp; omega) fun i hi => by
    simp -implicitDefEqProofs only [R.bind_ok, pyAdd_int, opt_some, F_pick ns (k + 1 + (0 + (i : Int))) 2 (by omega) (by decide)]]
  rw [show ((List.range (1 + pick ns (k + 9) 4).toNat).map fun i : Nat => PyData.int (1 + pick ns (k + 1 + (0 + (i : Int))) 2)) = (lawFirst ns k).map .int by simp [lawFirst]]
  simp -implicitDefEqProofs only [R.bind_ok, lstD_eq, asSeq_list, tupD_eq, pyCmp_int, opt_some, asB_bool]
  unfold lawRl
  by_cases w : pick ns k 8 < 5
  · rw [if_pos (by simpa using w), if_pos w]
    have ix := nr_at (pick ns k 8) w0 w
    have ix2 : pyIx (.list [nr0.d, nr1.d, nr2.d, nr3.d, nr4.d]) (.int (pick ns k 8)) = some (nrOf (pick ns k 8)).d := ix
    rw [if_pos (lineOk_of ?h1), if_pos (lineOk_of ?h2), if_pos (lineOk_of ?h3), if_pos (lineOk_of ?h4)]
    case h1 => exact (by decide : 2 ≤ 16777216)
    case h2 => exact (by decide : 3 ≤ 16777216)
    case h3 => exact (by decide : 4 ≤ 16777216)
    case h4 => exact (by decide : 5 ≤ 16777216)
    show R.bind (R.bind (R.opt (pyIx (.list [nr0.d, nr1.d, nr2.d, nr3.d, nr4.d]) (.int (pick ns k 8)))) fun v50 => R.bind (if decide (pick ns (k + 10) 3 > 0) = true then R.ok v50 else R.bind (R.bind (R.bind (R.opt (pyIx v50 (.int 1))) fun x67 => R.bind (R.bind (R.opt (pyIx v50 (.int 2))) fun x65 => R.ok [x65]) fun x68 => R.ok (x67 :: x68)) fun x70 => R.ok (PyData.tuple ((lawFirst ns k).map .int) :: x70)) fun x71 => R.ok (PyData.tuple x71)) fun x73 => R.ok (Out.rt x73)) outD = _
    rw [ix2]
    simp -implicitDefEqProofs only [R.bind_ok, opt_some]
    by_cases q : pick ns (k + 10) 3 > 0
    · rw [if_pos (by simpa using q), if_pos q]
      rfl
    · rw [if_neg (by simpa using q), if_neg q]
      rfl
  · rw [if_neg (by simpa using w), if_neg w]
    rw [rng1_eq (1 + pick ns (k + 8) 2) (by omega) (by omega)]
    simp -implicitDefEqProofs only [R.bind_ok]
    rw [compD_map (fun i : Nat => PyData.int (0 + (i : Int))) (fun i : Nat => (lawTm ns 3 (k + 11 + 10 * (0 + (i : Int)))).d) _ (List.range (1 + pick ns (k + 8) 2).toNat) (by simp; omega) fun i hi => by
      rw [pyMul_l (by decide) (by decide)]
      simp -implicitDefEqProofs only [R.bind_ok, pyAdd_int, opt_some, F__law_term]
      exact law_term_eq ns 2 13 _ (by omega) (by omega)]
    rw [show ((List.range (1 + pick ns (k + 8) 2).toNat).map fun i : Nat => (lawTm ns 3 (k + 11 + 10 * (0 + (i : Int)))).d) = (lawTerms ns k).map Tm.d by simp [lawTerms]]
    rw [pyDiv_int (by decide) (by decide)]
    simp -implicitDefEqProofs only [R.bind_ok, lstD_eq, asSeq_list, tupD_eq, opt_some, outD_rt]
    rfl
theorem F_law_rule (ns : List Int) (k : Int) (hk : 0 ≤ k) : F__law_rule [.bor (.lst (ns.map .int)), .dat (.int k)] = .ok (lawRl ns k).d := law_rule_eq ns k hk
end Br
namespace Br
open PySem PySem.Spec PyProof.Rows L2

/-! ### loops of mirrors, by the state at each turn -/
section
variable {α : Type} {f : α → D → R (Out α)} {a b : α} {v : D}
theorem for_at {ds : List D} (st : Nat → α) (j : Nat) (hj : j ≤ ds.length) (hs : ∀ i (h : i < j), f (st i) (ds[i]'(by omega)) = .ok (.nx (st (i + 1)))) : forM f ds (st 0) = forM f (ds.drop j) (st j) := by
  induction j with
  | zero => simp
  | succ j ih =>
    rw [ih (by omega) fun i h => hs i (by omega), List.drop_eq_getElem_cons (show j < ds.length by omega), forM, hs j (by omega)]
    rfl
theorem for_nx {ds : List D} (st : Nat → α) (h0 : a = st 0) (hs : ∀ i (h : i < ds.length), f (st i) ds[i] = .ok (.nx (st (i + 1)))) : forM f ds a = .ok (.nx (st ds.length)) := by
  subst h0
  rw [for_at st ds.length (Nat.le_refl _) hs, List.drop_length]
  rfl
theorem for_rt {ds : List D} (st : Nat → α) (j : Nat) (hj : j < ds.length) (h0 : a = st 0) (hs : ∀ i (h : i < j), f (st i) (ds[i]'(by omega)) = .ok (.nx (st (i + 1)))) (he : f (st j) ds[j] = .ok (.rt v)) : forM f ds a = .ok (.rt v) := by
  subst h0
  rw [for_at st j (by omega) hs, List.drop_eq_getElem_cons hj, forM, he]
  rfl
theorem for_bk {ds : List D} (st : Nat → α) (j : Nat) (hj : j < ds.length) (h0 : a = st 0) (hs : ∀ i (h : i < j), f (st i) (ds[i]'(by omega)) = .ok (.nx (st (i + 1)))) (he : f (st j) ds[j] = .ok (.bk b)) : forM f ds a = .ok (.nx b) := by
  subst h0
  rw [for_at st j (by omega) hs, List.drop_eq_getElem_cons hj, forM, he]
  rfl
/-- over a range -/
theorem for_rng {lo : Int} {n : Nat} (st : Nat → α) (h0 : a = st 0) (hs : ∀ i, i < n → f (st i) (.int (lo + (i : Int))) = .ok (.nx (st (i + 1)))) : forM f ((List.range n).map fun i : Nat => .int (lo + (i : Int))) a = .ok (.nx (st n)) := by
  have := for_nx (f := f) (ds := (List.range n).map fun i : Nat => .int (lo + (i : Int))) st h0 (fun i h => by
    simp only [List.length_map, List.length_range] at h
    simpa using hs i h)
  simpa using this
theorem for_rng_rt {lo : Int} {n : Nat} (st : Nat → α) (j : Nat) (hj : j < n) (h0 : a = st 0) (hs : ∀ i, i < j → f (st i) (.int (lo + (i : Int))) = .ok (.nx (st (i + 1)))) (he : f (st j) (.int (lo + (j : Int))) = .ok (.rt v)) : forM f ((List.range n).map fun i : Nat => .int (lo + (i : Int))) a = .ok (.rt v) :=
  for_rt (f := f) (ds := (List.range n).map fun i : Nat => .int (lo + (i : Int))) st j (by simpa using hj) h0 (fun i h => by simpa using hs i h) (by simpa using he)
theorem for_rng_bk {lo : Int} {n : Nat} (st : Nat → α) (j : Nat) (hj : j < n) (h0 : a = st 0) (hs : ∀ i, i < j → f (st i) (.int (lo + (i : Int))) = .ok (.nx (st (i + 1)))) (he : f (st j) (.int (lo + (j : Int))) = .ok (.bk b)) : forM f ((List.range n).map fun i : Nat => .int (lo + (i : Int))) a = .ok (.nx b) :=
  for_bk (f := f) (ds := (List.range n).map fun i : Nat => .int (lo + (i : Int))) st j (by simpa using hj) h0 (fun i h => by simpa using hs i h) (by simpa using he)
/-- over a list that is a picture of xs -/
theorem for_map {β : Type} {g : β → D} {xs : List β} (st : Nat → α) (h0 : a = st 0) (hs : ∀ i (h : i < xs.length), f (st i) (g xs[i]) = .ok (.nx (st (i + 1)))) : forM f (xs.map g) a = .ok (.nx (st xs.length)) := by
  have := for_nx (f := f) (ds := xs.map g) st h0 (fun i h => by
    simp only [List.length_map] at h
    simpa using hs i h)
  simpa using this
theorem for_map_rt {β : Type} {g : β → D} {xs : List β} (st : Nat → α) (j : Nat) (hj : j < xs.length) (h0 : a = st 0) (hs : ∀ i (h : i < j), f (st i) (g (xs[i]'(by omega))) = .ok (.nx (st (i + 1)))) (he : f (st j) (g xs[j]) = .ok (.rt v)) : forM f (xs.map g) a = .ok (.rt v) :=
  for_rt (f := f) (ds := xs.map g) st j (by simpa using hj) h0 (fun i h => by simpa using hs i h) (by simpa using he)
end
section
variable {α : Type} {c : α → R Bool} {f : α → R (Out α)} {a : α} {v : D}
theorem while_at (st : Nat → α) (n k : Nat) (hc : ∀ i, i < n → c (st i) = .ok true) (hb : ∀ i, i < n → f (st i) = .ok (.nx (st (i + 1)))) : whileM c f (n + k) (st 0) = whileM c f k (st n) := by
  induction n generalizing k with
  | zero => simp
  | succ n ih =>
    rw [show n + 1 + k = n + (k + 1) by omega, ih (k + 1) (fun i h => hc i (by omega)) (fun i h => hb i (by omega)), whileM, hc n (by omega), hb n (by omega)]
    rfl
theorem while_nx {fuel : Nat} (st : Nat → α) (n : Nat) (h0 : a = st 0) (hf : n < fuel) (hc : ∀ i, i < n → c (st i) = .ok true) (hb : ∀ i, i < n → f (st i) = .ok (.nx (st (i + 1)))) (hn : c (st n) = .ok false) : whileM c f fuel a = .ok (.nx (st n)) := by
  subst h0
  obtain ⟨k, rfl⟩ : ∃ k, fuel = n + (k + 1) := ⟨fuel - n - 1, by omega⟩
  rw [while_at st n (k + 1) hc hb, whileM, hn]
  rfl
theorem while_rt {fuel : Nat} (st : Nat → α) (n : Nat) (h0 : a = st 0) (hf : n < fuel) (hc : ∀ i, i < n → c (st i) = .ok true) (hb : ∀ i, i < n → f (st i) = .ok (.nx (st (i + 1)))) (hn : c (st n) = .ok true) (he : f (st n) = .ok (.rt v)) : whileM c f fuel a = .ok (.rt v) := by
  subst h0
  obtain ⟨k, rfl⟩ : ∃ k, fuel = n + (k + 1) := ⟨fuel - n - 1, by omega⟩
  rw [while_at st n (k + 1) hc hb, whileM, hn, R.bind_ok, if_pos rfl, he]
  rfl
end
/-! ### comprehensions with a test -/
theorem compG_filter {α : Type} (g : α → D) (h : α → D) (p : α → Bool) (t : D → R Bool) (f : D → R D) : ∀ ts : List α, (∀ x ∈ ts, t (g x) = .ok (p x)) → (∀ x ∈ ts, p x = true → f (g x) = .ok (h x)) → compG R.ok t f (ts.map g) = .ok ((ts.filter p).map h)
  | [], _, _ => rfl
  | x :: ts, e, e' => by
    have ih := compG_filter g h p t f ts (fun y hy => e y (by simp [hy])) fun y hy => e' y (by simp [hy])
    simp only [List.map_cons, compG, R.bind_ok, noexc_ok_eq, e x (by simp), ih, List.filter_cons]
    cases hp : p x with
    | true => simp [e' x (by simp) hp]
    | false => simp
theorem compD_filter {α : Type} (g : α → D) (h : α → D) (p : α → Bool) (t : D → R Bool) (f : D → R D) (ts : List α) (hl : ts.length ≤ 16777216) (e : ∀ x ∈ ts, t (g x) = .ok (p x)) (e' : ∀ x ∈ ts, p x = true → f (g x) = .ok (h x)) : compD R.ok t f (ts.map g) = .ok ((ts.filter p).map h) := by
  unfold compD
  rw [List.length_map, lineOk_of hl, if_pos rfl, compG_filter g h p t f ts e e']
/-- two names -/
theorem compG_map2 {α : Type} (g1 g2 : α → D) (h : α → D) (f : D × D → R D) : ∀ ts : List α, (∀ x ∈ ts, f (g1 x, g2 x) = .ok (h x)) → compG open2 (fun _ => R.ok true) f (ts.map fun x => .tuple [g1 x, g2 x]) = .ok (ts.map h)
  | [], _ => rfl
  | x :: ts, e => by
    have ih := compG_map2 g1 g2 h f ts fun y hy => e y (by simp [hy])
    simp only [List.map_cons, compG, R.bind_ok, noexc_ok_eq, open2, e x (by simp), ih, if_true]
theorem compD_map2 {α : Type} (g1 g2 : α → D) (h : α → D) (f : D × D → R D) (ts : List α) (hl : ts.length ≤ 16777216) (e : ∀ x ∈ ts, f (g1 x, g2 x) = .ok (h x)) : compD open2 (fun _ => R.ok true) f (ts.map fun x => .tuple [g1 x, g2 x]) = .ok (ts.map h) := by
  unfold compD
  rw [List.length_map, lineOk_of hl, if_pos rfl, compG_map2 g1 g2 h f ts e]
theorem compG_filter2 {α : Type} (g1 g2 : α → D) (h : α → D) (p : α → Bool) (t : D × D → R Bool) (f : D × D → R D) : ∀ ts : List α, (∀ x ∈ ts, t (g1 x, g2 x) = .ok (p x)) → (∀ x ∈ ts, p x = true → f (g1 x, g2 x) = .ok (h x)) → compG open2 t f (ts.map fun x => .tuple [g1 x, g2 x]) = .ok ((ts.filter p).map h)
  | [], _, _ => rfl
  | x :: ts, e, e' => by
    have ih := compG_filter2 g1 g2 h p t f ts (fun y hy => e y (by simp [hy])) fun y hy => e' y (by simp [hy])
    simp only [List.map_cons, compG, R.bind_ok, noexc_ok_eq, open2, e x (by simp), ih, List.filter_cons]
    cases hp : p x with
    | true => simp [e' x (by simp) hp]
    | false => simp
theorem compD_filter2 {α : Type} (g1 g2 : α → D) (h : α → D) (p : α → Bool) (t : D × D → R Bool) (f : D × D → R D) (ts : List α) (hl : ts.length ≤ 16777216) (e : ∀ x ∈ ts, t (g1 x, g2 x) = .ok (p x)) (e' : ∀ x ∈ ts, p x = true → f (g1 x, g2 x) = .ok (h x)) : compD open2 t f (ts.map fun x => .tuple [g1 x, g2 x]) = .ok ((ts.filter p).map h) := by
  unfold compD
  rw [List.length_map, lineOk_of hl, if_pos rfl, compG_filter2 g1 g2 h p t f ts e e']
theorem rng2_eq (a b : Int) (h1 : -1000000 ≤ a) (h2 : a ≤ 1000000) (h3 : -1000000 ≤ b) (h4 : b ≤ 1000000) : rng2 [.int a, .int b] = .ok ((List.range (b - a).toNat).map fun i : Nat => .int (a + (i : Int))) := by
  have r1 : rngOk a = true := by simp only [rngOk, Bool.and_eq_true, decide_eq_true_eq]; omega
  have r2 : rngOk b = true := by simp only [rngOk, Bool.and_eq_true, decide_eq_true_eq]; omega
  simp only [rng2, r1, r2, Bool.and_self, if_true, rngD]

/-! ### what a row is -/
structure IsRow (r : Rl) (many : Nat) (row : List Int) : Prop where
  le : row.length ≤ many
  low : min r.first.length many ≤ row.length
  fst : ∀ i (h : i < row.length) (h' : i < r.first.length), row[i] = r.first[i]
  nxt : ∀ i (h : i < row.length), r.first.length ≤ i → nextOf r (row.take i) = some row[i]
  stop : row.length < many → nextOf r row = none
theorem grow_spec (r : Rl) (many : Nat) : ∀ (n : Nat) (row : List Int), row.length ≤ many → many ≤ row.length + n → ∃ s, grow r many n row = row ++ s ∧ (∀ i (h : i < (row ++ s).length), row.length ≤ i → nextOf r ((row ++ s).take i) = some (row ++ s)[i]) ∧ ((row ++ s).length < many → nextOf r (row ++ s) = none)
  | 0, row, h1, h2 => ⟨[], by simp [grow], fun i h hi => by simp at h; omega, fun h => by simp at h; omega⟩
  | n + 1, row, h1, h2 => by
    rw [grow]
    split
    · rename_i hl
      cases hx : nextOf r row with
      | none => exact ⟨[], by simp, fun i h hi => by simp at h; omega, fun h => by simpa using hx⟩
      | some x =>
        obtain ⟨s, e1, e2, e3⟩ := grow_spec r many n (row ++ [x]) (by simp; omega) (by simp; omega)
        have ea : row ++ x :: s = row ++ [x] ++ s := by simp
        refine ⟨x :: s, by rw [ea]; exact e1, fun i h hi => ?_, fun h => by rw [ea] at h ⊢; exact e3 h⟩
        by_cases hi2 : i = row.length
        · subst hi2
          simp [hx]
        · simp only [ea] at h ⊢
          exact e2 i h (by simp; omega)
    · exact ⟨[], by simp, fun i h hi => by simp at h; omega, fun h => by simp at h; omega⟩
theorem isRow (r : Rl) (many : Nat) : IsRow r many (rowOf r many) := by
  have le := rowOf_len r many
  obtain ⟨s, e1, e2, e3⟩ := grow_spec r many many (r.first.take many) (by simp; omega) (by simp)
  have e : rowOf r many = r.first.take many ++ s := e1
  have ls : (r.first.take many ++ s).length ≤ many := by rw [← e]; exact le
  rw [e]
  by_cases hm : many ≤ r.first.length
  · have hs : s = [] := by
      simp only [List.length_append, List.length_take] at ls
      exact List.eq_nil_of_length_eq_zero (by omega)
    subst hs
    refine ⟨by simp; omega, by simp; omega, fun i h h' => by simp, fun i h h' => ?_, fun h => ?_⟩
    · simp at h; omega
    · simp at h; omega
  · refine ⟨ls, by simp; omega, fun i h h' => ?_, fun i h h' => e2 i h (by simp; omega), e3⟩
    rw [List.getElem_append_left (by simp; omega)]
    simp
/-- and nothing else is one -/
theorem IsRow.unique {r : Rl} {many : Nat} {row row' : List Int} (h : IsRow r many row) (h' : IsRow r many row') : row = row' := by
  have key : ∀ n, row.take n = row'.take n := by
    intro n
    induction n with
    | zero => simp
    | succ n ih =>
      have a1 := h.low; have a2 := h'.low; have b1 := h.le; have b2 := h'.le
      by_cases c1 : n < row.length
      · by_cases c2 : n < row'.length
        · rw [List.take_add_one, List.take_add_one, ih, List.getElem?_eq_getElem c1, List.getElem?_eq_getElem c2]
          by_cases cf : n < r.first.length
          · rw [h.fst n c1 cf, h'.fst n c2 cf]
          · have x1 := h.nxt n c1 (by omega)
            have x2 := h'.nxt n c2 (by omega)
            rw [ih, x2] at x1
            rw [Option.some.inj x1]
        · exfalso
          have e : row'.take n = row' := List.take_of_length_le (by omega)
          have st := h'.stop (by omega)
          have x1 := h.nxt n c1 (by omega)
          rw [ih, e, st] at x1
          cases x1
      · by_cases c2 : n < row'.length
        · exfalso
          have e : row.take n = row := List.take_of_length_le (by omega)
          have st := h.stop (by omega)
          have x1 := h'.nxt n c2 (by omega)
          rw [← ih, e, st] at x1
          cases x1
        · rw [List.take_of_length_le (by omega), List.take_of_length_le (by omega)]
          rw [List.take_of_length_le (by omega), List.take_of_length_le (by omega)] at ih
          exact ih
  have := key (row.length + row'.length)
  rwa [List.take_of_length_le (by omega), List.take_of_length_le (by omega)] at this

/-! ### books: numbers by places -/
def bookOf (row : List Int) : List (Key × D) := (List.range row.length).map fun i : Nat => (.inl ((i : Int) + 1), .int (row.getD i 0))
theorem val_book (row : List Int) (p : Int) : valD (bookOf row) (.inl p) = (getAt row p).map .int := by
  have gen : ∀ n, n ≤ row.length → (((List.range n).map fun i : Nat => ((Sum.inl ((i : Int) + 1) : Key), PyData.int (row.getD i 0))).find? fun kv => decide (kv.1 = Sum.inl p)).map (·.2) = if 1 ≤ p ∧ p ≤ n then some (.int (row.getD (p - 1).toNat 0)) else none := by
    intro n
    induction n with
    | zero => intro _; rw [if_neg (by omega)]; rfl
    | succ n ih =>
      intro hn
      rw [List.range_succ, List.map_append, List.find?_append, Option.map_or, ih (by omega)]
      by_cases h : 1 ≤ p ∧ p ≤ n
      · rw [if_pos h, if_pos (by omega)]; rfl
      · rw [if_neg h, Option.none_or]
        by_cases h2 : p = n + 1
        · subst h2
          rw [if_pos (by omega)]
          simp
        · rw [if_neg (by omega)]
          simp
          omega
  have := gen row.length (Nat.le_refl _)
  unfold valD bookOf getAt
  rw [this]
  by_cases h : 1 ≤ p ∧ p ≤ row.length
  · rw [if_pos h, if_pos h, List.getElem?_eq_getElem (by omega), List.getD_eq_getElem?_getD, List.getElem?_eq_getElem (by omega)]
    rfl
  · rw [if_neg h, if_neg h]
    rfl
theorem oD_map (o : Option Int) : (o.map PyData.int).getD .none = oD o := by cases o <;> rfl
theorem get1_book (row : List Int) (p : Int) : obGet1 (.dic (bookOf row)) (.int p) = some (oD (getAt row p)) := by
  simp only [obGet1, keyD, Option.map_some, val_book, oD_map]
theorem get_book (row : List Int) (p : Int) (h1 : 1 ≤ p) (h2 : p ≤ row.length) : obGet (.dic (bookOf row)) (.int p) = some (.int (row.getD (p - 1).toNat 0)) := by
  simp only [obGet, keyD, Option.bind_some, val_book, getAt]
  rw [if_pos ⟨h1, h2⟩, List.getElem?_eq_getElem (by omega), List.getD_eq_getElem?_getD, List.getElem?_eq_getElem (by omega)]
  rfl
theorem bookOf_len (row : List Int) : (bookOf row).length = row.length := by simp [bookOf]
theorem put_book (row : List Int) (x : Int) (h : row.length ≤ 1000) : dPut (bookOf row) (.int ((row.length : Int) + 1)) (.int x) = .ok (bookOf (row ++ [x])) := by
  unfold dPut
  simp only [keyD]
  rw [if_pos (lineOk_of (by rw [bookOf_len]; omega))]
  unfold putD
  have n : ((bookOf row).any fun kv => decide (kv.1 = Sum.inl ((row.length : Int) + 1))) = false := by
    rw [List.any_eq_false]
    intro kv hk
    obtain ⟨i, hi, rfl⟩ := List.mem_map.mp hk
    have := List.mem_range.mp hi
    simp
    omega
  rw [n]
  simp only [Bool.false_eq_true, if_false]
  congr 1
  unfold bookOf
  rw [List.length_append, List.length_singleton, List.range_succ, List.map_append]
  congr 1
  · apply List.map_congr_left
    intro i hi
    have := List.mem_range.mp hi
    rw [List.getD_eq_getElem?_getD, List.getD_eq_getElem?_getD, List.getElem?_append_left (by omega)]
  · simp
theorem keys_book (row : List Int) : intKeys (bookOf row) = some ((List.range row.length).map fun i : Nat => (i : Int) + 1) := by
  unfold bookOf
  generalize List.range row.length = l
  induction l with
  | nil => rfl
  | cons a l ih => simp only [List.map_cons, intKeys, ih, Option.map_some]
theorem pairwise_up (n : Nat) (lo : Int) : ((List.range n).map fun i : Nat => (i : Int) + lo).Pairwise (· ≤ ·) := by
  rw [List.pairwise_map]
  exact List.Pairwise.imp (fun {a b} (h : a < b) => by omega) List.pairwise_lt_range
theorem sort_up (n : Nat) (lo : Int) : sortI ((List.range n).map fun i : Nat => (i : Int) + lo) = (List.range n).map fun i : Nat => (i : Int) + lo :=
  sorted_unique (sortI_perm _) (sortI_sorted _) (pairwise_up n lo)
theorem law_number_eq (row : List Int) : ∀ (t : Tm) (k : Nat), t.depth ≤ k → m__law_number k t.d (bookOf row) (.int ((row.length : Int) + 1)) = .ok (.tuple [oD (numberOf row t), oD (placeOf row t)]) := by
  intro t
  induction t with
  | «at» c =>
    intro k hk
    obtain ⟨k, rfl⟩ : ∃ k', k = k' + 1 := ⟨k - 1, by simp [Tm.depth] at hk; omega⟩
    unfold m__law_number
    simp -implicitDefEqProofs only [Tm.d, R.bind_ok, pyIx_tuple, ix0_2, ix1_2, opt_some, eq_at_at, asB_bool, if_true, pySub_int, get1_book, outD_rt]
    rfl
  | of t ih =>
    intro k hk
    simp only [Tm.depth] at hk
    obtain ⟨k, rfl⟩ : ∃ k', k = k' + 1 := ⟨k - 1, by omega⟩
    unfold m__law_number
    simp -implicitDefEqProofs only [Tm.d, R.bind_ok, pyIx_tuple, ix0_2, ixl_2, opt_some, eq_of_at, eq_of_rest, eq_of_of, asB_bool, if_true, Bool.false_eq_true, if_false, pyNeg_int, ih k (by omega), pyIs_none, isNone_oD, numberOf, placeOf]
    cases numberOf row t with
    | none => simp [oD]
    | some v => simp [oD, get1_book]
  | back c t ih =>
    intro k hk
    simp only [Tm.depth] at hk
    obtain ⟨k, rfl⟩ : ∃ k', k = k' + 1 := ⟨k - 1, by omega⟩
    unfold m__law_number
    simp -implicitDefEqProofs only [Tm.d, R.bind_ok, pyIx_tuple, ix0_3, ix1_3, ix0_2, ixl_3, opt_some, eq_back_at, eq_back_rest, eq_back_of, asB_bool, if_true, Bool.false_eq_true, if_false, pyNeg_int, ih k (by omega), pyIs_none, isNone_oD, numberOf, placeOf]
    cases numberOf row t with
    | none => simp [oD]
    | some v => simp [oD, get1_book]
  | rest c t ih =>
    intro k hk
    simp only [Tm.depth] at hk
    obtain ⟨k, rfl⟩ : ∃ k', k = k' + 1 := ⟨k - 1, by omega⟩
    unfold m__law_number
    simp -implicitDefEqProofs only [Tm.d, R.bind_ok, pyIx_tuple, ix0_3, ix1_3, ix0_2, ixl_3, opt_some, eq_rest_at, eq_rest_rest, asB_bool, if_true, Bool.false_eq_true, if_false, pyNeg_int, ih k (by omega), pyIs_none, isNone_oD, numberOf, placeOf]
    cases numberOf row t with
    | none => simp [oD]
    | some v => simp [oD]
end Br
namespace Br
open PySem PySem.Spec PyProof.Rows L2
theorem ix_ints (l : List Int) (i : Int) (h1 : 0 ≤ i) (h2 : i < l.length) : pyIx (.list (l.map .int)) (.int i) = some (.int (l.getD i.toNat 0)) := by
  rw [pyIx_list, atI_map, atI_pos h1 h2, List.getD_eq_getElem?_getD, List.getElem?_eq_getElem (by omega)]
  rfl
theorem ix_intsT (l : List Int) (i : Int) (h1 : 0 ≤ i) (h2 : i < l.length) : pyIx (.tuple (l.map .int)) (.int i) = some (.int (l.getD i.toNat 0)) := by
  rw [pyIx_tuple, atI_map, atI_pos h1 h2, List.getD_eq_getElem?_getD, List.getElem?_eq_getElem (by omega)]
  rfl
theorem getD_lt {l : List Int} {i : Nat} (h : i < l.length) : l.getD i 0 = l[i] := by
  rw [List.getD_eq_getElem?_getD, List.getElem?_eq_getElem h]
  rfl
theorem take_succ_getD {l : List Int} {i : Nat} (h : i < l.length) : l.take (i + 1) = l.take i ++ [l.getD i 0] := by
  rw [List.take_add_one, List.getElem?_eq_getElem h, getD_lt h]
  rfl
/-- what the terms tell behind a row -/
theorem terms_sum (r : Rl) (row : List Int) (hn : none ∉ r.terms.map (numberOf row)) : (r.terms.map (numberOf row)).map oD = (r.terms.map fun t => (numberOf row t).getD 0).map .int := by
  rw [List.map_map, List.map_map]
  apply List.map_congr_left
  intro t ht
  simp only [Function.comp]
  cases ho : numberOf row t with
  | none => exact absurd (List.mem_map.mpr ⟨t, ht, ho⟩) hn
  | some i => rfl
theorem law_terms (r : Rl) (row : List Int) (h2 : r.terms.length ≤ 3) (h : ∀ t ∈ r.terms, t.depth ≤ 3) (f : D → R D) (hf : ∀ t : Tm, t.depth ≤ 3 → f t.d = .ok (oD (numberOf row t))) : compD R.ok (fun _ => R.ok true) f (r.terms.map Tm.d) = .ok ((r.terms.map (numberOf row)).map oD) := by
  rw [compD_map Tm.d (fun t => oD (numberOf row t)) f r.terms (by omega) fun t ht => hf t (h t ht)]
  rw [List.map_map]; rfl
theorem law_row_eq (r : Rl) (many : Nat) (hm : many < 64) (h2 : r.terms.length ≤ 3) (h : ∀ t ∈ r.terms, t.depth ≤ 3) : m__law_row r.d (.int many) = .ok (.list ((rowOf r many).map .int)) := by
  have S := isRow r many
  generalize hrow : rowOf r many = row at S ⊢
  have le := S.le
  unfold m__law_row
  simp -implicitDefEqProofs only [R.bind_ok, pyAdd_int, opt_some, Rl.d, pyIx_tuple, ix0_3, ix1_3, ix2_3, pyLen_tuple, pyCmp_int, asB_bool, List.length_map, pySub_int, asSeq_tuple]
  rw [rng2_eq 1 ((many : Int) + 1) (by omega) (by omega) (by omega) (by omega)]
  simp -implicitDefEqProofs only [R.bind_ok, show ((many : Int) + 1 - 1).toNat = many by omega]
  have ft : ∀ (i : Nat), i ≤ row.length → ∀ t : Tm, t.depth ≤ 3 → R.bind (F__law_number 14 [Slot.dat t.d, Slot.bor (Ob.dic (bookOf (row.take i))), Slot.dat (PyData.int (1 + (i : Int)))]) (fun x37 => R.opt (pyIx x37 (PyData.int 0))) = .ok (oD (numberOf (row.take i) t)) := by
    intro i hi t ht
    have e := law_number_eq (row.take i) t 14 (by omega)
    rw [List.length_take, Nat.min_eq_left hi, show ((i : Int) + 1) = 1 + (i : Int) by omega] at e
    simp -implicitDefEqProofs only [F__law_number, e, R.bind_ok, pyIx_tuple, ix0_2, opt_some]
  have fin : R.bind (R.bind (R.bind (R.bind (sortKeys (bookOf row)) lstD) asSeq) (compD R.ok (fun _ => R.ok true) (fun d55 => R.opt (obGet (Ob.dic (bookOf row)) d55)))) lstD = .ok (.list (row.map .int)) := by
    unfold sortKeys
    rw [keys_book]
    dsimp only
    rw [if_pos (by simp; omega), sort_up]
    simp -implicitDefEqProofs only [R.bind_ok, lstD_eq, asSeq_list, List.map_map]
    rw [compD_map (PyData.int ∘ fun i : Nat => (i : Int) + 1) (fun i : Nat => .int (row.getD i 0)) _ _ (by simp; omega) fun i hi => by
      have := List.mem_range.mp hi
      simp only [Function.comp]
      rw [get_book row _ (by omega) (by omega), show ((i : Int) + 1 - 1).toNat = i by omega]
      rfl]
    simp -implicitDefEqProofs only [R.bind_ok, lstD_eq]
    congr 2
    apply List.ext_getElem (by simp)
    intro i a b
    simp at a
    simp [getD_lt a, a]
  by_cases hl : row.length = many
  · rw [for_rng (st := fun i => bookOf (row.take i)) (h0 := by simp; rfl) (hs := ?hs)]
    simp -implicitDefEqProofs only [R.bind_ok, opt_some, asB_bool, lstD_eq, tupD_eq, asI_int, asLst_list, asSeq_list, asSeq_tuple, outD_rt, outD_nx, cont_nx, cont_rt, meet_nx, meet_rt, pyAdd_int, pySub_int, pyNeg_int, pyCmp_int, pyLen_list, pyLen_tuple, isNone_none, isNone_int, isNone_oD, pyIs_none, pyIsNot_none, pyEq_int, pyNe_int, List.length_map, Bool.false_eq_true, if_false, if_true, Bool.not_true, Bool.not_false, open2l, open3l, open2, open3, noexc_ok_eq, List.take_of_length_le (show row.length ≤ many by omega), fin]
    case hs =>
      intro i hi
      have hi' : i < row.length := by omega
      have lt : (row.take i).length = i := by simp; omega
      have px := put_book (row.take i) (row.getD i 0) (by omega)
      rw [lt, ← take_succ_getD hi', show (i : Int) + 1 = 1 + (i : Int) by omega] at px
      by_cases hf : 1 + (i : Int) ≤ r.first.length
      · have ef := S.fst i hi' (by omega)
        rw [← getD_lt hi', ← getD_lt (show i < r.first.length by omega)] at ef
        have ix := ix_intsT r.first (1 + (i : Int) - 1) (by omega) (by omega)
        rw [show (1 + (i : Int) - 1).toNat = i by omega, ← ef] at ix
        simp -implicitDefEqProofs only [R.bind_ok, opt_some, asB_bool, lstD_eq, tupD_eq, asI_int, asLst_list, asSeq_list, asSeq_tuple, outD_rt, outD_nx, cont_nx, cont_rt, meet_nx, meet_rt, pyAdd_int, pySub_int, pyNeg_int, pyCmp_int, pyLen_list, pyLen_tuple, isNone_none, isNone_int, isNone_oD, pyIs_none, pyIsNot_none, pyEq_int, pyNe_int, List.length_map, Bool.false_eq_true, if_false, if_true, Bool.not_true, Bool.not_false, open2l, open3l, open2, open3, noexc_ok_eq, hf, decide_true, ix, px]
      · have nx := S.nxt i hi' (by omega)
        have nn : none ∉ r.terms.map (numberOf (row.take i)) := fun hn => by
          unfold nextOf at nx
          rw [if_pos hn] at nx
          cases nx
        simp -implicitDefEqProofs only [R.bind_ok, opt_some, asB_bool, lstD_eq, tupD_eq, asI_int, asLst_list, asSeq_list, asSeq_tuple, outD_rt, outD_nx, cont_nx, cont_rt, meet_nx, meet_rt, pyAdd_int, pySub_int, pyNeg_int, pyCmp_int, pyLen_list, pyLen_tuple, isNone_none, isNone_int, isNone_oD, pyIs_none, pyIsNot_none, pyEq_int, pyNe_int, List.length_map, Bool.false_eq_true, if_false, if_true, Bool.not_true, Bool.not_false, open2l, open3l, open2, open3, noexc_ok_eq, hf, decide_false]
        rw [law_terms r (row.take i) h2 h _ (ft i (by omega))]
        simp -implicitDefEqProofs only [R.bind_ok, opt_some, asB_bool, lstD_eq, tupD_eq, asI_int, asLst_list, asSeq_list, asSeq_tuple, outD_rt, outD_nx, cont_nx, cont_rt, meet_nx, meet_rt, pyAdd_int, pySub_int, pyNeg_int, pyCmp_int, pyLen_list, pyLen_tuple, isNone_none, isNone_int, isNone_oD, pyIs_none, pyIsNot_none, pyEq_int, pyNe_int, List.length_map, Bool.false_eq_true, if_false, if_true, Bool.not_true, Bool.not_false, open2l, open3l, open2, open3, noexc_ok_eq, in_none, decide_eq_true_eq, nn]
        rw [terms_sum r _ nn, sum_ints]
        unfold nextOf at nx
        rw [if_neg nn] at nx
        rw [← getD_lt hi'] at nx
        simp -implicitDefEqProofs only [R.bind_ok, opt_some, asB_bool, lstD_eq, tupD_eq, asI_int, asLst_list, asSeq_list, asSeq_tuple, outD_rt, outD_nx, cont_nx, cont_rt, meet_nx, meet_rt, pyAdd_int, pySub_int, pyNeg_int, pyCmp_int, pyLen_list, pyLen_tuple, isNone_none, isNone_int, isNone_oD, pyIs_none, pyIsNot_none, pyEq_int, pyNe_int, List.length_map, Bool.false_eq_true, if_false, if_true, Bool.not_true, Bool.not_false, open2l, open3l, open2, open3, noexc_ok_eq, Option.some.inj nx, px]
  · have st := S.stop (by omega)
    have low := S.low
    rw [for_rng_bk (st := fun i => bookOf (row.take i)) row.length (by omega) (h0 := by simp; rfl) (b := bookOf row) (hs := ?hs) (he := ?he)]
    simp -implicitDefEqProofs only [R.bind_ok, opt_some, asB_bool, lstD_eq, tupD_eq, asI_int, asLst_list, asSeq_list, asSeq_tuple, outD_rt, outD_nx, cont_nx, cont_rt, meet_nx, meet_rt, pyAdd_int, pySub_int, pyNeg_int, pyCmp_int, pyLen_list, pyLen_tuple, isNone_none, isNone_int, isNone_oD, pyIs_none, pyIsNot_none, pyEq_int, pyNe_int, List.length_map, Bool.false_eq_true, if_false, if_true, Bool.not_true, Bool.not_false, open2l, open3l, open2, open3, noexc_ok_eq, fin]
    case hs =>
      intro i hi
      have hi' : i < row.length := by omega
      have lt : (row.take i).length = i := by simp; omega
      have px := put_book (row.take i) (row.getD i 0) (by omega)
      rw [lt, ← take_succ_getD hi', show (i : Int) + 1 = 1 + (i : Int) by omega] at px
      by_cases hf : 1 + (i : Int) ≤ r.first.length
      · have ef := S.fst i hi' (by omega)
        rw [← getD_lt hi', ← getD_lt (show i < r.first.length by omega)] at ef
        have ix := ix_intsT r.first (1 + (i : Int) - 1) (by omega) (by omega)
        rw [show (1 + (i : Int) - 1).toNat = i by omega, ← ef] at ix
        simp -implicitDefEqProofs only [R.bind_ok, opt_some, asB_bool, lstD_eq, tupD_eq, asI_int, asLst_list, asSeq_list, asSeq_tuple, outD_rt, outD_nx, cont_nx, cont_rt, meet_nx, meet_rt, pyAdd_int, pySub_int, pyNeg_int, pyCmp_int, pyLen_list, pyLen_tuple, isNone_none, isNone_int, isNone_oD, pyIs_none, pyIsNot_none, pyEq_int, pyNe_int, List.length_map, Bool.false_eq_true, if_false, if_true, Bool.not_true, Bool.not_false, open2l, open3l, open2, open3, noexc_ok_eq, hf, decide_true, ix, px]
      · have nx := S.nxt i hi' (by omega)
        have nn : none ∉ r.terms.map (numberOf (row.take i)) := fun hn => by
          unfold nextOf at nx
          rw [if_pos hn] at nx
          cases nx
        simp -implicitDefEqProofs only [R.bind_ok, opt_some, asB_bool, lstD_eq, tupD_eq, asI_int, asLst_list, asSeq_list, asSeq_tuple, outD_rt, outD_nx, cont_nx, cont_rt, meet_nx, meet_rt, pyAdd_int, pySub_int, pyNeg_int, pyCmp_int, pyLen_list, pyLen_tuple, isNone_none, isNone_int, isNone_oD, pyIs_none, pyIsNot_none, pyEq_int, pyNe_int, List.length_map, Bool.false_eq_true, if_false, if_true, Bool.not_true, Bool.not_false, open2l, open3l, open2, open3, noexc_ok_eq, hf, decide_false]
        rw [law_terms r (row.take i) h2 h _ (ft i (by omega))]
        simp -implicitDefEqProofs only [R.bind_ok, opt_some, asB_bool, lstD_eq, tupD_eq, asI_int, asLst_list, asSeq_list, asSeq_tuple, outD_rt, outD_nx, cont_nx, cont_rt, meet_nx, meet_rt, pyAdd_int, pySub_int, pyNeg_int, pyCmp_int, pyLen_list, pyLen_tuple, isNone_none, isNone_int, isNone_oD, pyIs_none, pyIsNot_none, pyEq_int, pyNe_int, List.length_map, Bool.false_eq_true, if_false, if_true, Bool.not_true, Bool.not_false, open2l, open3l, open2, open3, noexc_ok_eq, in_none, decide_eq_true_eq, nn]
        rw [terms_sum r _ nn, sum_ints]
        unfold nextOf at nx
        rw [if_neg nn] at nx
        rw [← getD_lt hi'] at nx
        simp -implicitDefEqProofs only [R.bind_ok, opt_some, asB_bool, lstD_eq, tupD_eq, asI_int, asLst_list, asSeq_list, asSeq_tuple, outD_rt, outD_nx, cont_nx, cont_rt, meet_nx, meet_rt, pyAdd_int, pySub_int, pyNeg_int, pyCmp_int, pyLen_list, pyLen_tuple, isNone_none, isNone_int, isNone_oD, pyIs_none, pyIsNot_none, pyEq_int, pyNe_int, List.length_map, Bool.false_eq_true, if_false, if_true, Bool.not_true, Bool.not_false, open2l, open3l, open2, open3, noexc_ok_eq, Option.some.inj nx, px]
    case he =>
      have nn : none ∈ r.terms.map (numberOf row) := by
        unfold nextOf at st
        by_cases hn : none ∈ r.terms.map (numberOf row)
        · exact hn
        · rw [if_neg hn] at st; cases st
      have ft2 := ft row.length (Nat.le_refl _)
      rw [List.take_length] at ft2
      have hf : ¬ (1 + (row.length : Int) ≤ r.first.length) := by omega
      simp -implicitDefEqProofs only [R.bind_ok, opt_some, asB_bool, lstD_eq, tupD_eq, asI_int, asLst_list, asSeq_list, asSeq_tuple, outD_rt, outD_nx, cont_nx, cont_rt, meet_nx, meet_rt, pyAdd_int, pySub_int, pyNeg_int, pyCmp_int, pyLen_list, pyLen_tuple, isNone_none, isNone_int, isNone_oD, pyIs_none, pyIsNot_none, pyEq_int, pyNe_int, List.length_map, Bool.false_eq_true, if_false, if_true, Bool.not_true, Bool.not_false, open2l, open3l, open2, open3, noexc_ok_eq, List.take_length, hf, decide_false]
      rw [law_terms r row h2 h _ ft2]
      simp -implicitDefEqProofs only [R.bind_ok, opt_some, asB_bool, lstD_eq, tupD_eq, asI_int, asLst_list, asSeq_list, asSeq_tuple, outD_rt, outD_nx, cont_nx, cont_rt, meet_nx, meet_rt, pyAdd_int, pySub_int, pyNeg_int, pyCmp_int, pyLen_list, pyLen_tuple, isNone_none, isNone_int, isNone_oD, pyIs_none, pyIsNot_none, pyEq_int, pyNe_int, List.length_map, Bool.false_eq_true, if_false, if_true, Bool.not_true, Bool.not_false, open2l, open3l, open2, open3, noexc_ok_eq, in_none, decide_eq_true_eq, nn]
theorem F_law_row (r : Rl) (many : Nat) (hm : many < 64) (h2 : r.terms.length ≤ 3) (h : ∀ t ∈ r.terms, t.depth ≤ 3) : F__law_row [.dat r.d, .dat (.int many)] = .ok (.list ((rowOf r many).map .int)) := law_row_eq r many hm h2 h
end Br
namespace Br
open PySem PySem.Spec PyProof.Rows L2
/-! ### slices, plainly -/
section
variable {α β : Type}
theorem take_min_len (l : List α) (n : Nat) : l.take (min n l.length) = l.take n := by rw [List.take_eq_take_min, List.take_eq_take_min (i := n)]; congr 1; omega
theorem drop_min_len (l : List α) (n : Nat) : l.drop (min n l.length) = l.drop n := by
  by_cases h : n ≤ l.length
  · rw [Nat.min_eq_left h]
  · rw [Nat.min_eq_right (by omega), List.drop_length, List.drop_eq_nil_of_le (by omega)]
theorem cut_ft (l : List α) (a b : Nat) : cutD l (some (a : Int)) (some (b : Int)) = (l.take b).drop a := by
  unfold cutD
  rw [HT.sIx_nat, HT.sIx_nat, drop_min_len]
  rw [List.drop_take]
  by_cases h : a ≤ l.length
  · by_cases h2 : b ≤ l.length
    · rw [Nat.min_eq_left h, Nat.min_eq_left h2]
    · rw [Nat.min_eq_left h, Nat.min_eq_right (by omega), List.take_of_length_le (by simp), List.take_of_length_le (by simp; omega)]
  · rw [List.drop_eq_nil_of_le (show l.length ≤ a by omega)]
    simp
theorem cut_f (l : List α) (a : Nat) : cutD l (some (a : Int)) none = l.drop a := by
  unfold cutD
  rw [HT.sIx_nat, HT.sIx_none, drop_min_len]
  exact List.take_of_length_le (by simp; omega)
theorem cut_t (l : List α) (b : Nat) : cutD l none (some (b : Int)) = l.take b := by
  unfold cutD
  rw [HT.sIx_nat, HT.sIx_none, List.drop_zero, Nat.sub_zero, take_min_len]
theorem cut_last (l : List α) : cutD l none (some (-1)) = l.dropLast := by
  unfold cutD
  rw [HT.sIx_none, List.drop_zero, Nat.sub_zero, List.dropLast_eq_take]
  congr 1
  show (if (-1 : Int) < 0 then (-1 + (l.length : Int)).toNat else min (-1 : Int).toNat l.length) = l.length - 1
  rw [if_pos (by decide)]
  omega
end
theorem take_drop1 (l : List Int) (i : Nat) : (l.take (i + 1)).drop i = l[i]?.toList := by
  rw [List.drop_take, show i + 1 - i = 1 by omega]
  by_cases h : i < l.length
  · rw [List.drop_eq_getElem_cons h, List.getElem?_eq_getElem h, List.take_succ_cons, List.take_zero]
    rfl
  · rw [List.drop_eq_nil_of_le (by omega), List.getElem?_eq_none (by omega)]
    rfl
theorem toList_beq (a b : Option Int) : (a.toList == b.toList) = decide (a = b) := by
  cases a <;> cases b <;> simp
  rename_i x y
  by_cases h : x = y <;> simp [h]
theorem atI_neg1 {α : Type} (l : List α) (h : l ≠ []) : atI l (-1) = l[l.length - 1]? := by
  have : 0 < l.length := List.length_pos_iff.mpr h
  unfold atI ixN
  rw [if_neg (by decide), if_pos (by omega), Option.bind_some]
  congr 1
  omega
theorem ix_last (l : List Int) (h : l ≠ []) : pyIx (.list (l.map .int)) (.int (-1)) = some (.int (l.getD (l.length - 1) 0)) := by
  have : 0 < l.length := List.length_pos_iff.mpr h
  rw [pyIx_list, atI_neg1 _ (by simpa using h), List.length_map, List.getElem?_map, List.getElem?_eq_getElem (by omega), getD_lt (by omega)]
  rfl
theorem ix_lastT (l : List Int) (h : l ≠ []) : pyIx (.tuple (l.map .int)) (.int (-1)) = some (.int (l.getD (l.length - 1) 0)) := by
  have : 0 < l.length := List.length_pos_iff.mpr h
  rw [pyIx_tuple, atI_neg1 _ (by simpa using h), List.length_map, List.getElem?_map, List.getElem?_eq_getElem (by omega), getD_lt (by omega)]
  rfl
theorem row_pos (r : Rl) (h : r.Ok) (many : Nat) (h1 : 1 ≤ many) : 1 ≤ (rowOf r many).length := by
  have := (isRow r many).low
  have := h.f1
  omega
/-! ### asked of a rule that is one -/
theorem numbers_ok {r : Rl} (h : r.Ok) (many : Nat) (h1 : 1 ≤ many) (hm : many ≤ 200) : F_numbers [.dat r.d, .dat (.int many)] = .ok (.list ((rowOf r many).map .int)) := numbers_eq r many (look_rule_eq r h) h1 hm h.t2 h.dep
theorem row_ok {r : Rl} (h : r.Ok) (many : Nat) (hm : many ≤ 2000) : F_row_of [.dat r.d, .dat (.int many)] = .ok (.list ((rowOf r many).map .int)) := row_eq r many hm h.t2 h.dep
theorem look_ok {r : Rl} (h : r.Ok) : F_look_rule [.dat r.d] = .ok .none := look_rule_eq r h
theorem many_ok (i : Int) (h : 1 ≤ i) (h' : i ≤ 200) : F_look_many [.dat (.int i)] = .ok .none := look_many_eq i h h'
theorem totals_ok {r : Rl} (h : r.Ok) (many : Nat) (h1 : 1 ≤ many) (hm : many ≤ 200) : F_totals [.dat r.d, .dat (.int many)] = .ok (.list ((totFrom 0 (rowOf r many)).map .int)) := totals_eq r many (look_rule_eq r h) h1 hm h.t2 h.dep
theorem number_at_ok {r : Rl} (h : r.Ok) (many p : Nat) (h1 : 1 ≤ p) (hm : p ≤ 200) (hl : p ≤ (rowOf r many).length) : F_number_at [.dat r.d, .dat (.int p)] = .ok (.int ((rowOf r many).getD (p - 1) 0)) := by
  have := at_eq r many p (look_rule_eq r h) h1 hm h.t2 h.dep hl
  rw [← getD_lt (show p - 1 < (rowOf r many).length by omega)] at this
  exact this
theorem end_of_eq (r : Rl) (h : r.Ok) (many : Nat) (h1 : 1 ≤ many) (hm : many ≤ 200) : m_end_of r.d (.int many) = .ok (if (rowOf r many).length < many then .int (rowOf r many).length else .none) := by
  unfold m_end_of
  simp -implicitDefEqProofs only [R.bind_ok, opt_some, asB_bool, lstD_eq, tupD_eq, asI_int, asLst_list, asSeq_list, asSeq_tuple, outD_rt, outD_nx, cont_nx, cont_rt, meet_nx, meet_rt, pyAdd_int, pySub_int, pyNeg_int, pyCmp_int, pyLen_list, pyLen_tuple, isNone_none, isNone_int, isNone_oD, pyIs_none, pyIsNot_none, pyEq_int, pyNe_int, List.length_map, Bool.false_eq_true, if_false, if_true, Bool.not_true, Bool.not_false, open2l, open3l, open2, open3, noexc_ok_eq, numbers_ok h many h1 hm]
  by_cases q : (rowOf r many).length < many
  · rw [if_pos q]
    have : decide (((rowOf r many).length : Int) < many) = true := by simp; exact q
    simp -implicitDefEqProofs only [R.bind_ok, opt_some, asB_bool, lstD_eq, tupD_eq, asI_int, asLst_list, asSeq_list, asSeq_tuple, outD_rt, outD_nx, cont_nx, cont_rt, meet_nx, meet_rt, pyAdd_int, pySub_int, pyNeg_int, pyCmp_int, pyLen_list, pyLen_tuple, isNone_none, isNone_int, isNone_oD, pyIs_none, pyIsNot_none, pyEq_int, pyNe_int, List.length_map, Bool.false_eq_true, if_false, if_true, Bool.not_true, Bool.not_false, open2l, open3l, open2, open3, noexc_ok_eq, this]
  · rw [if_neg q]
    have : decide (((rowOf r many).length : Int) < many) = false := by simp; omega
    simp -implicitDefEqProofs only [R.bind_ok, opt_some, asB_bool, lstD_eq, tupD_eq, asI_int, asLst_list, asSeq_list, asSeq_tuple, outD_rt, outD_nx, cont_nx, cont_rt, meet_nx, meet_rt, pyAdd_int, pySub_int, pyNeg_int, pyCmp_int, pyLen_list, pyLen_tuple, isNone_none, isNone_int, isNone_oD, pyIs_none, pyIsNot_none, pyEq_int, pyNe_int, List.length_map, Bool.false_eq_true, if_false, if_true, Bool.not_true, Bool.not_false, open2l, open3l, open2, open3, noexc_ok_eq, this]
end Br
namespace Br
/-- two ways that meet -/
theorem ite_meet {α β γ : Type} {c : Bool} {A B : R (Out α)} {k : α → R (Out β)} {f : Out β → R γ} {res : R γ} (P : α → Prop) (hA : c = true → ∃ a, A = .ok (.nx a) ∧ P a) (hB : c = false → ∃ a, B = .ok (.nx a) ∧ P a) (hk : ∀ a, P a → (k a).bind f = res) :
    ((if c = true then A else B).bind (Out.meet k)).bind f = res := by
  cases hc : c with
  | true => obtain ⟨a, e, p⟩ := hA hc; rw [if_pos rfl, e]; exact hk a p
  | false => obtain ⟨a, e, p⟩ := hB hc; rw [if_neg Bool.false_ne_true, e]; exact hk a p
theorem bind_ex {α β : Type} {m : R α} {k : α → R β} {res : R β} (P : α → Prop) (h : ∃ a, m = .ok a ∧ P a) (hk : ∀ a, P a → k a = res) : m.bind k = res := by
  obtain ⟨a, e, p⟩ := h
  rw [e]
  exact hk a p
end Br
namespace Br
/-- a test that does not strike -/
theorem pass {α β : Type} {X : R Bool} {A B : R α} {f : α → R β} {res : R β} (h : X = .ok false) (hk : B.bind f = res) : (X.bind fun t => if t = true then A else B).bind f = res := by
  rw [h]
  exact hk
theorem struck {α β : Type} {X : R Bool} {A B : R α} {f : α → R β} {res : R β} (h : X = .ok true) (hk : A.bind f = res) : (X.bind fun t => if t = true then A else B).bind f = res := by
  rw [h]
  exact hk
theorem bindv {α β γ : Type} {m : R α} {k : α → R β} {f : β → R γ} {res : R γ} (a : α) (h : m = .ok a) (hk : (k a).bind f = res) : (m.bind k).bind f = res := by
  rw [h]
  exact hk
/-- a loop ahead of what follows -/
theorem loopv {α β γ : Type} {m : R (Out α)} {k : α → R (Out β)} {f : Out β → R γ} {res : R γ} (a : α) (h : m = .ok (.nx a)) (hk : (k a).bind f = res) : (m.bind (Out.cont k)).bind f = res := by
  rw [h]
  exact hk
theorem pySl_tl (ds : List D) : pySl (.tuple ds) none (some (-1)) = some (.tuple ds.dropLast) := by
  simp only [pySl, cut_last]
theorem pySl_t (ds : List D) (b : Nat) : pySl (.list ds) none (some (b : Int)) = some (.list (ds.take b)) := by
  simp only [pySl, cut_t]
theorem pySl_f (ds : List D) (a : Nat) : pySl (.list ds) (some (a : Int)) none = some (.list (ds.drop a)) := by
  simp only [pySl, cut_f]
theorem pySl_ft (ds : List D) (a b : Nat) : pySl (.list ds) (some (a : Int)) (some (b : Int)) = some (.list ((ds.take b).drop a)) := by
  simp only [pySl, cut_ft]
end Br
/-! data that are alike -/
namespace Br
open PySem PySem.Spec PyProof.Rows L2
theorem pyNe_self (d : D) (h : SeqAt.shaped d = true) : pyNe d d = some (.bool false) := by
  simp [pyNe, h, SeqAt.eqv_refl d (SeqAt.canLay_of_shaped h)]
theorem pyEq_self (d : D) (h : SeqAt.shaped d = true) : pyEq d d = some (.bool true) := by
  simp [pyEq, h, SeqAt.eqv_refl d (SeqAt.canLay_of_shaped h)]
theorem shaped_of (d : D) (h1 : d.canLay0 = true) (h2 : d.depth ≤ 64) : SeqAt.shaped d = true := by simp [SeqAt.shaped, h1, h2]
mutual
/-- no truth values, no dicts: such data are alike just if they are the same -/
def noB : D → Bool
  | .none => true
  | .bool _ => false
  | .int _ => true
  | .str _ => true
  | .list ds => noBs ds
  | .tuple ds => noBs ds
  | .dict _ => false
def noBs : List D → Bool
  | [] => true
  | d :: ds => noB d && noBs ds
end
mutual
theorem eqv_same : ∀ (d e : D), noB d = true → noB e = true → PyData.eqv d e = true → d = e
  | .none, e, _, h, q => by cases e <;> first | rfl | (simp [PyData.eqv] at q)
  | .bool _, _, h, _, _ => by simp [noB] at h
  | .int i, e, _, h, q => by
    cases e with
    | int j => simp [PyData.eqv] at q; subst q; rfl
    | bool b => simp [noB] at h
    | _ => simp [PyData.eqv] at q
  | .str i, e, _, h, q => by
    cases e with
    | str j => simp [PyData.eqv] at q; subst q; rfl
    | bool b => simp [noB] at h
    | _ => simp [PyData.eqv] at q
  | .list ds, e, h, h', q => by
    cases e with
    | list es => rw [eqv_sames ds es (by simpa [noB] using h) (by simpa [noB] using h') (by simpa [PyData.eqv] using q)]
    | _ => simp [PyData.eqv] at q
  | .tuple ds, e, h, h', q => by
    cases e with
    | tuple es => rw [eqv_sames ds es (by simpa [noB] using h) (by simpa [noB] using h') (by simpa [PyData.eqv] using q)]
    | _ => simp [PyData.eqv] at q
  | .dict _, _, h, _, _ => by simp [noB] at h
theorem eqv_sames : ∀ (ds es : List D), noBs ds = true → noBs es = true → PyData.eqvAll ds es = true → ds = es
  | [], [], _, _, _ => rfl
  | [], _ :: _, _, _, q => by simp [PyData.eqvAll] at q
  | _ :: _, [], _, _, q => by simp [PyData.eqvAll] at q
  | d :: ds, e :: es, h, h', q => by
    simp only [noBs, Bool.and_eq_true] at h h'
    simp only [PyData.eqvAll, Bool.and_eq_true] at q
    rw [eqv_same d e h.1 h'.1 q.1, eqv_sames ds es h.2 h'.2 q.2]
end
mutual
theorem eqv_refl : ∀ d : D, noB d = true → PyData.eqv d d = true
  | .none, _ => by simp [PyData.eqv]
  | .bool _, h => by simp [noB] at h
  | .int i, _ => by simp [PyData.eqv]
  | .str i, _ => by simp [PyData.eqv]
  | .list ds, h => by rw [PyData.eqv]; exact eqv_refls ds (by simpa [noB] using h)
  | .tuple ds, h => by rw [PyData.eqv]; exact eqv_refls ds (by simpa [noB] using h)
  | .dict _, h => by simp [noB] at h
theorem eqv_refls : ∀ ds : List D, noBs ds = true → PyData.eqvAll ds ds = true
  | [], _ => by simp [PyData.eqvAll]
  | d :: ds, h => by
    simp only [noBs, Bool.and_eq_true] at h
    rw [PyData.eqvAll, eqv_refl d h.1, eqv_refls ds h.2]; rfl
end
theorem noBs_map {α : Type} (g : α → D) : ∀ l : List α, (∀ x ∈ l, noB (g x) = true) → noBs (l.map g) = true
  | [], _ => rfl
  | x :: l, h => by rw [List.map_cons, noBs, h x List.mem_cons_self, noBs_map g l fun y hy => h y (List.mem_cons_of_mem _ hy)]; rfl
theorem lays_map {α : Type} (g : α → D) : ∀ l : List α, (∀ x ∈ l, (g x).canLay0 = true) → PyData.canLayAll0 (l.map g) = true
  | [], _ => rfl
  | x :: l, h => by rw [List.map_cons, PyData.canLayAll0, h x List.mem_cons_self, lays_map g l fun y hy => h y (List.mem_cons_of_mem _ hy)]; rfl
theorem noB_tm : ∀ t : Tm, noB t.d = true
  | .at k => rfl
  | .of t => by rw [Tm.d, noB, noBs, noBs, noB_tm t]; rfl
  | .back k t => by rw [Tm.d, noB, noBs, noBs, noBs, noB_tm t]; rfl
  | .rest k t => by rw [Tm.d, noB, noBs, noBs, noBs, noB_tm t]; rfl
theorem noB_rl (r : Rl) : noB r.d = true := by
  simp [Rl.d, noB, noBs, noBs_map PyData.int r.first (fun x _ => rfl), noBs_map Tm.d r.terms fun t _ => noB_tm t]
theorem tm_inj : ∀ u t : Tm, u.d = t.d → u = t
  | .at k, .at j, e => by simp [Tm.d] at e; rw [e]
  | .of u, .of t, e => by simp [Tm.d] at e; rw [tm_inj u t e]
  | .back k u, .back j t, e => by simp [Tm.d] at e; rw [e.1, tm_inj u t e.2]
  | .rest k u, .rest j t, e => by simp [Tm.d] at e; rw [e.1, tm_inj u t e.2]
  | .at k, .of t, e => by simp [Tm.d] at e; exact absurd e.1 (by decide +kernel)
  | .at k, .back j t, e => by simp [Tm.d] at e
  | .at k, .rest j t, e => by simp [Tm.d] at e
  | .of u, .at j, e => by simp [Tm.d] at e; exact absurd e.1 (by decide +kernel)
  | .of u, .back j t, e => by simp [Tm.d] at e
  | .of u, .rest j t, e => by simp [Tm.d] at e
  | .back k u, .at j, e => by simp [Tm.d] at e
  | .back k u, .of t, e => by simp [Tm.d] at e
  | .back k u, .rest j t, e => by simp [Tm.d] at e; exact absurd e.1 (by decide +kernel)
  | .rest k u, .at j, e => by simp [Tm.d] at e
  | .rest k u, .of t, e => by simp [Tm.d] at e
  | .rest k u, .back j t, e => by simp [Tm.d] at e; exact absurd e.1 (by decide +kernel)

theorem lay_tm : ∀ t : Tm, t.d.canLay0 = true
  | .at k => by simp [Tm.d, PyData.canLay0, PyData.canLayAll0]; exact (by have := sh_at; simp only [SeqAt.shaped, Bool.and_eq_true] at this; simpa [PyData.canLay0] using this.1)
  | .of t => by
    have := lay_tm t
    have h := sh_of
    simp only [SeqAt.shaped, Bool.and_eq_true] at h
    simp only [Tm.d, PyData.canLayAll0, PyData.canLay0, this, Bool.and_true, Bool.true_and] at h ⊢
    exact h.1
  | .back k t => by
    have := lay_tm t
    have h := sh_back
    simp only [SeqAt.shaped, Bool.and_eq_true] at h
    simp only [Tm.d, PyData.canLayAll0, PyData.canLay0, this, Bool.and_true, Bool.true_and] at h ⊢
    exact h.1
  | .rest k t => by
    have := lay_tm t
    have h := sh_rest
    simp only [SeqAt.shaped, Bool.and_eq_true] at h
    simp only [Tm.d, PyData.canLayAll0, PyData.canLay0, this, Bool.and_true, Bool.true_and] at h ⊢
    exact h.1

theorem depth_tm : ∀ t : Tm, t.d.depth ≤ t.depth
  | .at k => by simp [Tm.d, PyData.depth, PyData.depthAll, Tm.depth]
  | .of t => by have := depth_tm t; simp [Tm.d, PyData.depth, PyData.depthAll, Tm.depth]; omega
  | .back k t => by have := depth_tm t; simp [Tm.d, PyData.depth, PyData.depthAll, Tm.depth]; omega
  | .rest k t => by have := depth_tm t; simp [Tm.d, PyData.depth, PyData.depthAll, Tm.depth]; omega
theorem depths_map {α : Type} (g : α → D) (n : Nat) : ∀ l : List α, (∀ x ∈ l, (g x).depth ≤ n) → PyData.depthAll (l.map g) ≤ n
  | [], _ => by simp [PyData.depthAll]
  | x :: l, h => by
    have h1 := h x List.mem_cons_self
    have h2 := depths_map g n l fun y hy => h y (List.mem_cons_of_mem _ hy)
    simp only [List.map_cons, PyData.depthAll]
    omega
theorem shaped_tm (t : Tm) (h : t.depth ≤ 3) : SeqAt.shaped t.d = true := shaped_of _ (lay_tm t) (by have := depth_tm t; omega)
theorem lay_rl (r : Rl) : r.d.canLay0 = true := by
  simp only [Rl.d, PyData.canLay0, PyData.canLayAll0, canLay_ints, lays_map Tm.d r.terms fun t _ => lay_tm t, Bool.and_self]
theorem shaped_rl (r : Rl) (h : ∀ t ∈ r.terms, t.depth ≤ 3) : SeqAt.shaped r.d = true := by
  refine shaped_of _ (lay_rl r) ?_
  have h1 := depths_map Tm.d 3 r.terms fun t ht => Nat.le_trans (depth_tm t) (h t ht)
  have h2 := depth_ints r.first
  simp only [Rl.d, PyData.depth, PyData.depthAll]
  omega
theorem depth_rl (r : Rl) (h : ∀ t ∈ r.terms, t.depth ≤ 3) : r.d.depth ≤ 60 := by
  have h1 := depths_map Tm.d 3 r.terms fun t ht => Nat.le_trans (depth_tm t) (h t ht)
  have h2 := depth_ints r.first
  simp only [Rl.d, PyData.depth, PyData.depthAll]
  omega
theorem in_rules (neg : Bool) {r : Rl} {rs : List Rl} (h : r ∈ rs) (hd : ∀ t ∈ r.terms, t.depth ≤ 3) : pyIn neg r.d (.list (rs.map Rl.d)) = some (.bool (!neg)) := by
  simp only [pyIn, shaped_rl r hd, lays_map Rl.d rs fun x _ => lay_rl x, Bool.and_self, if_true]
  have : ((rs.map Rl.d).any fun e => PyData.eqv e r.d) = true := by
    rw [List.any_map, List.any_eq_true]
    exact ⟨r, h, eqv_refl _ (noB_rl r)⟩
  rw [this]
  cases neg <;> rfl
theorem in_terms (t : Tm) (h : t.depth ≤ 3) (ts : List Tm) : pyIn false t.d (.list (ts.map Tm.d)) = some (.bool (decide (t ∈ ts))) := by
  simp only [pyIn, shaped_tm t h, lays_map Tm.d ts fun x _ => lay_tm x, Bool.and_self, if_true, Bool.false_eq_true, if_false]
  congr 2
  rw [List.any_map]
  by_cases m : t ∈ ts
  · rw [decide_eq_true m, List.any_eq_true]
    exact ⟨t, m, eqv_refl _ (noB_tm t)⟩
  · rw [decide_eq_false m, List.any_eq_false]
    intro u hu z
    exact m (by rw [← tm_inj u t (eqv_same _ _ (noB_tm u) (noB_tm t) z)]; exact hu)
theorem ne_lists {α : Type} (g : α → D) (xs : List α) (h1 : ∀ x ∈ xs, (g x).canLay0 = true) (h2 : ∀ x ∈ xs, (g x).depth ≤ 60) : pyNe (.list (xs.map g)) (.list (xs.map g)) = some (.bool false) :=
  pyNe_self _ (shaped_of _ (by rw [PyData.canLay0]; exact lays_map g xs h1) (by
    have := depths_map g 60 xs h2
    simp only [PyData.depth]
    omega))
end Br
/-! walks, plainly -/
namespace Br
open PySem PySem.Spec PyProof.Rows L2
abbrev sGo : Str := PySem.Str.ofString "go"
abbrev sPoke : Str := PySem.Str.ofString "poke"
abbrev sEnded : Str := PySem.Str.ofString "ended"
abbrev sNoBack : Str := PySem.Str.ofString "no back"
abbrev sNoNumber : Str := PySem.Str.ofString "no number"
abbrev sNoRule : Str := PySem.Str.ofString "no rule"
abbrev sNoText : Str := PySem.Str.ofString "no text"
/-- a step: its word, the row ahead of it -/
abbrev Stp := Str × List Int
def Stp.d (s : Stp) : D := .tuple [.str s.1, .tuple (s.2.map .int)]
/-- a walk of whole numbers -/
structure W where
  r : Rl
  row : List Int
  past : List Stp
  later : List Stp
def W.k (w : W) : Wk := ⟨w.r.d, .tuple (w.row.map .int), w.past.map Stp.d, w.later.map Stp.d⟩
@[simp] theorem nxR_nx {α β : Type} (k : α → R β) (a : α) : nxR k (.nx a) = noexc (k a) := rfl
@[simp] theorem asBM_bool {α : Type} (b : Bool) (s : α) : asBM (PyData.bool b, s) = .ok (b, s) := rfl
@[simp] theorem asLst_tuple (l : List D) : asLst (.tuple l) = .stuck := rfl
/-- a step is done -/
def W.do (w : W) (word : Str) (row : List Int) : W := ⟨w.r, row, w.past ++ [(word, w.row)], []⟩
theorem do_w (w : W) (word : Str) (row : List Int) (h : w.past.length ≤ 1000) : F_Walk_do w.k [.str word, .tuple (row.map .int)] = .ok (.none, (w.do word row).k) := by
  have lo : app1 (w.past.map Stp.d) (.tuple [.str word, .tuple (w.row.map .int)]) = .ok (w.past.map Stp.d ++ [.tuple [.str word, .tuple (w.row.map .int)]]) := app1_ok (by rw [List.length_map]; omega)
  have e : (w.do word row).k = ⟨w.r.d, .tuple (row.map .int), w.past.map Stp.d ++ [.tuple [.str word, .tuple (w.row.map .int)]], []⟩ := by
    unfold W.do W.k
    simp only [List.map_append]
    rfl
  rw [e]
  show m_Walk_do _ _ _ = _
  unfold m_Walk_do
  have e1 : w.k.past = w.past.map Stp.d := rfl
  have e2 : w.k.now = .tuple (w.row.map .int) := rfl
  have e3 : w.k.own = w.r.d := rfl
  simp -implicitDefEqProofs only [R.bind_ok, opt_some, asB_bool, lstD_eq, tupD_eq, asI_int, asLst_list, asSeq_list, asSeq_tuple, outD_rt, outD_nx, cont_nx, cont_rt, meet_nx, meet_rt, pyAdd_int, pySub_int, pyNeg_int, pyCmp_int, pyLen_list, pyLen_tuple, isNone_none, isNone_int, isNone_oD, pyIs_none, pyIsNot_none, pyEq_int, pyNe_int, List.length_map, Bool.false_eq_true, if_false, if_true, Bool.not_true, Bool.not_false, open2l, open3l, open2, open3, noexc_ok_eq, Option.isNone_none, Option.isNone_some, nxR_nx, e1, e2, e3, lo]
theorem init_w {r : Rl} (h : r.Ok) : m_Walk___init__ r.d = .ok (W.mk r r.first [] []).k := by
  unfold m_Walk___init__
  have ix : pyIx r.d (.int 0) = some (.tuple (r.first.map .int)) := rfl
  simp -implicitDefEqProofs only [R.bind_ok, opt_some, asB_bool, lstD_eq, tupD_eq, asI_int, asLst_list, asSeq_list, asSeq_tuple, outD_rt, outD_nx, cont_nx, cont_rt, meet_nx, meet_rt, pyAdd_int, pySub_int, pyNeg_int, pyCmp_int, pyLen_list, pyLen_tuple, isNone_none, isNone_int, isNone_oD, pyIs_none, pyIsNot_none, pyEq_int, pyNe_int, List.length_map, Bool.false_eq_true, if_false, if_true, Bool.not_true, Bool.not_false, open2l, open3l, open2, open3, noexc_ok_eq, Option.isNone_none, Option.isNone_some, nxR_nx, look_ok h, ix]
  rfl
theorem row_w (w : W) : m_Walk_row w.k = .ok (.list (w.row.map .int)) := by
  unfold m_Walk_row
  have e2 : w.k.now = .tuple (w.row.map .int) := rfl
  simp -implicitDefEqProofs only [R.bind_ok, opt_some, asB_bool, lstD_eq, tupD_eq, asI_int, asLst_list, asSeq_list, asSeq_tuple, outD_rt, outD_nx, cont_nx, cont_rt, meet_nx, meet_rt, pyAdd_int, pySub_int, pyNeg_int, pyCmp_int, pyLen_list, pyLen_tuple, isNone_none, isNone_int, isNone_oD, pyIs_none, pyIsNot_none, pyEq_int, pyNe_int, List.length_map, Bool.false_eq_true, if_false, if_true, Bool.not_true, Bool.not_false, open2l, open3l, open2, open3, noexc_ok_eq, Option.isNone_none, Option.isNone_some, e2]
theorem rule_w (w : W) : m_Walk_rule w.k = .ok w.r.d := rfl
theorem true_w (w : W) (h : w.r.Ok) (hl : w.row.length ≤ 2000) : m_Walk_is_true w.k = .ok (.bool (rowOf w.r w.row.length == w.row)) := by
  unfold m_Walk_is_true
  have e2 : w.k.now = .tuple (w.row.map .int) := rfl
  have e3 : w.k.own = w.r.d := rfl
  simp -implicitDefEqProofs only [R.bind_ok, opt_some, asB_bool, lstD_eq, tupD_eq, asI_int, asLst_list, asSeq_list, asSeq_tuple, outD_rt, outD_nx, cont_nx, cont_rt, meet_nx, meet_rt, pyAdd_int, pySub_int, pyNeg_int, pyCmp_int, pyLen_list, pyLen_tuple, isNone_none, isNone_int, isNone_oD, pyIs_none, pyIsNot_none, pyEq_int, pyNe_int, List.length_map, Bool.false_eq_true, if_false, if_true, Bool.not_true, Bool.not_false, open2l, open3l, open2, open3, noexc_ok_eq, Option.isNone_none, Option.isNone_some, e2, e3, row_ok h w.row.length hl, pyEq_ints]
theorem counts_w (w : W) : m_Walk_counts w.k = .ok (.tuple [.int w.past.length, .int w.later.length]) := by
  unfold m_Walk_counts
  have e1 : w.k.past = w.past.map Stp.d := rfl
  have e4 : w.k.later = w.later.map Stp.d := rfl
  simp -implicitDefEqProofs only [R.bind_ok, opt_some, asB_bool, lstD_eq, tupD_eq, asI_int, asLst_list, asSeq_list, asSeq_tuple, outD_rt, outD_nx, cont_nx, cont_rt, meet_nx, meet_rt, pyAdd_int, pySub_int, pyNeg_int, pyCmp_int, pyLen_list, pyLen_tuple, isNone_none, isNone_int, isNone_oD, pyIs_none, pyIsNot_none, pyEq_int, pyNe_int, List.length_map, Bool.false_eq_true, if_false, if_true, Bool.not_true, Bool.not_false, open2l, open3l, open2, open3, noexc_ok_eq, Option.isNone_none, Option.isNone_some, e1, e4]
/-- what a step forth tells -/
def W.go (w : W) : R (D × Wk) := if w.row.length = 200 then .exc .noNumber else match nextOf w.r w.row with
  | none => .exc .ended
  | some x => .ok (.int x, (w.do sGo (w.row ++ [x])).k)
theorem go_w (w : W) (h : w.r.Ok) (hl : w.row.length ≤ 2000) (hp : w.past.length ≤ 1000) : m_Walk_go w.k = w.go := by
  unfold m_Walk_go W.go
  have e2 : w.k.now = .tuple (w.row.map .int) := rfl
  have e3 : w.k.own = w.r.d := rfl
  simp -implicitDefEqProofs only [R.bind_ok, opt_some, asB_bool, lstD_eq, tupD_eq, asI_int, asLst_list, asSeq_list, asSeq_tuple, outD_rt, outD_nx, cont_nx, cont_rt, meet_nx, meet_rt, pyAdd_int, pySub_int, pyNeg_int, pyCmp_int, pyLen_list, pyLen_tuple, isNone_none, isNone_int, isNone_oD, pyIs_none, pyIsNot_none, pyEq_int, pyNe_int, List.length_map, Bool.false_eq_true, if_false, if_true, Bool.not_true, Bool.not_false, open2l, open3l, open2, open3, noexc_ok_eq, Option.isNone_none, Option.isNone_some, e2, e3, F_next_number, next_eq w.r w.row h.t2 h.dep]
  by_cases c : w.row.length = 200
  · rw [if_pos (by simp; omega), if_pos c]
    rfl
  · rw [if_neg (by simp; omega), if_neg c]
    cases hn : nextOf w.r w.row with
    | none => rfl
    | some x =>
      have ad : pyAdd (.tuple (w.row.map .int)) (.tuple [.int x]) = some (.tuple ((w.row ++ [x]).map .int)) := by
        unfold pyAdd
        simp only [List.length_map, List.length_cons, List.length_nil, List.map_append, List.map_cons, List.map_nil]
        rw [if_pos (lineOk_of (by omega))]
      simp -implicitDefEqProofs only [R.bind_ok, opt_some, asB_bool, lstD_eq, tupD_eq, asI_int, asLst_list, asSeq_list, asSeq_tuple, outD_rt, outD_nx, cont_nx, cont_rt, meet_nx, meet_rt, pyAdd_int, pySub_int, pyNeg_int, pyCmp_int, pyLen_list, pyLen_tuple, isNone_none, isNone_int, isNone_oD, pyIs_none, pyIsNot_none, pyEq_int, pyNe_int, List.length_map, Bool.false_eq_true, if_false, if_true, Bool.not_true, Bool.not_false, open2l, open3l, open2, open3, noexc_ok_eq, Option.isNone_none, Option.isNone_some, nxR_nx, oD, ad, do_w w sGo (w.row ++ [x]) hp]
theorem gt_abs (n : Int) (h : -999 ≤ n) (h' : n ≤ 999) : ∃ a, pyAbs [.int n] = some (.int a) ∧ decide (999 < a) = false := by
  refine ⟨if n < 0 then -n else n, rfl, ?_⟩
  simp
  split <;> omega
theorem poke_w (w : W) (n : Int) (h1 : -999 ≤ n) (h2 : n ≤ 999) (hr : w.row ≠ []) (hl : w.row.length ≤ 2000) (hp : w.past.length ≤ 1000) : F_Walk_poke w.k [.int n] = .ok (.int (w.row.getD (w.row.length - 1) 0), (w.do sPoke (w.row.dropLast ++ [n])).k) := by
  show m_Walk_poke _ _ = _
  unfold m_Walk_poke
  have e2 : w.k.now = .tuple (w.row.map .int) := rfl
  obtain ⟨a, ea, la⟩ := gt_abs n h1 h2
  have ad : pyAdd (.tuple (w.row.dropLast.map .int)) (.tuple [.int n]) = some (.tuple ((w.row.dropLast ++ [n]).map .int)) := by
    unfold pyAdd
    simp only [List.length_map, List.length_dropLast, List.length_cons, List.length_nil, List.map_append, List.map_cons, List.map_nil]
    rw [if_pos (lineOk_of (by omega))]
  have sl : pySl (.tuple (w.row.map .int)) none (some (-1)) = some (.tuple (w.row.dropLast.map .int)) := by rw [pySl_tl, List.map_dropLast]
  simp -implicitDefEqProofs only [R.bind_ok, opt_some, asB_bool, lstD_eq, tupD_eq, asI_int, asLst_list, asSeq_list, asSeq_tuple, outD_rt, outD_nx, cont_nx, cont_rt, meet_nx, meet_rt, pyAdd_int, pySub_int, pyNeg_int, pyCmp_int, pyLen_list, pyLen_tuple, isNone_none, isNone_int, isNone_oD, pyIs_none, pyIsNot_none, pyEq_int, pyNe_int, List.length_map, Bool.false_eq_true, if_false, if_true, Bool.not_true, Bool.not_false, open2l, open3l, open2, open3, noexc_ok_eq, Option.isNone_none, Option.isNone_some, nxR_nx, e2, isTy, ea, la, ix_lastT w.row hr, sl, ad, do_w w sPoke (w.row.dropLast ++ [n]) hp]
/-! back and forth -/
theorem pop_w (ss : List Stp) (s : Stp) : popL ((ss ++ [s]).map Stp.d) = .ok (.str s.1, .tuple (s.2.map .int), ss.map Stp.d) := by
  unfold popL
  rw [List.map_append, List.length_append]
  rw [show (ss.map Stp.d).length + ([s].map Stp.d).length - 1 = (ss.map Stp.d).length by simp]
  rw [List.getElem?_append_right (Nat.le_refl _), Nat.sub_self]
  show R.bind (open2 (Stp.d s)) _ = _
  unfold Stp.d
  simp only [open2, R.bind_ok, List.map_cons, List.map_nil, List.dropLast_concat]
theorem lay_strW (s : Str) (h : SeqAt.shaped (.str s) = true) : (PyData.str s).canLay0 = true := by
  simp only [SeqAt.shaped, Bool.and_eq_true] at h
  exact h.1
theorem lay_stp (s : Stp) (h : (PyData.str s.1).canLay0 = true) : (Stp.d s).canLay0 = true := by
  unfold Stp.d
  simp only [PyData.canLay0, PyData.canLayAll0, canLay_ints, Bool.and_true] at h ⊢
  exact h
theorem depth_stp (s : Stp) : (Stp.d s).depth ≤ 3 := by
  have := depth_ints s.2
  unfold Stp.d
  simp only [PyData.depth, PyData.depthAll]
  omega
/-- the words of steps can be held against others -/
def WOk (ss : List Stp) : Prop := ∀ s ∈ ss, s.1 = sGo ∨ s.1 = sPoke
theorem lay_go : (PyData.str sGo).canLay0 = true := by decide +kernel
theorem lay_poke : (PyData.str sPoke).canLay0 = true := by decide +kernel
theorem lay_stps (ss : List Stp) (h : WOk ss) : SeqAt.shaped (.list (ss.map Stp.d)) = true := by
  refine shaped_of _ ?_ ?_
  · rw [PyData.canLay0]
    refine lays_map Stp.d ss fun s hs => lay_stp s ?_
    rcases h s hs with e | e <;> rw [e]
    · exact lay_go
    · exact lay_poke
  · have := depths_map Stp.d 3 ss fun s _ => depth_stp s
    simp only [PyData.depth]
    omega
theorem eq_nil_stps (ss : List Stp) (h : WOk ss) : pyEq (.list (ss.map Stp.d)) (.list []) = some (.bool ss.isEmpty) := by
  have s0 : SeqAt.shaped (.list []) = true := by decide +kernel
  unfold pyEq
  rw [lay_stps ss h, s0, Bool.and_self, if_pos rfl]
  cases ss with
  | nil => rfl
  | cons s t => simp [PyData.eqv, PyData.eqvAll]
theorem back_nil (w : W) (h : w.past = []) : m_Walk_back w.k = .exc .noBack := by
  unfold m_Walk_back
  have e1 : w.k.past = [] := by show w.past.map Stp.d = []; rw [h]; rfl
  have e : pyEq (.list []) (.list []) = some (.bool true) := by rfl
  simp -implicitDefEqProofs only [R.bind_ok, opt_some, asB_bool, lstD_eq, tupD_eq, asI_int, asLst_list, asSeq_list, asSeq_tuple, outD_rt, outD_nx, cont_nx, cont_rt, meet_nx, meet_rt, pyAdd_int, pySub_int, pyNeg_int, pyCmp_int, pyLen_list, pyLen_tuple, isNone_none, isNone_int, isNone_oD, pyIs_none, pyIsNot_none, pyEq_int, pyNe_int, List.length_map, Bool.false_eq_true, if_false, if_true, Bool.not_true, Bool.not_false, open2l, open3l, open2, open3, noexc_ok_eq, Option.isNone_none, Option.isNone_some, e1, e]
  rfl
theorem forth_nil (w : W) (h : w.later = []) : m_Walk_forth w.k = .exc .noBack := by
  unfold m_Walk_forth
  have e1 : w.k.later = [] := by show w.later.map Stp.d = []; rw [h]; rfl
  have e : pyEq (.list []) (.list []) = some (.bool true) := by rfl
  simp -implicitDefEqProofs only [R.bind_ok, opt_some, asB_bool, lstD_eq, tupD_eq, asI_int, asLst_list, asSeq_list, asSeq_tuple, outD_rt, outD_nx, cont_nx, cont_rt, meet_nx, meet_rt, pyAdd_int, pySub_int, pyNeg_int, pyCmp_int, pyLen_list, pyLen_tuple, isNone_none, isNone_int, isNone_oD, pyIs_none, pyIsNot_none, pyEq_int, pyNe_int, List.length_map, Bool.false_eq_true, if_false, if_true, Bool.not_true, Bool.not_false, open2l, open3l, open2, open3, noexc_ok_eq, Option.isNone_none, Option.isNone_some, e1, e]
  rfl
theorem back_w (w : W) (ss : List Stp) (s : Stp) (h : w.past = ss ++ [s]) (ho : WOk w.past) (hl : w.later.length ≤ 1000) : m_Walk_back w.k = .ok (.str s.1, (W.mk w.r s.2 ss (w.later ++ [(s.1, w.row)])).k) := by
  unfold m_Walk_back
  have e1 : w.k.past = w.past.map Stp.d := rfl
  have e2 : w.k.now = .tuple (w.row.map .int) := rfl
  have e3 : w.k.own = w.r.d := rfl
  have e4 : w.k.later = w.later.map Stp.d := rfl
  have em : w.past.isEmpty = false := by rw [h]; cases ss <;> rfl
  have lo : app1 (w.later.map Stp.d) (.tuple [.str s.1, .tuple (w.row.map .int)]) = .ok (w.later.map Stp.d ++ [.tuple [.str s.1, .tuple (w.row.map .int)]]) := app1_ok (by rw [List.length_map]; omega)
  have pp : popL (w.past.map Stp.d) = .ok (.str s.1, .tuple (s.2.map .int), ss.map Stp.d) := by rw [h]; exact pop_w ss s
  simp -implicitDefEqProofs only [R.bind_ok, opt_some, asB_bool, lstD_eq, tupD_eq, asI_int, asLst_list, asSeq_list, asSeq_tuple, outD_rt, outD_nx, cont_nx, cont_rt, meet_nx, meet_rt, pyAdd_int, pySub_int, pyNeg_int, pyCmp_int, pyLen_list, pyLen_tuple, isNone_none, isNone_int, isNone_oD, pyIs_none, pyIsNot_none, pyEq_int, pyNe_int, List.length_map, Bool.false_eq_true, if_false, if_true, Bool.not_true, Bool.not_false, open2l, open3l, open2, open3, noexc_ok_eq, Option.isNone_none, Option.isNone_some, nxR_nx, e1, e2, e3, e4, eq_nil_stps w.past ho, em, pp, lo]
  unfold W.k
  simp only [List.map_append]
  rfl
theorem forth_w (w : W) (ss : List Stp) (s : Stp) (h : w.later = ss ++ [s]) (ho : WOk w.later) (hl : w.past.length ≤ 1000) : m_Walk_forth w.k = .ok (.str s.1, (W.mk w.r s.2 (w.past ++ [(s.1, w.row)]) ss).k) := by
  unfold m_Walk_forth
  have e1 : w.k.past = w.past.map Stp.d := rfl
  have e2 : w.k.now = .tuple (w.row.map .int) := rfl
  have e3 : w.k.own = w.r.d := rfl
  have e4 : w.k.later = w.later.map Stp.d := rfl
  have em : w.later.isEmpty = false := by rw [h]; cases ss <;> rfl
  have lo : app1 (w.past.map Stp.d) (.tuple [.str s.1, .tuple (w.row.map .int)]) = .ok (w.past.map Stp.d ++ [.tuple [.str s.1, .tuple (w.row.map .int)]]) := app1_ok (by rw [List.length_map]; omega)
  have pp : popL (w.later.map Stp.d) = .ok (.str s.1, .tuple (s.2.map .int), ss.map Stp.d) := by rw [h]; exact pop_w ss s
  simp -implicitDefEqProofs only [R.bind_ok, opt_some, asB_bool, lstD_eq, tupD_eq, asI_int, asLst_list, asSeq_list, asSeq_tuple, outD_rt, outD_nx, cont_nx, cont_rt, meet_nx, meet_rt, pyAdd_int, pySub_int, pyNeg_int, pyCmp_int, pyLen_list, pyLen_tuple, isNone_none, isNone_int, isNone_oD, pyIs_none, pyIsNot_none, pyEq_int, pyNe_int, List.length_map, Bool.false_eq_true, if_false, if_true, Bool.not_true, Bool.not_false, open2l, open3l, open2, open3, noexc_ok_eq, Option.isNone_none, Option.isNone_some, nxR_nx, e1, e2, e3, e4, eq_nil_stps w.later ho, em, pp, lo]
  unfold W.k
  simp only [List.map_append]
  rfl
theorem twin_w (w : W) (h : w.r.Ok) : m_Walk_twin w.k = .ok w.k := by
  unfold m_Walk_twin
  have e3 : w.k.own = w.r.d := rfl
  simp -implicitDefEqProofs only [R.bind_ok, opt_some, asB_bool, lstD_eq, tupD_eq, asI_int, asLst_list, asSeq_list, asSeq_tuple, outD_rt, outD_nx, cont_nx, cont_rt, meet_nx, meet_rt, pyAdd_int, pySub_int, pyNeg_int, pyCmp_int, pyLen_list, pyLen_tuple, isNone_none, isNone_int, isNone_oD, pyIs_none, pyIsNot_none, pyEq_int, pyNe_int, List.length_map, Bool.false_eq_true, if_false, if_true, Bool.not_true, Bool.not_false, open2l, open3l, open2, open3, noexc_ok_eq, Option.isNone_none, Option.isNone_some, e3, init_w h, nxR_nx]
  rfl
/-! deeds -/
/-- a deed: to go, or to put a number -/
inductive Dd where
  | go (n : Int) | poke (n : Int)
def Dd.d : Dd → D
  | .go n => .tuple [.str sGo, .int n]
  | .poke n => .tuple [.str sPoke, .int n]
def Dd.word : Dd → Str
  | .go _ => sGo
  | .poke _ => sPoke
def Dd.Ok : Dd → Prop
  | .go _ => True
  | .poke n => -999 ≤ n ∧ n ≤ 999
/-- the row behind a deed -/
def Dd.row (r : Rl) (row : List Int) : Dd → Option (List Int)
  | .go _ => (nextOf r row).map fun x => row ++ [x]
  | .poke n => some (row.dropLast ++ [n])
/-- what is told of it -/
def Dd.due (r : Rl) (row : List Int) : Dd → D
  | .go _ => match nextOf r row with
    | none => .str sEnded
    | some x => .int x
  | .poke _ => .int (row.getD (row.length - 1) 0)
/-- the walk behind it -/
def W.did (w : W) (d : Dd) : W := match d.row w.r w.row with
  | none => w
  | some row => w.do d.word row
theorem eq_go_go : pyEq (.str sGo) (.str sGo) = some (.bool true) := by kernel_rfl
theorem eq_poke_go : pyEq (.str sPoke) (.str sGo) = some (.bool false) := by kernel_rfl
theorem eq_go_poke : pyEq (.str sGo) (.str sPoke) = some (.bool false) := by kernel_rfl
theorem eq_poke_poke : pyEq (.str sPoke) (.str sPoke) = some (.bool true) := by kernel_rfl
theorem done_w (w : W) (d : Dd) (h : w.r.Ok) (hd : d.Ok) (hr : w.row ≠ []) (hl : w.row.length < 200) (hp : w.past.length ≤ 1000) : F__law_done w.k [d.d] = .ok (d.due w.r w.row, (w.did d).k) := by
  show m__law_done _ _ = _
  unfold m__law_done
  cases d with
  | go n =>
    have x0 : pyIx (Dd.go n).d (.int 0) = some (.str sGo) := rfl
    simp -implicitDefEqProofs only [R.bind_ok, opt_some, asB_bool, lstD_eq, tupD_eq, asI_int, asLst_list, asSeq_list, asSeq_tuple, outD_rt, outD_nx, cont_nx, cont_rt, meet_nx, meet_rt, pyAdd_int, pySub_int, pyNeg_int, pyCmp_int, pyLen_list, pyLen_tuple, isNone_none, isNone_int, isNone_oD, pyIs_none, pyIsNot_none, pyEq_int, pyNe_int, List.length_map, Bool.false_eq_true, if_false, if_true, Bool.not_true, Bool.not_false, open2l, open3l, open2, open3, noexc_ok_eq, Option.isNone_none, Option.isNone_some, nxR_nx, x0, eq_go_go, go_w w h (by omega) hp]
    unfold W.go W.did Dd.due Dd.row
    rw [if_neg (by omega)]
    cases nextOf w.r w.row with
    | none => rfl
    | some x => rfl
  | poke n =>
    have x0 : pyIx (Dd.poke n).d (.int 0) = some (.str sPoke) := rfl
    have x1 : pyIx (Dd.poke n).d (.int 1) = some (.int n) := rfl
    simp -implicitDefEqProofs only [R.bind_ok, opt_some, asB_bool, lstD_eq, tupD_eq, asI_int, asLst_list, asSeq_list, asSeq_tuple, outD_rt, outD_nx, cont_nx, cont_rt, meet_nx, meet_rt, pyAdd_int, pySub_int, pyNeg_int, pyCmp_int, pyLen_list, pyLen_tuple, isNone_none, isNone_int, isNone_oD, pyIs_none, pyIsNot_none, pyEq_int, pyNe_int, List.length_map, Bool.false_eq_true, if_false, if_true, Bool.not_true, Bool.not_false, open2l, open3l, open2, open3, noexc_ok_eq, Option.isNone_none, Option.isNone_some, nxR_nx, x0, x1, eq_poke_go, poke_w w n hd.1 hd.2 hr (by omega) hp]
    rfl
theorem behind_w (r : Rl) (h : r.Ok) (row : List Int) (d : Dd) (hr : row ≠ []) (hl : row.length < 200) : F__law_behind [.dat r.d, .dat (.list (row.map .int)), .dat d.d] = .ok (.tuple [.list (((d.row r row).getD row).map .int), d.due r row]) := by
  show m__law_behind _ _ _ = _
  unfold m__law_behind
  have y1 : pyIx r.d (.int 1) = some (.int r.more) := rfl
  have y2 : pyIx r.d (.int 2) = some (.tuple (r.terms.map Tm.d)) := rfl
  cases d with
  | poke n =>
    have x0 : pyIx (Dd.poke n).d (.int 0) = some (.str sPoke) := rfl
    have x1 : pyIx (Dd.poke n).d (.int 1) = some (.int n) := rfl
    have sl : pySl (.list (row.map .int)) none (some (-1)) = some (.list (row.dropLast.map .int)) := by
      simp only [pySl, cut_last, List.map_dropLast]
    have ad : pyAdd (.list (row.dropLast.map .int)) (.list [.int n]) = some (.list ((row.dropLast ++ [n]).map .int)) := by
      unfold pyAdd
      simp only [List.length_map, List.length_dropLast, List.length_cons, List.length_nil, List.map_append, List.map_cons, List.map_nil]
      rw [if_pos (lineOk_of (by omega))]
    simp -implicitDefEqProofs only [R.bind_ok, opt_some, asB_bool, lstD_eq, tupD_eq, asI_int, asLst_list, asSeq_list, asSeq_tuple, outD_rt, outD_nx, cont_nx, cont_rt, meet_nx, meet_rt, pyAdd_int, pySub_int, pyNeg_int, pyCmp_int, pyLen_list, pyLen_tuple, isNone_none, isNone_int, isNone_oD, pyIs_none, pyIsNot_none, pyEq_int, pyNe_int, List.length_map, Bool.false_eq_true, if_false, if_true, Bool.not_true, Bool.not_false, open2l, open3l, open2, open3, noexc_ok_eq, Option.isNone_none, Option.isNone_some, x0, x1, eq_poke_poke, sl, ad, ix_last row hr]
    rfl
  | go n =>
    have x0 : pyIx (Dd.go n).d (.int 0) = some (.str sGo) := rfl
    simp -implicitDefEqProofs only [R.bind_ok, opt_some, asB_bool, lstD_eq, tupD_eq, asI_int, asLst_list, asSeq_list, asSeq_tuple, outD_rt, outD_nx, cont_nx, cont_rt, meet_nx, meet_rt, pyAdd_int, pySub_int, pyNeg_int, pyCmp_int, pyLen_list, pyLen_tuple, isNone_none, isNone_int, isNone_oD, pyIs_none, pyIsNot_none, pyEq_int, pyNe_int, List.length_map, Bool.false_eq_true, if_false, if_true, Bool.not_true, Bool.not_false, open2l, open3l, open2, open3, noexc_ok_eq, Option.isNone_none, Option.isNone_some, x0, eq_go_poke, y1, y2]
    rw [rng2_eq 1 ((row.length : Int) + 1) (by omega) (by omega) (by omega) (by omega), show ((row.length : Int) + 1 - 1).toNat = row.length by omega]
    simp -implicitDefEqProofs only [R.bind_ok, opt_some, asB_bool, lstD_eq, tupD_eq, asI_int, asLst_list, asSeq_list, asSeq_tuple, outD_rt, outD_nx, cont_nx, cont_rt, meet_nx, meet_rt, pyAdd_int, pySub_int, pyNeg_int, pyCmp_int, pyLen_list, pyLen_tuple, isNone_none, isNone_int, isNone_oD, pyIs_none, pyIsNot_none, pyEq_int, pyNe_int, List.length_map, Bool.false_eq_true, if_false, if_true, Bool.not_true, Bool.not_false, open2l, open3l, open2, open3, noexc_ok_eq, Option.isNone_none, Option.isNone_some]
    refine loopv (bookOf row) ?_ ?_
    · rw [for_rng (st := fun i => bookOf (row.take i)) (h0 := by rfl) (hs := ?hs)]
      · rw [List.take_length]
      case hs =>
        intro i hi
        have lt : (row.take i).length = i := by simp; omega
        have px := put_book (row.take i) (row.getD i 0) (by omega)
        rw [lt, ← take_succ_getD hi, show (i : Int) + 1 = 1 + (i : Int) by omega] at px
        have ix := ix_ints row (1 + (i : Int) - 1) (by omega) (by omega)
        rw [show (1 + (i : Int) - 1).toNat = i by omega] at ix
        simp -implicitDefEqProofs only [R.bind_ok, opt_some, asB_bool, lstD_eq, tupD_eq, asI_int, asLst_list, asSeq_list, asSeq_tuple, outD_rt, outD_nx, cont_nx, cont_rt, meet_nx, meet_rt, pyAdd_int, pySub_int, pyNeg_int, pyCmp_int, pyLen_list, pyLen_tuple, isNone_none, isNone_int, isNone_oD, pyIs_none, pyIsNot_none, pyEq_int, pyNe_int, List.length_map, Bool.false_eq_true, if_false, if_true, Bool.not_true, Bool.not_false, open2l, open3l, open2, open3, noexc_ok_eq, Option.isNone_none, Option.isNone_some, ix, px]
    · rw [law_terms r row h.t2 h.dep _ fun t ht => by
        have e := law_number_eq row t 14 (by omega)
        have x0 : ∀ a b : D, pyIx (.tuple [a, b]) (.int 0) = some a := fun _ _ => rfl
        simp -implicitDefEqProofs only [R.bind_ok, opt_some, asB_bool, lstD_eq, tupD_eq, asI_int, asLst_list, asSeq_list, asSeq_tuple, outD_rt, outD_nx, cont_nx, cont_rt, meet_nx, meet_rt, pyAdd_int, pySub_int, pyNeg_int, pyCmp_int, pyLen_list, pyLen_tuple, isNone_none, isNone_int, isNone_oD, pyIs_none, pyIsNot_none, pyEq_int, pyNe_int, List.length_map, Bool.false_eq_true, if_false, if_true, Bool.not_true, Bool.not_false, open2l, open3l, open2, open3, noexc_ok_eq, Option.isNone_none, Option.isNone_some, F__law_number, e, x0]]
      simp -implicitDefEqProofs only [R.bind_ok, opt_some, asB_bool, lstD_eq, tupD_eq, asI_int, asLst_list, asSeq_list, asSeq_tuple, outD_rt, outD_nx, cont_nx, cont_rt, meet_nx, meet_rt, pyAdd_int, pySub_int, pyNeg_int, pyCmp_int, pyLen_list, pyLen_tuple, isNone_none, isNone_int, isNone_oD, pyIs_none, pyIsNot_none, pyEq_int, pyNe_int, List.length_map, Bool.false_eq_true, if_false, if_true, Bool.not_true, Bool.not_false, open2l, open3l, open2, open3, noexc_ok_eq, Option.isNone_none, Option.isNone_some]
      rw [in_none]
      simp -implicitDefEqProofs only [R.bind_ok, opt_some, asB_bool, lstD_eq, tupD_eq, asI_int, asLst_list, asSeq_list, asSeq_tuple, outD_rt, outD_nx, cont_nx, cont_rt, meet_nx, meet_rt, pyAdd_int, pySub_int, pyNeg_int, pyCmp_int, pyLen_list, pyLen_tuple, isNone_none, isNone_int, isNone_oD, pyIs_none, pyIsNot_none, pyEq_int, pyNe_int, List.length_map, Bool.false_eq_true, if_false, if_true, Bool.not_true, Bool.not_false, open2l, open3l, open2, open3, noexc_ok_eq, Option.isNone_none, Option.isNone_some, decide_eq_true_eq]
      unfold Dd.row Dd.due nextOf
      by_cases hn : none ∈ r.terms.map (numberOf row)
      · simp only [hn, if_true]
        rfl
      · simp only [hn, if_false]
        rw [terms_sum r row hn, sum_ints]
        have ad : ∀ x : Int, pyAdd (.list (row.map .int)) (.list [.int x]) = some (.list ((row ++ [x]).map .int)) := fun x => by
          unfold pyAdd
          simp only [List.length_map, List.length_cons, List.length_nil, List.map_append, List.map_cons, List.map_nil]
          rw [if_pos (lineOk_of (by omega))]
        simp -implicitDefEqProofs only [R.bind_ok, opt_some, asB_bool, lstD_eq, tupD_eq, asI_int, asLst_list, asSeq_list, asSeq_tuple, outD_rt, outD_nx, cont_nx, cont_rt, meet_nx, meet_rt, pyAdd_int, pySub_int, pyNeg_int, pyCmp_int, pyLen_list, pyLen_tuple, isNone_none, isNone_int, isNone_oD, pyIs_none, pyIsNot_none, pyEq_int, pyNe_int, List.length_map, Bool.false_eq_true, if_false, if_true, Bool.not_true, Bool.not_false, open2l, open3l, open2, open3, noexc_ok_eq, Option.isNone_none, Option.isNone_some, ad]
        rfl
/-- a drawn deed -/
def lawDd (ns : List Int) (k : Int) : Dd := if pick ns k 4 < 3 then .go (pick ns (k + 1) 9 - 2) else .poke (pick ns (k + 1) 9 - 2)
theorem lawDd_ok (ns : List Int) (k : Int) : (lawDd ns k).Ok := by
  have a := pick_nn ns (k + 1) 9 (by decide)
  have b := pick_lt ns (k + 1) 9 (by decide)
  unfold lawDd
  split
  · trivial
  · exact ⟨by omega, by omega⟩
theorem deed_w (ns : List Int) (k : Int) (hk : 0 ≤ k) : F__law_deed [.bor (.lst (ns.map .int)), .dat (.int k)] = .ok (lawDd ns k).d := by
  show m__law_deed _ _ = _
  have a := pick_nn ns k 4 (by decide)
  have b := pick_lt ns k 4 (by decide)
  unfold m__law_deed lawDd
  have ix : pyIx (.list [.str sGo, .str sGo, .str sGo, .str sPoke]) (.int (pick ns k 4)) = some (.str (if pick ns k 4 < 3 then sGo else sPoke)) := by
    have : pick ns k 4 = 0 ∨ pick ns k 4 = 1 ∨ pick ns k 4 = 2 ∨ pick ns k 4 = 3 := by omega
    rcases this with e | e | e | e <;> rw [e] <;> rfl
  simp -implicitDefEqProofs only [R.bind_ok, opt_some, asB_bool, lstD_eq, tupD_eq, asI_int, asLst_list, asSeq_list, asSeq_tuple, outD_rt, outD_nx, cont_nx, cont_rt, meet_nx, meet_rt, pyAdd_int, pySub_int, pyNeg_int, pyCmp_int, pyLen_list, pyLen_tuple, isNone_none, isNone_int, isNone_oD, pyIs_none, pyIsNot_none, pyEq_int, pyNe_int, List.length_map, Bool.false_eq_true, if_false, if_true, Bool.not_true, Bool.not_false, open2l, open3l, open2, open3, noexc_ok_eq, Option.isNone_none, Option.isNone_some, F_pick ns k 4 hk (by decide), F_pick ns (k + 1) 9 (by omega) (by decide), ix]
  split <;> rfl
theorem rowOf_first (r : Rl) : rowOf r r.first.length = r.first := by
  unfold rowOf
  rw [List.take_length]
  cases hl : r.first.length with
  | zero => rfl
  | succ n => rw [grow, if_neg (by omega)]
@[simp] theorem pyIsNot_true (b : Bool) : pyIsNot (.bool b) (.bool true) = some (.bool (!b)) := by cases b <;> rfl
@[simp] theorem pyNe_bool (a b : Bool) : pyNe (.bool a) (.bool b) = some (.bool (!(a == b))) := by cases a <;> cases b <;> rfl
theorem did_row (w : W) (d : Dd) : (w.did d).row = (d.row w.r w.row).getD w.row := by
  unfold W.did
  cases d.row w.r w.row <;> rfl
theorem did_inv (w : W) (d : Dd) (h : w.row ≠ []) : (w.did d).r = w.r ∧ (w.did d).row ≠ [] ∧ (w.did d).row.length ≤ w.row.length + 1 ∧ (w.did d).past.length ≤ w.past.length + 1 := by
  have hp : 0 < w.row.length := List.length_pos_iff.mpr h
  unfold W.did
  cases d with
  | go n =>
    unfold Dd.row
    cases nextOf w.r w.row with
    | none => exact ⟨rfl, h, by simp, by simp⟩
    | some x => exact ⟨rfl, by simp [W.do], by simp [W.do], by simp [W.do]⟩
  | poke n => exact ⟨rfl, by simp [W.do, Dd.row], by simp [W.do, Dd.row], by simp [W.do, Dd.row]⟩
theorem due_self (d : Dd) (r : Rl) (row : List Int) : pyNe (d.due r row) (d.due r row) = some (.bool false) := by
  cases d with
  | go n =>
    unfold Dd.due
    cases nextOf r row with
    | none => kernel_rfl
    | some x => simp
  | poke n => unfold Dd.due; simp
theorem pyAdd_lists (a b : List D) (h : a.length + b.length ≤ 16777216) : pyAdd (.list a) (.list b) = some (.list (a ++ b)) := by simp [pyAdd, lineOk_of h]
theorem pyAdd_tuples (a b : List D) (h : a.length + b.length ≤ 16777216) : pyAdd (.tuple a) (.tuple b) = some (.tuple (a ++ b)) := by simp [pyAdd, lineOk_of h]
end Br
/-! walks that only go -/
namespace Br
open PySem PySem.Spec PyProof.Rows L2
/-- a walk that goes along a row from its first a numbers on -/
def along (r : Rl) (row : List Int) (a : Nat) (past : List Stp) (n : Nat) : W := ⟨r, row.take (a + n), past ++ (List.range n).map fun j => (sGo, row.take (a + j)), []⟩
theorem along_go {r : Rl} (h : r.Ok) (row : List Int) (a : Nat) (past : List Stp) (n : Nat) (hn : a + n < row.length) (hx : nextOf r (row.take (a + n)) = some (row.getD (a + n) 0)) (hl : a + n < 200) (hp : past.length + n ≤ 1000) :
    m_Walk_go (along r row a past n).k = .ok (.int (row.getD (a + n) 0), (along r row a past (n + 1)).k) := by
  have lr : (along r row a past n).row.length = a + n := by show (row.take (a + n)).length = _; simp; omega
  have lp : (along r row a past n).past.length = past.length + n := by show (past ++ _).length = _; simp
  rw [go_w (along r row a past n) h (by omega) (by omega)]
  unfold W.go
  rw [if_neg (by omega), show (along r row a past n).row = row.take (a + n) from rfl, show (along r row a past n).r = r from rfl, hx]
  have e : (along r row a past n).do sGo (row.take (a + n) ++ [row.getD (a + n) 0]) = along r row a past (n + 1) := by
    unfold W.do along
    rw [← take_succ_getD hn, List.range_succ, List.map_append]
    simp only [List.map_cons, List.map_nil, List.append_assoc]
    rfl
  dsimp only
  rw [e]
theorem along_end {r : Rl} (h : r.Ok) (row : List Int) (a : Nat) (past : List Stp) (n : Nat) (hx : nextOf r (row.take (a + n)) = none) (hl : (row.take (a + n)).length < 200) (hp : past.length + n ≤ 1000) :
    m_Walk_go (along r row a past n).k = .exc .ended := by
  have lr : (along r row a past n).row = row.take (a + n) := rfl
  have lp : (along r row a past n).past.length = past.length + n := by show (past ++ _).length = _; simp
  rw [go_w (along r row a past n) h (by rw [lr]; omega) (by omega)]
  unfold W.go
  rw [lr, if_neg (by omega), show (along r row a past n).r = r from rfl, hx]
theorem along_row (r : Rl) (row : List Int) (a : Nat) (past : List Stp) (n : Nat) : m_Walk_row (along r row a past n).k = .ok (.list ((row.take (a + n)).map .int)) := row_w _
theorem along_true {r : Rl} (h : r.Ok) (row : List Int) (a : Nat) (past : List Stp) (n : Nat) (hl : row.length ≤ 2000) : m_Walk_is_true (along r row a past n).k = .ok (.bool (rowOf r (row.take (a + n)).length == row.take (a + n))) := true_w (along r row a past n) h (by show (row.take (a + n)).length ≤ _; simp; omega)
theorem along_counts (r : Rl) (row : List Int) (a : Nat) (past : List Stp) (n : Nat) : m_Walk_counts (along r row a past n).k = .ok (.tuple [.int (past.length + n : Nat), .int 0]) := by
  rw [counts_w]
  have : (along r row a past n).past.length = past.length + n := by show (past ++ _).length = _; simp
  rw [this]
  rfl
/-- one step back -/
theorem along_back (r : Rl) (row : List Int) (a : Nat) (past : List Stp) (n : Nat) (later : List Stp) (ho : WOk past) (hl : later.length ≤ 1000) :
    m_Walk_back (W.mk r (row.take (a + (n + 1))) (past ++ (List.range (n + 1)).map fun j => (sGo, row.take (a + j))) later).k = .ok (.str sGo, (W.mk r (row.take (a + n)) (past ++ (List.range n).map fun j => (sGo, row.take (a + j))) (later ++ [(sGo, row.take (a + (n + 1)))])).k) := by
  refine back_w _ (past ++ (List.range n).map fun j => (sGo, row.take (a + j))) (sGo, row.take (a + n)) ?_ ?_ hl
  · show past ++ _ = _
    rw [List.range_succ, List.map_append, List.append_assoc]
    rfl
  · intro s hs
    rcases List.mem_append.mp hs with hs | hs
    · exact ho s hs
    · obtain ⟨j, _, rfl⟩ := List.mem_map.mp hs
      exact .inl rfl
/-- the row that a rule tells begins with its first numbers -/
theorem take_first (r : Rl) (many : Nat) (h : r.first.length ≤ many) : (rowOf r many).take r.first.length = r.first := by
  have e := rowOf_take r r.first.length many h
  rw [← e, rowOf_first]
theorem first_le (r : Rl) (many : Nat) (h : r.first.length ≤ many) : r.first.length ≤ (rowOf r many).length := by
  have := (isRow r many).low
  omega
theorem along_zero (r : Rl) (many : Nat) (h : r.first.length ≤ many) : along r (rowOf r many) r.first.length [] 0 = ⟨r, r.first, [], []⟩ := by
  unfold along
  rw [Nat.add_zero, take_first r many h]
  rfl
theorem next_row (r : Rl) (many n : Nat) (h : r.first.length ≤ n) (hn : n < (rowOf r many).length) : nextOf r ((rowOf r many).take n) = some ((rowOf r many).getD n 0) := by
  rw [getD_lt hn]
  exact (isRow r many).nxt n hn h
/-- a beginning of a row is the row up to there -/
theorem rowOf_own (r : Rl) (many n : Nat) (h : n ≤ (rowOf r many).length) : rowOf r n = (rowOf r many).take n := rowOf_take r n many (Nat.le_trans h (rowOf_len r many))
theorem end_ok {r : Rl} (h : r.Ok) (many : Nat) (h1 : 1 ≤ many) (hm : many ≤ 200) : F_end_of [.dat r.d, .dat (.int many)] = .ok (if (rowOf r many).length < many then .int (rowOf r many).length else .none) := end_of_eq r h many h1 hm
theorem ended_told : W__law_class XC.ended = some sEnded := rfl
theorem noBack_told : W__law_class XC.noBack = some sNoBack := rfl
theorem noNumber_told : W__law_class XC.noNumber = some sNoNumber := rfl
theorem noRule_told : W__law_class XC.noRule = some sNoRule := rfl
theorem noText_told : W__law_class XC.noText = some sNoText := rfl
theorem ne_ended : pyNe (.str sEnded) (.str sEnded) = some (.bool false) := by kernel_rfl
theorem ne_int_str (x : Int) (s : Str) (h : SeqAt.shaped (.str s) = true) : pyNe (.int x) (.str s) = some (.bool true) := by simp [pyNe, h, PyData.eqv]
theorem shaped_ended : SeqAt.shaped (.str sEnded) = true := by decide +kernel
/-- a test that changes, and does not strike -/
theorem pass2 {α β γ : Type} {X : R (Bool × α)} {A B : Bool × α → R β} {f : β → R γ} {res : R γ} (s : α) (h : X = .ok (false, s)) (hk : (B (false, s)).bind f = res) : (X.bind fun z => if z.1 = true then A z else B z).bind f = res := by
  rw [h]
  exact hk
section
variable {γ : Type} {c : γ → R (Bool × γ)} {f : γ → R (Out γ)} {a : γ}
theorem whileM_at (st mid : Nat → γ) (n k : Nat) (hc : ∀ i, i < n → c (st i) = .ok (true, mid i)) (hb : ∀ i, i < n → f (mid i) = .ok (.nx (st (i + 1)))) : whileMM c f (n + k) (st 0) = whileMM c f k (st n) := by
  induction n generalizing k with
  | zero => simp
  | succ n ih =>
    rw [show n + 1 + k = n + (k + 1) by omega, ih (k + 1) (fun i h => hc i (by omega)) (fun i h => hb i (by omega)), whileMM, hc n (by omega), R.bind_ok, if_pos rfl, hb n (by omega)]
    rfl
theorem whileM_nx {fuel : Nat} (st mid : Nat → γ) (n : Nat) (e : γ) (h0 : a = st 0) (hf : n < fuel) (hc : ∀ i, i < n → c (st i) = .ok (true, mid i)) (hb : ∀ i, i < n → f (mid i) = .ok (.nx (st (i + 1)))) (hn : c (st n) = .ok (false, e)) : whileMM c f fuel a = .ok (.nx e) := by
  subst h0
  obtain ⟨k, rfl⟩ : ∃ k, fuel = n + (k + 1) := ⟨fuel - n - 1, by omega⟩
  rw [whileM_at st mid n (k + 1) hc hb, whileMM, hn]
  rfl
end
theorem in_intsB (neg : Bool) (x : Int) (l : List Int) : pyIn neg (.int x) (.list (l.map .int)) = some (.bool (if neg then !(decide (x ∈ l)) else decide (x ∈ l))) := by
  simp only [pyIn, shaped_int, canLay_ints, Bool.and_self, if_true]
  have e : ((l.map PyData.int).any fun e => PyData.eqv e (.int x)) = decide (x ∈ l) := by
    rw [List.any_map]
    by_cases m : x ∈ l
    · rw [decide_eq_true m, List.any_eq_true]
      exact ⟨x, m, by simp⟩
    · rw [decide_eq_false m, List.any_eq_false]
      intro u hu z
      simp at z
      exact m (z ▸ hu)
  rw [e]
theorem loopEx {β : Type} {m : R (Out (D × Wk))} {k : D × Wk → R (Out β)} {res : R (Out β)} (P : D → W → Prop) (h : ∃ d w, m = .ok (.nx (d, w.k)) ∧ P d w) (hk : ∀ d w, P d w → k (d, w.k) = res) : m.bind (Out.cont k) = res := by
  obtain ⟨d, w, e, p⟩ := h
  rw [e]
  exact hk d w p
theorem meetEx {α β : Type} {m : R (Out α)} {k : α → R (Out β)} {res : R (Out β)} (P : α → Prop) (h : ∃ a, m = .ok (.nx a) ∧ P a) (hk : ∀ a, P a → k a = res) : m.bind (Out.meet k) = res := by
  obtain ⟨a, e, p⟩ := h
  rw [e]
  exact hk a p
end Br
/-! is_row, goes_on -/
namespace Br
open PySem PySem.Spec PyProof.Rows L2
def isBeg (r : Rl) (row : List Int) : Bool := decide (1 ≤ row.length) && decide (row.length ≤ 200) && (rowOf r row.length == row)
theorem is_row_ints {r : Rl} (h : r.Ok) (row : List Int) (hl : row.length ≤ 2000) : F_is_row [.dat r.d, .dat (.list (row.map .int))] = .ok (.bool (isBeg r row)) := by
  show m_is_row _ _ = _
  unfold m_is_row isBeg
  simp -implicitDefEqProofs only [R.bind_ok, opt_some, asB_bool, lstD_eq, tupD_eq, asI_int, asLst_list, asSeq_list, asSeq_tuple, outD_rt, outD_nx, cont_nx, cont_rt, meet_nx, meet_rt, pyAdd_int, pySub_int, pyNeg_int, pyCmp_int, pyLen_list, pyLen_tuple, isNone_none, isNone_int, isNone_oD, pyIs_none, pyIsNot_none, pyEq_int, pyNe_int, List.length_map, Bool.false_eq_true, if_false, if_true, Bool.not_true, Bool.not_false, open2l, open3l, open2, open3, noexc_ok_eq, Option.isNone_none, Option.isNone_some, look_ok h, isTy]
  by_cases c1 : 1 ≤ row.length
  · by_cases c2 : row.length ≤ 200
    · have d1 : decide ((1 : Int) ≤ (row.length : Int)) = true := by simp; omega
      have d2 : decide ((row.length : Int) ≤ 200) = true := by simp; omega
      have e1 : decide (1 ≤ row.length) = true := decide_eq_true c1
      have e2 : decide (row.length ≤ 200) = true := decide_eq_true c2
      simp -implicitDefEqProofs only [R.bind_ok, opt_some, asB_bool, lstD_eq, tupD_eq, asI_int, asLst_list, asSeq_list, asSeq_tuple, outD_rt, outD_nx, cont_nx, cont_rt, meet_nx, meet_rt, pyAdd_int, pySub_int, pyNeg_int, pyCmp_int, pyLen_list, pyLen_tuple, isNone_none, isNone_int, isNone_oD, pyIs_none, pyIsNot_none, pyEq_int, pyNe_int, List.length_map, Bool.false_eq_true, if_false, if_true, Bool.not_true, Bool.not_false, open2l, open3l, open2, open3, noexc_ok_eq, Option.isNone_none, Option.isNone_some, d1, d2, e1, e2]
      rw [compD_map PyData.int (fun _ => .bool true) _ row (by omega) fun x hx => by simp -implicitDefEqProofs only [R.bind_ok, opt_some, asB_bool, lstD_eq, tupD_eq, asI_int, asLst_list, asSeq_list, asSeq_tuple, outD_rt, outD_nx, cont_nx, cont_rt, meet_nx, meet_rt, pyAdd_int, pySub_int, pyNeg_int, pyCmp_int, pyLen_list, pyLen_tuple, isNone_none, isNone_int, isNone_oD, pyIs_none, pyIsNot_none, pyEq_int, pyNe_int, List.length_map, Bool.false_eq_true, if_false, if_true, Bool.not_true, Bool.not_false, open2l, open3l, open2, open3, noexc_ok_eq, Option.isNone_none, Option.isNone_some, isTy]]
      simp -implicitDefEqProofs only [R.bind_ok, opt_some, asB_bool, lstD_eq, tupD_eq, asI_int, asLst_list, asSeq_list, asSeq_tuple, outD_rt, outD_nx, cont_nx, cont_rt, meet_nx, meet_rt, pyAdd_int, pySub_int, pyNeg_int, pyCmp_int, pyLen_list, pyLen_tuple, isNone_none, isNone_int, isNone_oD, pyIs_none, pyIsNot_none, pyEq_int, pyNe_int, List.length_map, Bool.false_eq_true, if_false, if_true, Bool.not_true, Bool.not_false, open2l, open3l, open2, open3, noexc_ok_eq, Option.isNone_none, Option.isNone_some, List.map_const', all_true, row_ok h row.length (by omega), pyEq_ints, Bool.true_and]
    · have d1 : decide ((1 : Int) ≤ (row.length : Int)) = true := by simp; omega
      have d2 : decide ((row.length : Int) ≤ 200) = false := by simp; omega
      have e2 : decide (row.length ≤ 200) = false := decide_eq_false c2
      simp -implicitDefEqProofs only [R.bind_ok, opt_some, asB_bool, lstD_eq, tupD_eq, asI_int, asLst_list, asSeq_list, asSeq_tuple, outD_rt, outD_nx, cont_nx, cont_rt, meet_nx, meet_rt, pyAdd_int, pySub_int, pyNeg_int, pyCmp_int, pyLen_list, pyLen_tuple, isNone_none, isNone_int, isNone_oD, pyIs_none, pyIsNot_none, pyEq_int, pyNe_int, List.length_map, Bool.false_eq_true, if_false, if_true, Bool.not_true, Bool.not_false, open2l, open3l, open2, open3, noexc_ok_eq, Option.isNone_none, Option.isNone_some, d1, d2, e2, Bool.and_false, Bool.false_and]
  · have d1 : decide ((1 : Int) ≤ (row.length : Int)) = false := by simp; omega
    have e1 : decide (1 ≤ row.length) = false := decide_eq_false c1
    simp -implicitDefEqProofs only [R.bind_ok, opt_some, asB_bool, lstD_eq, tupD_eq, asI_int, asLst_list, asSeq_list, asSeq_tuple, outD_rt, outD_nx, cont_nx, cont_rt, meet_nx, meet_rt, pyAdd_int, pySub_int, pyNeg_int, pyCmp_int, pyLen_list, pyLen_tuple, isNone_none, isNone_int, isNone_oD, pyIs_none, pyIsNot_none, pyEq_int, pyNe_int, List.length_map, Bool.false_eq_true, if_false, if_true, Bool.not_true, Bool.not_false, open2l, open3l, open2, open3, noexc_ok_eq, Option.isNone_none, Option.isNone_some, d1, e1, Bool.false_and]
theorem is_row_not {r : Rl} (h : r.Ok) (d : D) (hd : isTy .list d = false) : F_is_row [.dat r.d, .dat d] = .ok (.bool false) := by
  show m_is_row _ _ = _
  unfold m_is_row
  simp -implicitDefEqProofs only [R.bind_ok, opt_some, asB_bool, lstD_eq, tupD_eq, asI_int, asLst_list, asSeq_list, asSeq_tuple, outD_rt, outD_nx, cont_nx, cont_rt, meet_nx, meet_rt, pyAdd_int, pySub_int, pyNeg_int, pyCmp_int, pyLen_list, pyLen_tuple, isNone_none, isNone_int, isNone_oD, pyIs_none, pyIsNot_none, pyEq_int, pyNe_int, List.length_map, Bool.false_eq_true, if_false, if_true, Bool.not_true, Bool.not_false, open2l, open3l, open2, open3, noexc_ok_eq, Option.isNone_none, Option.isNone_some, look_ok h, hd]
theorem goes_on_ints {r : Rl} (h : r.Ok) (row : List Int) (hl : row.length ≤ 2000) : F_goes_on [.dat r.d, .dat (.list (row.map .int))] = if isBeg r row then .ok (.bool (decide (row.length < r.first.length) || (nextOf r row).isSome)) else .exc .ended := by
  show m_goes_on _ _ = _
  unfold m_goes_on
  have ix0 : pyIx r.d (.int 0) = some (.tuple (r.first.map .int)) := rfl
  simp -implicitDefEqProofs only [R.bind_ok, opt_some, asB_bool, lstD_eq, tupD_eq, asI_int, asLst_list, asSeq_list, asSeq_tuple, outD_rt, outD_nx, cont_nx, cont_rt, meet_nx, meet_rt, pyAdd_int, pySub_int, pyNeg_int, pyCmp_int, pyLen_list, pyLen_tuple, isNone_none, isNone_int, isNone_oD, pyIs_none, pyIsNot_none, pyEq_int, pyNe_int, List.length_map, Bool.false_eq_true, if_false, if_true, Bool.not_true, Bool.not_false, open2l, open3l, open2, open3, noexc_ok_eq, Option.isNone_none, Option.isNone_some, is_row_ints h row hl]
  cases hb : isBeg r row with
  | false => simp -implicitDefEqProofs only [R.bind_ok, opt_some, asB_bool, lstD_eq, tupD_eq, asI_int, asLst_list, asSeq_list, asSeq_tuple, outD_rt, outD_nx, cont_nx, cont_rt, meet_nx, meet_rt, pyAdd_int, pySub_int, pyNeg_int, pyCmp_int, pyLen_list, pyLen_tuple, isNone_none, isNone_int, isNone_oD, pyIs_none, pyIsNot_none, pyEq_int, pyNe_int, List.length_map, Bool.false_eq_true, if_false, if_true, Bool.not_true, Bool.not_false, open2l, open3l, open2, open3, noexc_ok_eq, Option.isNone_none, Option.isNone_some]; rfl
  | true =>
    simp -implicitDefEqProofs only [R.bind_ok, opt_some, asB_bool, lstD_eq, tupD_eq, asI_int, asLst_list, asSeq_list, asSeq_tuple, outD_rt, outD_nx, cont_nx, cont_rt, meet_nx, meet_rt, pyAdd_int, pySub_int, pyNeg_int, pyCmp_int, pyLen_list, pyLen_tuple, isNone_none, isNone_int, isNone_oD, pyIs_none, pyIsNot_none, pyEq_int, pyNe_int, List.length_map, Bool.false_eq_true, if_false, if_true, Bool.not_true, Bool.not_false, open2l, open3l, open2, open3, noexc_ok_eq, Option.isNone_none, Option.isNone_some, ix0]
    by_cases c : row.length < r.first.length
    · have d1 : decide ((row.length : Int) < (r.first.length : Int)) = true := by simp; omega
      simp -implicitDefEqProofs only [R.bind_ok, opt_some, asB_bool, lstD_eq, tupD_eq, asI_int, asLst_list, asSeq_list, asSeq_tuple, outD_rt, outD_nx, cont_nx, cont_rt, meet_nx, meet_rt, pyAdd_int, pySub_int, pyNeg_int, pyCmp_int, pyLen_list, pyLen_tuple, isNone_none, isNone_int, isNone_oD, pyIs_none, pyIsNot_none, pyEq_int, pyNe_int, List.length_map, Bool.false_eq_true, if_false, if_true, Bool.not_true, Bool.not_false, open2l, open3l, open2, open3, noexc_ok_eq, Option.isNone_none, Option.isNone_some, d1, decide_eq_true c, Bool.true_or]
    · have d1 : decide ((row.length : Int) < (r.first.length : Int)) = false := by simp; omega
      have hn : F_next_number [.dat r.d, .bor (.lst (row.map .int))] = .ok (oD (nextOf r row)) := next_eq r row h.t2 h.dep
      simp -implicitDefEqProofs only [R.bind_ok, opt_some, asB_bool, lstD_eq, tupD_eq, asI_int, asLst_list, asSeq_list, asSeq_tuple, outD_rt, outD_nx, cont_nx, cont_rt, meet_nx, meet_rt, pyAdd_int, pySub_int, pyNeg_int, pyCmp_int, pyLen_list, pyLen_tuple, isNone_none, isNone_int, isNone_oD, pyIs_none, pyIsNot_none, pyEq_int, pyNe_int, List.length_map, Bool.false_eq_true, if_false, if_true, Bool.not_true, Bool.not_false, open2l, open3l, open2, open3, noexc_ok_eq, Option.isNone_none, Option.isNone_some, d1, decide_eq_false c, Bool.false_or, hn]
      cases nextOf r row <;> rfl
/-! steps back -/
def W.bk (w : W) : W := match w.past.getLast? with
  | none => w
  | some s => ⟨w.r, s.2, w.past.dropLast, w.later ++ [(s.1, w.row)]⟩
theorem lastOf {ss : List Stp} {s : Stp} (h : ss.getLast? = some s) : ss = ss.dropLast ++ [s] := by
  have hn : ss ≠ [] := by intro z; rw [z] at h; cases h
  have e := List.dropLast_concat_getLast hn
  rw [List.getLast?_eq_getLast hn] at h
  cases h
  exact e.symm
/-- the row from which the walk set out -/
def W.start (w : W) : List Int := ((w.past.map (·.2)) ++ [w.row]).headD []
theorem start_nil (w : W) (h : w.past = []) : w.start = w.row := by unfold W.start; rw [h]; rfl
theorem bk_start (w : W) : w.bk.start = w.start := by
  unfold W.bk
  cases h : w.past.getLast? with
  | none => rfl
  | some s =>
    have e := lastOf h
    unfold W.start
    conv => rhs; rw [e]
    simp only [List.map_append, List.map_cons, List.map_nil]
    cases w.past.dropLast <;> rfl
theorem bk_past (w : W) : w.bk.past = w.past.dropLast := by
  unfold W.bk
  cases h : w.past.getLast? with
  | none =>
    have e := List.getLast?_eq_none_iff.mp h
    simp only [e]
    rfl
  | some s => rfl
theorem bk_later (w : W) : w.bk.later.length ≤ w.later.length + 1 := by
  unfold W.bk
  cases h : w.past.getLast? with
  | none => exact Nat.le_succ _
  | some s => show (w.later ++ [_]).length ≤ _; simp
theorem bk_r (w : W) : w.bk.r = w.r := by
  unfold W.bk
  cases h : w.past.getLast? <;> rfl
theorem bk_w (w : W) (hn : w.past ≠ []) (ho : WOk w.past) (hl : w.later.length ≤ 1000) : ∃ d, m_Walk_back w.k = .ok (d, w.bk.k) := by
  cases h : w.past.getLast? with
  | none => exact absurd (List.getLast?_eq_none_iff.mp h) hn
  | some s =>
    have e := lastOf h
    have b := back_w w _ s e ho hl
    have eb : w.bk = ⟨w.r, s.2, w.past.dropLast, w.later ++ [(s.1, w.row)]⟩ := by unfold W.bk; rw [h]
    rw [eb]
    exact ⟨_, b⟩
def W.bks (w : W) : Nat → W
  | 0 => w
  | i + 1 => (w.bks i).bk
theorem bks_inv (w : W) (ho : WOk w.past) : ∀ i, i ≤ w.past.length → (w.bks i).past.length = w.past.length - i ∧ WOk (w.bks i).past ∧ (w.bks i).later.length ≤ w.later.length + i ∧ (w.bks i).r = w.r ∧ (w.bks i).start = w.start
  | 0, _ => ⟨rfl, ho, Nat.le_refl _, rfl, rfl⟩
  | i + 1, hi => by
    obtain ⟨a, b, c, d, e⟩ := bks_inv w ho i (by omega)
    refine ⟨?_, ?_, ?_, ?_, ?_⟩
    · show (w.bks i).bk.past.length = _
      rw [bk_past, List.length_dropLast]
      omega
    · show WOk (w.bks i).bk.past
      rw [bk_past]
      exact fun s hs => b s (List.dropLast_subset _ hs)
    · have := bk_later (w.bks i)
      show (w.bks i).bk.later.length ≤ _
      omega
    · show (w.bks i).bk.r = _
      rw [bk_r, d]
    · show (w.bks i).bk.start = _
      rw [bk_start, e]
/-- deeds keep from where the walk set out -/
theorem do_start (w : W) (word : Str) (row : List Int) : (w.do word row).start = w.start := by
  unfold W.start W.do
  simp only [List.map_append, List.map_cons, List.map_nil]
  cases w.past <;> rfl
theorem did_start (w : W) (d : Dd) : (w.did d).start = w.start := by
  unfold W.did
  cases d.row w.r w.row with
  | none => rfl
  | some row => exact do_start w d.word row
theorem word_ok (d : Dd) : d.word = sGo ∨ d.word = sPoke := by
  cases d
  · exact .inl rfl
  · exact .inr rfl
theorem did_wok (w : W) (d : Dd) (h : WOk w.past) : WOk (w.did d).past := by
  unfold W.did
  cases d.row w.r w.row with
  | none => exact h
  | some row =>
    intro s hs
    rcases List.mem_append.mp hs with hs | hs
    · exact h s hs
    · rw [List.mem_singleton.mp hs]
      exact word_ok d
theorem did_len (w : W) (d : Dd) (h : w.row ≠ []) : w.row.length ≤ (w.did d).row.length := by
  have hp : 0 < w.row.length := List.length_pos_iff.mpr h
  rw [did_row]
  cases d with
  | go n =>
    unfold Dd.row
    cases nextOf w.r w.row with
    | none => simp
    | some x => simp
  | poke n => simp [Dd.row]; omega
theorem did_later (w : W) (d : Dd) (h : w.later = []) : (w.did d).later = [] := by
  unfold W.did
  cases d.row w.r w.row with
  | none => exact h
  | some row => rfl
end Br
namespace Br
open PySem PySem.Spec PyProof.Rows L2
namespace K69
def lastI (w : W) : Int := w.row.getD (w.row.length - 1) 0
def absI (n : Int) : Int := if n < 0 then -n else n
def dAt (ns : List Int) (i : Nat) (w : W) : Dd := if pick ns (100 + (i : Int)) 6 = 0 ∧ absI (lastI w) < 900 then .poke (lastI w + pick ns (120 + (i : Int)) 2) else .go 0
def wAt (ns : List Int) (r : Rl) : Nat → W
  | 0 => ⟨r, r.first, [], []⟩
  | i + 1 => (wAt ns r i).did (dAt ns i (wAt ns r i))
structure Inv (r : Rl) (i : Nat) (w : W) : Prop where
  rr : w.r = r
  ne : w.row ≠ []
  lo : r.first.length ≤ w.row.length
  le : w.row.length ≤ 6 + i
  ok : WOk w.past
  few : w.past.length ≤ i
  st : w.start = r.first
  la : w.later = []
theorem dAt_ok (ns : List Int) (i : Nat) (w : W) : (dAt ns i w).Ok := by
  have a := pick_nn ns (120 + (i : Int)) 2 (by decide)
  have b := pick_lt ns (120 + (i : Int)) 2 (by decide)
  unfold dAt
  split
  · rename_i h
    have h2 := h.2
    unfold absI at h2
    split at h2 <;> exact ⟨by omega, by omega⟩
  · trivial
theorem due_ended (d : Dd) (r : Rl) (row : List Int) : (d.due r row = .str sEnded ∧ d.row r row = none) ∨ ∃ x, d.due r row = .int x := by
  cases d with
  | go n =>
    unfold Dd.due Dd.row
    cases hn : nextOf r row with
    | none => exact .inl ⟨rfl, rfl⟩
    | some x => exact .inr ⟨x, rfl⟩
  | poke n => exact .inr ⟨_, rfl⟩
theorem eq_ended : pyEq (.str sEnded) (.str sEnded) = some (.bool true) := by kernel_rfl
theorem eq_int_str (x : Int) (s : Str) (h : SeqAt.shaped (.str s) = true) : pyEq (.int x) (.str s) = some (.bool false) := by simp [pyEq, h, PyData.eqv]
theorem ite_okF (c b : Bool) : (if c = true then R.ok b else R.ok false : R Bool) = .ok (c && b) := by cases c <;> rfl
theorem law_true (ns : List Int) (h : ns.length ≤ 63) : F_law [.bor (.lst (ns.map PyData.int))] = .ok (.bool true) := by
  show m_law (ns.map .int) = _
  have ok := lawRl_ok ns 10
  have hrule := F_law_rule ns 10 (by decide)
  generalize lawRl ns 10 = r at *
  have f1 := ok.f1
  have f2 := ok.f2
  have inv : ∀ i, Inv r i (wAt ns r i) := by
    intro i
    induction i with
    | zero => exact ⟨rfl, List.ne_nil_of_length_pos f1, Nat.le_refl _, f2, (fun s hs => by cases hs), Nat.le_refl _, rfl, rfl⟩
    | succ i v =>
      obtain ⟨a, b, c, d⟩ := did_inv (wAt ns r i) (dAt ns i (wAt ns r i)) v.ne
      have l := did_len (wAt ns r i) (dAt ns i (wAt ns r i)) v.ne
      have v1 := v.lo; have v2 := v.le; have v3 := v.few
      exact ⟨a.trans v.rr, b, Nat.le_trans v1 l, by show ((wAt ns r i).did _).row.length ≤ _; omega, did_wok _ _ v.ok, by show ((wAt ns r i).did _).past.length ≤ _; omega, (did_start _ _).trans v.st, did_later _ _ v.la⟩
  unfold m_law
  simp -implicitDefEqProofs only [R.bind_ok, opt_some, asB_bool, lstD_eq, tupD_eq, asI_int, asLst_list, asSeq_list, asSeq_tuple, outD_rt, outD_nx, cont_nx, cont_rt, meet_nx, meet_rt, pyAdd_int, pySub_int, pyNeg_int, pyCmp_int, pyLen_list, pyLen_tuple, isNone_none, isNone_int, isNone_oD, pyIs_none, pyIsNot_none, pyEq_int, pyNe_int, List.length_map, Bool.false_eq_true, if_false, if_true, Bool.not_true, Bool.not_false, open2l, open3l, open2, open3, noexc_ok_eq, Option.isNone_none, Option.isNone_some, hrule, init_w ok]
  rw [rng1_eq 14 (by decide) (by decide)]
  simp -implicitDefEqProofs only [R.bind_ok, opt_some, asB_bool, lstD_eq, tupD_eq, asI_int, asLst_list, asSeq_list, asSeq_tuple, outD_rt, outD_nx, cont_nx, cont_rt, meet_nx, meet_rt, pyAdd_int, pySub_int, pyNeg_int, pyCmp_int, pyLen_list, pyLen_tuple, isNone_none, isNone_int, isNone_oD, pyIs_none, pyIsNot_none, pyEq_int, pyNe_int, List.length_map, Bool.false_eq_true, if_false, if_true, Bool.not_true, Bool.not_false, open2l, open3l, open2, open3, noexc_ok_eq, Option.isNone_none, Option.isNone_some]
  refine loopv (wAt ns r 14).k ?_ ?_
  · rw [show (14 : Int).toNat = 14 from rfl, for_rng (st := fun i => (wAt ns r i).k) (h0 := by rfl) (hs := ?hs)]
    case hs =>
      intro i hi
      have v := inv i
      have v' := inv (i + 1)
      have e1 : wAt ns r (i + 1) = (wAt ns r i).did (dAt ns i (wAt ns r i)) := rfl
      have dok := dAt_ok ns i (wAt ns r i)
      have hdd : dAt ns i (wAt ns r i) = dAt ns i (wAt ns r i) := rfl
      have e0 : (0 : Int) + (i : Int) = (i : Int) := by omega
      generalize wAt ns r (i + 1) = w' at *
      generalize wAt ns r i = w at *
      have okw : w.r.Ok := by rw [v.rr]; exact ok
      have okw' : w'.r.Ok := by rw [v'.rr]; exact ok
      have le := v.le; have le' := v'.le; have few := v.few; have few' := v'.few; have lo' := v'.lo
      rw [e0]
      simp -implicitDefEqProofs only [R.bind_ok, opt_some, asB_bool, lstD_eq, tupD_eq, asI_int, asLst_list, asSeq_list, asSeq_tuple, outD_rt, outD_nx, cont_nx, cont_rt, meet_nx, meet_rt, pyAdd_int, pySub_int, pyNeg_int, pyCmp_int, pyLen_list, pyLen_tuple, isNone_none, isNone_int, isNone_oD, pyIs_none, pyIsNot_none, pyEq_int, pyNe_int, List.length_map, Bool.false_eq_true, if_false, if_true, Bool.not_true, Bool.not_false, open2l, open3l, open2, open3, noexc_ok_eq, Option.isNone_none, Option.isNone_some, F_pick ns (100 + (i : Int)) 6 (by omega) (by decide), row_w, ix_last w.row v.ne, F_pick ns (120 + (i : Int)) 2 (by omega) (by decide), pyAbs]
      -- the deed
      rw [ite_okF]
      simp -implicitDefEqProofs only [R.bind_ok, opt_some, asB_bool, lstD_eq, tupD_eq, asI_int, asLst_list, asSeq_list, asSeq_tuple, outD_rt, outD_nx, cont_nx, cont_rt, meet_nx, meet_rt, pyAdd_int, pySub_int, pyNeg_int, pyCmp_int, pyLen_list, pyLen_tuple, isNone_none, isNone_int, isNone_oD, pyIs_none, pyIsNot_none, pyEq_int, pyNe_int, List.length_map, Bool.false_eq_true, if_false, if_true, Bool.not_true, Bool.not_false, open2l, open3l, open2, open3, noexc_ok_eq, Option.isNone_none, Option.isNone_some]
      refine meetEx (fun z => z = (dAt ns i w).d) ?_ ?_
      · by_cases c : pick ns (100 + (i : Int)) 6 = 0 ∧ absI (lastI w) < 900
        · have ed : dAt ns i w = .poke (lastI w + pick ns (120 + (i : Int)) 2) := if_pos c
          have hb : ((pick ns (100 + (i : Int)) 6 == 0) && decide ((if w.row.getD (w.row.length - 1) 0 < 0 then -w.row.getD (w.row.length - 1) 0 else w.row.getD (w.row.length - 1) 0) < 900)) = true := by
            rw [Bool.and_eq_true]
            exact ⟨by simpa using c.1, decide_eq_true c.2⟩
          rw [ed, hb]
          simp -implicitDefEqProofs only [R.bind_ok, opt_some, asB_bool, lstD_eq, tupD_eq, asI_int, asLst_list, asSeq_list, asSeq_tuple, outD_rt, outD_nx, cont_nx, cont_rt, meet_nx, meet_rt, pyAdd_int, pySub_int, pyNeg_int, pyCmp_int, pyLen_list, pyLen_tuple, isNone_none, isNone_int, isNone_oD, pyIs_none, pyIsNot_none, pyEq_int, pyNe_int, List.length_map, Bool.false_eq_true, if_false, if_true, Bool.not_true, Bool.not_false, open2l, open3l, open2, open3, noexc_ok_eq, Option.isNone_none, Option.isNone_some]
          exact ⟨_, rfl, rfl⟩
        · have ed : dAt ns i w = .go 0 := if_neg c
          have hb : ((pick ns (100 + (i : Int)) 6 == 0) && decide ((if w.row.getD (w.row.length - 1) 0 < 0 then -w.row.getD (w.row.length - 1) 0 else w.row.getD (w.row.length - 1) 0) < 900)) = false := by
            cases hb : ((pick ns (100 + (i : Int)) 6 == 0) && decide ((if w.row.getD (w.row.length - 1) 0 < 0 then -w.row.getD (w.row.length - 1) 0 else w.row.getD (w.row.length - 1) 0) < 900)) with
            | false => rfl
            | true =>
              rw [Bool.and_eq_true] at hb
              exact absurd ⟨by simpa using hb.1, of_decide_eq_true hb.2⟩ c
          rw [ed, hb]
          simp -implicitDefEqProofs only [R.bind_ok, opt_some, asB_bool, lstD_eq, tupD_eq, asI_int, asLst_list, asSeq_list, asSeq_tuple, outD_rt, outD_nx, cont_nx, cont_rt, meet_nx, meet_rt, pyAdd_int, pySub_int, pyNeg_int, pyCmp_int, pyLen_list, pyLen_tuple, isNone_none, isNone_int, isNone_oD, pyIs_none, pyIsNot_none, pyEq_int, pyNe_int, List.length_map, Bool.false_eq_true, if_false, if_true, Bool.not_true, Bool.not_false, open2l, open3l, open2, open3, noexc_ok_eq, Option.isNone_none, Option.isNone_some]
          exact ⟨_, rfl, rfl⟩
      intro z hz
      subst hz
      have hdone := done_w w (dAt ns i w) okw dok v.ne (by omega) (by omega)
      rw [← e1, v.rr] at hdone
      have ht := true_w w' okw' (by omega)
      rw [v'.rr] at ht
      have hbeg : isBeg r w'.row = (rowOf r w'.row.length == w'.row) := by
        unfold isBeg
        rw [decide_eq_true (by omega), decide_eq_true (by omega)]
        rfl
      have hir := is_row_ints ok w'.row (by omega)
      rw [hbeg] at hir
      have hgo := goes_on_ints ok w'.row (by omega)
      rw [hbeg] at hgo
      have hnu := numbers_ok ok w'.row.length (by omega) (by omega)
      have hrow : w'.row = ((dAt ns i w).row w.r w.row).getD w.row := by rw [e1, did_row]
      rw [v.rr] at hrow
      have hdue := due_ended (dAt ns i w) r w.row
      generalize dAt ns i w = d at *
      simp -implicitDefEqProofs only [R.bind_ok, opt_some, asB_bool, lstD_eq, tupD_eq, asI_int, asLst_list, asSeq_list, asSeq_tuple, outD_rt, outD_nx, cont_nx, cont_rt, meet_nx, meet_rt, pyAdd_int, pySub_int, pyNeg_int, pyCmp_int, pyLen_list, pyLen_tuple, isNone_none, isNone_int, isNone_oD, pyIs_none, pyIsNot_none, pyEq_int, pyNe_int, List.length_map, Bool.false_eq_true, if_false, if_true, Bool.not_true, Bool.not_false, open2l, open3l, open2, open3, noexc_ok_eq, Option.isNone_none, Option.isNone_some, hdone, row_w, hir, ht, pyNe_bool, beq_self_eq_true, hnu, pyEq_ints]
      refine meetEx (fun z => z = w'.k) ?_ ?_
      · cases hb : (rowOf r w'.row.length == w'.row) with
        | true =>
          rw [hb, if_pos rfl] at hgo
          have gw := go_w w' okw' (by omega) (by omega)
          unfold W.go at gw
          rw [v'.rr, if_neg (by omega)] at gw
          rw [decide_eq_false (by omega), Bool.false_or] at hgo
          simp -implicitDefEqProofs only [R.bind_ok, opt_some, asB_bool, lstD_eq, tupD_eq, asI_int, asLst_list, asSeq_list, asSeq_tuple, outD_rt, outD_nx, cont_nx, cont_rt, meet_nx, meet_rt, pyAdd_int, pySub_int, pyNeg_int, pyCmp_int, pyLen_list, pyLen_tuple, isNone_none, isNone_int, isNone_oD, pyIs_none, pyIsNot_none, pyEq_int, pyNe_int, List.length_map, Bool.false_eq_true, if_false, if_true, Bool.not_true, Bool.not_false, open2l, open3l, open2, open3, noexc_ok_eq, Option.isNone_none, Option.isNone_some, twin_w w' okw']
          cases hn : nextOf r w'.row with
          | none =>
            rw [hn] at gw hgo
            simp -implicitDefEqProofs only [R.bind_ok, opt_some, asB_bool, lstD_eq, tupD_eq, asI_int, asLst_list, asSeq_list, asSeq_tuple, outD_rt, outD_nx, cont_nx, cont_rt, meet_nx, meet_rt, pyAdd_int, pySub_int, pyNeg_int, pyCmp_int, pyLen_list, pyLen_tuple, isNone_none, isNone_int, isNone_oD, pyIs_none, pyIsNot_none, pyEq_int, pyNe_int, List.length_map, Bool.false_eq_true, if_false, if_true, Bool.not_true, Bool.not_false, open2l, open3l, open2, open3, noexc_ok_eq, Option.isNone_none, Option.isNone_some, gw, R.bind_exc, toldM, ended_told, ne_ended, hgo, Option.isSome_none, pyNe_bool, beq_self_eq_true]
            exact ⟨_, rfl, rfl⟩
          | some x =>
            rw [hn] at gw hgo
            simp -implicitDefEqProofs only [R.bind_ok, opt_some, asB_bool, lstD_eq, tupD_eq, asI_int, asLst_list, asSeq_list, asSeq_tuple, outD_rt, outD_nx, cont_nx, cont_rt, meet_nx, meet_rt, pyAdd_int, pySub_int, pyNeg_int, pyCmp_int, pyLen_list, pyLen_tuple, isNone_none, isNone_int, isNone_oD, pyIs_none, pyIsNot_none, pyEq_int, pyNe_int, List.length_map, Bool.false_eq_true, if_false, if_true, Bool.not_true, Bool.not_false, open2l, open3l, open2, open3, noexc_ok_eq, Option.isNone_none, Option.isNone_some, gw, toldM, ne_int_str _ _ shaped_ended, hgo, Option.isSome_some, pyNe_bool, beq_self_eq_true]
            exact ⟨_, rfl, rfl⟩
        | false =>
          rw [hb, if_neg Bool.false_ne_true] at hgo
          simp -implicitDefEqProofs only [R.bind_ok, opt_some, asB_bool, lstD_eq, tupD_eq, asI_int, asLst_list, asSeq_list, asSeq_tuple, outD_rt, outD_nx, cont_nx, cont_rt, meet_nx, meet_rt, pyAdd_int, pySub_int, pyNeg_int, pyCmp_int, pyLen_list, pyLen_tuple, isNone_none, isNone_int, isNone_oD, pyIs_none, pyIsNot_none, pyEq_int, pyNe_int, List.length_map, Bool.false_eq_true, if_false, if_true, Bool.not_true, Bool.not_false, open2l, open3l, open2, open3, noexc_ok_eq, Option.isNone_none, Option.isNone_some, hgo, toldR, ended_told, ne_ended]
          exact ⟨_, rfl, rfl⟩
      intro z hz
      subst hz
      rcases hdue with ⟨hd1, hd2⟩ | ⟨x, hd1⟩
      · rw [hd2] at hrow
        rw [hd1, hrow]
        simp -implicitDefEqProofs only [R.bind_ok, opt_some, asB_bool, lstD_eq, tupD_eq, asI_int, asLst_list, asSeq_list, asSeq_tuple, outD_rt, outD_nx, cont_nx, cont_rt, meet_nx, meet_rt, pyAdd_int, pySub_int, pyNeg_int, pyCmp_int, pyLen_list, pyLen_tuple, isNone_none, isNone_int, isNone_oD, pyIs_none, pyIsNot_none, pyEq_int, pyNe_int, List.length_map, Bool.false_eq_true, if_false, if_true, Bool.not_true, Bool.not_false, open2l, open3l, open2, open3, noexc_ok_eq, Option.isNone_none, Option.isNone_some, eq_ended, pyNe_ints, beq_self_eq_true, Option.getD_none]
      · rw [hd1]
        simp -implicitDefEqProofs only [R.bind_ok, opt_some, asB_bool, lstD_eq, tupD_eq, asI_int, asLst_list, asSeq_list, asSeq_tuple, outD_rt, outD_nx, cont_nx, cont_rt, meet_nx, meet_rt, pyAdd_int, pySub_int, pyNeg_int, pyCmp_int, pyLen_list, pyLen_tuple, isNone_none, isNone_int, isNone_oD, pyIs_none, pyIsNot_none, pyEq_int, pyNe_int, List.length_map, Bool.false_eq_true, if_false, if_true, Bool.not_true, Bool.not_false, open2l, open3l, open2, open3, noexc_ok_eq, Option.isNone_none, Option.isNone_some, eq_int_str _ _ shaped_ended]
  · have v := inv 14
    generalize wAt ns r 14 = w at *
    have bi := bks_inv w v.ok
    have few := v.few
    have x0 : ∀ a b : D, pyIx (.tuple [a, b]) (.int 0) = some a := fun _ _ => rfl
    refine loopv (w.bks w.past.length).k ?_ ?_
    · rw [while_nx (st := fun i => (w.bks i).k) w.past.length (h0 := by rfl) (by omega) (hc := ?hc) (hb := ?hb) (hn := ?hn)]
      case hc =>
        intro i hi
        obtain ⟨b1, b2, b3, b4, b5⟩ := bi i (by omega)
        have d1 : decide ((0 : Int) < ((w.bks i).past.length : Int)) = true := by simp; omega
        simp -implicitDefEqProofs only [R.bind_ok, opt_some, asB_bool, lstD_eq, tupD_eq, asI_int, asLst_list, asSeq_list, asSeq_tuple, outD_rt, outD_nx, cont_nx, cont_rt, meet_nx, meet_rt, pyAdd_int, pySub_int, pyNeg_int, pyCmp_int, pyLen_list, pyLen_tuple, isNone_none, isNone_int, isNone_oD, pyIs_none, pyIsNot_none, pyEq_int, pyNe_int, List.length_map, Bool.false_eq_true, if_false, if_true, Bool.not_true, Bool.not_false, open2l, open3l, open2, open3, noexc_ok_eq, Option.isNone_none, Option.isNone_some, counts_w, x0, d1]
      case hb =>
        intro i hi
        obtain ⟨b1, b2, b3, b4, b5⟩ := bi i (by omega)
        have la : w.later.length = 0 := by rw [v.la]; rfl
        obtain ⟨d, hb⟩ := bk_w (w.bks i) (by intro z; rw [z] at b1; simp at b1; omega) b2 (by omega)
        simp -implicitDefEqProofs only [R.bind_ok, opt_some, asB_bool, lstD_eq, tupD_eq, asI_int, asLst_list, asSeq_list, asSeq_tuple, outD_rt, outD_nx, cont_nx, cont_rt, meet_nx, meet_rt, pyAdd_int, pySub_int, pyNeg_int, pyCmp_int, pyLen_list, pyLen_tuple, isNone_none, isNone_int, isNone_oD, pyIs_none, pyIsNot_none, pyEq_int, pyNe_int, List.length_map, Bool.false_eq_true, if_false, if_true, Bool.not_true, Bool.not_false, open2l, open3l, open2, open3, noexc_ok_eq, Option.isNone_none, Option.isNone_some, hb]
        rfl
      case hn =>
        obtain ⟨b1, b2, b3, b4, b5⟩ := bi w.past.length (Nat.le_refl _)
        have d1 : decide ((0 : Int) < ((w.bks w.past.length).past.length : Int)) = false := decide_eq_false (by rw [b1]; omega)
        simp -implicitDefEqProofs only [R.bind_ok, opt_some, asB_bool, lstD_eq, tupD_eq, asI_int, asLst_list, asSeq_list, asSeq_tuple, outD_rt, outD_nx, cont_nx, cont_rt, meet_nx, meet_rt, pyAdd_int, pySub_int, pyNeg_int, pyCmp_int, pyLen_list, pyLen_tuple, isNone_none, isNone_int, isNone_oD, pyIs_none, pyIsNot_none, pyEq_int, pyNe_int, List.length_map, Bool.false_eq_true, if_false, if_true, Bool.not_true, Bool.not_false, open2l, open3l, open2, open3, noexc_ok_eq, Option.isNone_none, Option.isNone_some, counts_w, x0, d1]
    · obtain ⟨b1, b2, b3, b4, b5⟩ := bi w.past.length (Nat.le_refl _)
      have pn : (w.bks w.past.length).past = [] := List.eq_nil_of_length_eq_zero (by rw [b1, Nat.sub_self])
      have rw0 : (w.bks w.past.length).row = r.first := by rw [← start_nil _ pn, b5, v.st]
      have i1 := is_row_ints ok r.first (by omega)
      have e1 : isBeg r r.first = true := by
        unfold isBeg
        rw [decide_eq_true (by omega), decide_eq_true (by omega), rowOf_first, beq_self_eq_true]
        rfl
      rw [e1] at i1
      have i2 : F_is_row [.dat r.d, .dat (.list [])] = .ok (.bool false) := is_row_ints ok [] (by simp)
      have i3 := is_row_not ok (.tuple (r.first.map .int)) rfl
      have ist : pyIs (.bool true) (.bool true) = some (.bool true) := by rfl
      have isf : pyIs (.bool false) (.bool false) = some (.bool true) := by rfl
      simp -implicitDefEqProofs only [R.bind_ok, opt_some, asB_bool, lstD_eq, tupD_eq, asI_int, asLst_list, asSeq_list, asSeq_tuple, outD_rt, outD_nx, cont_nx, cont_rt, meet_nx, meet_rt, pyAdd_int, pySub_int, pyNeg_int, pyCmp_int, pyLen_list, pyLen_tuple, isNone_none, isNone_int, isNone_oD, pyIs_none, pyIsNot_none, pyEq_int, pyNe_int, List.length_map, Bool.false_eq_true, if_false, if_true, Bool.not_true, Bool.not_false, open2l, open3l, open2, open3, noexc_ok_eq, Option.isNone_none, Option.isNone_some, row_w, rw0, i1, ist, i2, isf, i3]
end K69
end Br
/-! the end of a law whose defs make lambdas -/
namespace Br
open PySem PySem.Spec PyProof.Rows L2
/-- the table of the code object at c -/
def tabOf (K : PySem.W.Frag) (c : Addr) : Addr := match K.lookup c with
  | some ⟨_, _, .fields vs, _⟩ => (match (vs[11]? : Option Value) with
    | some (.ref P) => P
    | _ => 0)
  | _ => 0
/-- what the head knows of the law at the heap h -/
def LawAt (l : PySem.W.OpenLaw) (w : World) (K : PySem.W.Frag) (k : Nat) (mg : Str → Option Value) (fa : Addr) (h : Heap) : Prop :=
  ∃ (fd : FuncData) (cs : List (Addr × Addr)) (T : Tb), (∀ p ∈ cs, h.get? p.2 = some { cls := .none, data := .fields #[] }) ∧ (∀ p ∈ cs, K.lookup p.2 = none) ∧ (∀ p ∈ cs, PySem.W.CodeHd h p.1 p.2) ∧
    (∀ H : Hp, (∀ p ∈ cs, H p.2 = some (.tbl #[])) → LamX.Tabs T H) ∧ (∀ (s : Shared) (u : Value), BindsTo s fd ⟨[u], []⟩ [("script", u)]) ∧
    ∀ base : Heap, K.In base → base.Ns mainGlobals mg → (∀ p ∈ cs, LamX.TabB base mg p.1 p.2) → FnOk l.prog w K mg base (L2.CX l.prog w) k fa fd ["script"] (spLaw T K)
theorem walk_ofXT {l : PySem.W.OpenLaw} {k : Nat} {q : Program} {loose : List Str} {XP : (Str → Option Value) → Heap → Prop} {YP : World → Heap → Prop} {d : DefRec} {K : Params → PySem.W.Frag}
    (hn : l.most = some 63) (hdf : d.params.defaults = []) (hr : Room k callerA) (hY : ∀ (w : World) (h : Heap), YP w h → (K w.params).In h)
    (F : ∀ (w : World) (mg : Str → Option Value) (fa : Addr) (h : Heap), YP w h → (K w.params).In h → h.Ns mainGlobals mg → XP mg h → mg d.name = some (.ref fa) → LawAt l w (K w.params) k mg fa h) :
    PySem.W.WalkO q loose XP YP l.row.toRowW d [] (fun f vs => PySem.call f vs) := by
  refine Att.attach_callB hn hdf fun w s0 s1 mg mb fa o pm cd doc a vs ns G Y ho hd hcd hmg hobj hints hlen hbits hg => ?_
  have KX := hY w _ Y
  obtain ⟨fd, cs, T, hT, nT, C, tb, hb, hF⟩ := F w mg fa _ Y KX G.T.g G.X hmg
  exact LamX.law_callTs KX G.T.g G.T.b G.T.builtins G.T.nolimit hg hT nT C G.T.bmain hobj hints (Nat.le_trans hlen (by decide)) hr hF hb (fun H hH hS => ⟨a, ns, rfl, tb H hH, hS, hlen, fun _ => rfl⟩) fun H e s' h => by
    obtain ⟨_, _, _, _, _, _, _, _, _, _, _, _, z⟩ := h
    exact z
end Br
namespace Br
open PySem PySem.Spec PyProof.Rows L2
namespace K69
theorem all_mk {P : Program} {w : World} {K : PySem.W.Frag} {h : Heap} {mg : Str → Option Value} {fa : Addr} (X : K.In h) (G : h.Ns mainGlobals mg) (hfa : mg "law" = some (.ref fa))
    {C_Walk : Addr}
    {f_is_whole : Addr} {od_is_whole an_is_whole : Option Addr} {sl_is_whole : Array (Option Value)} {oc_is_whole kV_is_whole dc_is_whole pm_is_whole cd_is_whole ct_is_whole : Value}
    {f_is_term_in : Addr} {od_is_term_in an_is_term_in : Option Addr} {sl_is_term_in : Array (Option Value)} {oc_is_term_in kV_is_term_in dc_is_term_in pm_is_term_in cd_is_term_in ct_is_term_in : Value}
    {f_is_term : Addr} {od_is_term an_is_term : Option Addr} {sl_is_term : Array (Option Value)} {oc_is_term kV_is_term dc_is_term pm_is_term cd_is_term ct_is_term : Value}
    {f_is_rule : Addr} {od_is_rule an_is_rule : Option Addr} {sl_is_rule : Array (Option Value)} {oc_is_rule kV_is_rule dc_is_rule pm_is_rule cd_is_rule ct_is_rule : Value}
    {f_look_rule : Addr} {od_look_rule an_look_rule : Option Addr} {sl_look_rule : Array (Option Value)} {oc_look_rule kV_look_rule dc_look_rule pm_look_rule cd_look_rule ct_look_rule : Value}
    {f_look_many : Addr} {od_look_many an_look_many : Option Addr} {sl_look_many : Array (Option Value)} {oc_look_many kV_look_many dc_look_many pm_look_many cd_look_many ct_look_many : Value}
    {f_place_of : Addr} {od_place_of an_place_of : Option Addr} {sl_place_of : Array (Option Value)} {oc_place_of kV_place_of dc_place_of pm_place_of cd_place_of ct_place_of : Value}
    {f_number_of : Addr} {od_number_of an_number_of : Option Addr} {sl_number_of : Array (Option Value)} {oc_number_of kV_number_of dc_number_of pm_number_of cd_number_of ct_number_of : Value}
    {f_next_number : Addr} {od_next_number an_next_number : Option Addr} {sl_next_number : Array (Option Value)} {oc_next_number kV_next_number dc_next_number pm_next_number cd_next_number ct_next_number : Value}
    {f_row_of : Addr} {od_row_of an_row_of : Option Addr} {sl_row_of : Array (Option Value)} {oc_row_of kV_row_of dc_row_of pm_row_of cd_row_of ct_row_of : Value}
    {f_numbers : Addr} {od_numbers an_numbers : Option Addr} {sl_numbers : Array (Option Value)} {oc_numbers kV_numbers dc_numbers pm_numbers cd_numbers ct_numbers : Value}
    {f_is_row : Addr} {od_is_row an_is_row : Option Addr} {sl_is_row : Array (Option Value)} {oc_is_row kV_is_row dc_is_row pm_is_row cd_is_row ct_is_row : Value}
    {f_goes_on : Addr} {od_goes_on an_goes_on : Option Addr} {sl_goes_on : Array (Option Value)} {oc_goes_on kV_goes_on dc_goes_on pm_goes_on cd_goes_on ct_goes_on : Value}
    {f_Walk___init__ : Addr} {od_Walk___init__ an_Walk___init__ : Option Addr} {sl_Walk___init__ : Array (Option Value)} {oc_Walk___init__ kV_Walk___init__ dc_Walk___init__ pm_Walk___init__ cd_Walk___init__ ct_Walk___init__ : Value}
    {f_Walk_do : Addr} {od_Walk_do an_Walk_do : Option Addr} {sl_Walk_do : Array (Option Value)} {oc_Walk_do kV_Walk_do dc_Walk_do pm_Walk_do cd_Walk_do ct_Walk_do : Value}
    {f_Walk_go : Addr} {od_Walk_go an_Walk_go : Option Addr} {sl_Walk_go : Array (Option Value)} {oc_Walk_go kV_Walk_go dc_Walk_go pm_Walk_go cd_Walk_go ct_Walk_go : Value}
    {f_Walk_poke : Addr} {od_Walk_poke an_Walk_poke : Option Addr} {sl_Walk_poke : Array (Option Value)} {oc_Walk_poke kV_Walk_poke dc_Walk_poke pm_Walk_poke cd_Walk_poke ct_Walk_poke : Value}
    {f_Walk_row : Addr} {od_Walk_row an_Walk_row : Option Addr} {sl_Walk_row : Array (Option Value)} {oc_Walk_row kV_Walk_row dc_Walk_row pm_Walk_row cd_Walk_row ct_Walk_row : Value}
    {f_Walk_is_true : Addr} {od_Walk_is_true an_Walk_is_true : Option Addr} {sl_Walk_is_true : Array (Option Value)} {oc_Walk_is_true kV_Walk_is_true dc_Walk_is_true pm_Walk_is_true cd_Walk_is_true ct_Walk_is_true : Value}
    {f_Walk_back : Addr} {od_Walk_back an_Walk_back : Option Addr} {sl_Walk_back : Array (Option Value)} {oc_Walk_back kV_Walk_back dc_Walk_back pm_Walk_back cd_Walk_back ct_Walk_back : Value}
    {f_Walk_counts : Addr} {od_Walk_counts an_Walk_counts : Option Addr} {sl_Walk_counts : Array (Option Value)} {oc_Walk_counts kV_Walk_counts dc_Walk_counts pm_Walk_counts cd_Walk_counts ct_Walk_counts : Value}
    {f_Walk_twin : Addr} {od_Walk_twin an_Walk_twin : Option Addr} {sl_Walk_twin : Array (Option Value)} {oc_Walk_twin kV_Walk_twin dc_Walk_twin pm_Walk_twin cd_Walk_twin ct_Walk_twin : Value}
    {f__law_cell : Addr} {od__law_cell an__law_cell : Option Addr} {sl__law_cell : Array (Option Value)} {oc__law_cell kV__law_cell dc__law_cell pm__law_cell cd__law_cell ct__law_cell : Value}
    {f__law_pick : Addr} {od__law_pick an__law_pick : Option Addr} {sl__law_pick : Array (Option Value)} {oc__law_pick kV__law_pick dc__law_pick pm__law_pick cd__law_pick ct__law_pick : Value}
    {f__law_term : Addr} {od__law_term an__law_term : Option Addr} {sl__law_term : Array (Option Value)} {oc__law_term kV__law_term dc__law_term pm__law_term cd__law_term ct__law_term : Value}
    {f__law_rule : Addr} {od__law_rule an__law_rule : Option Addr} {sl__law_rule : Array (Option Value)} {oc__law_rule kV__law_rule dc__law_rule pm__law_rule cd__law_rule ct__law_rule : Value}
    {f__law_class : Addr} {od__law_class an__law_class : Option Addr} {sl__law_class : Array (Option Value)} {oc__law_class kV__law_class dc__law_class pm__law_class cd__law_class ct__law_class : Value}
    {f__law_told : Addr} {od__law_told an__law_told : Option Addr} {sl__law_told : Array (Option Value)} {oc__law_told kV__law_told dc__law_told pm__law_told cd__law_told ct__law_told : Value}
    {f__law_done : Addr} {od__law_done an__law_done : Option Addr} {sl__law_done : Array (Option Value)} {oc__law_done kV__law_done dc__law_done pm__law_done cd__law_done ct__law_done : Value}
    {e__law_done : Addr}
    {f_law : Addr} {od_law an_law : Option Addr} {sl_law : Array (Option Value)} {oc_law kV_law dc_law pm_law cd_law ct_law : Value}
    {e_law : Addr}
    {t_DEEPEST : Tok}
    {t_MOST_TERMS : Tok}
    {t_FARTHEST : Tok}
    {t_GREATEST : Tok}
    {t_MOST_FIRST : Tok}
    {t_LONGEST : Tok}
    {t_FARTHEST_POKE : Tok}
    {C_NoRule : Addr}
    {C_NoNumber : Addr}
    {C_Ended : Addr}
    {C_NoText : Addr}
    {C_NoBack : Addr}
    (a_is_whole : PySem.W.nsIn K mainGlobals "is_whole" = some (some (.ref f_is_whole))) (l_is_whole : K.lookup f_is_whole = some ⟨oc_is_whole, od_is_whole, .func (PySem.W.fnOf "is_whole" "is_whole" (defArgs s_is_whole) (defBody s_is_whole) (defScope s_is_whole) .none kV_is_whole dc_is_whole pm_is_whole an_is_whole cd_is_whole ct_is_whole), sl_is_whole⟩) (c_is_whole : PySem.W.codeIn K cd_is_whole "is_whole" = true) (k_is_whole : PySem.W.keepIn K (.ref f_is_whole) = true)
    (a_is_term_in : PySem.W.nsIn K mainGlobals "is_term_in" = some (some (.ref f_is_term_in))) (l_is_term_in : K.lookup f_is_term_in = some ⟨oc_is_term_in, od_is_term_in, .func (PySem.W.fnOf "is_term_in" "is_term_in" (defArgs s_is_term_in) (defBody s_is_term_in) (defScope s_is_term_in) .none kV_is_term_in dc_is_term_in pm_is_term_in an_is_term_in cd_is_term_in ct_is_term_in), sl_is_term_in⟩) (c_is_term_in : PySem.W.codeIn K cd_is_term_in "is_term_in" = true) (k_is_term_in : PySem.W.keepIn K (.ref f_is_term_in) = true)
    (a_is_term : PySem.W.nsIn K mainGlobals "is_term" = some (some (.ref f_is_term))) (l_is_term : K.lookup f_is_term = some ⟨oc_is_term, od_is_term, .func (PySem.W.fnOf "is_term" "is_term" (defArgs s_is_term) (defBody s_is_term) (defScope s_is_term) .none kV_is_term dc_is_term pm_is_term an_is_term cd_is_term ct_is_term), sl_is_term⟩) (c_is_term : PySem.W.codeIn K cd_is_term "is_term" = true) (k_is_term : PySem.W.keepIn K (.ref f_is_term) = true)
    (a_is_rule : PySem.W.nsIn K mainGlobals "is_rule" = some (some (.ref f_is_rule))) (l_is_rule : K.lookup f_is_rule = some ⟨oc_is_rule, od_is_rule, .func (PySem.W.fnOf "is_rule" "is_rule" (defArgs s_is_rule) (defBody s_is_rule) (defScope s_is_rule) .none kV_is_rule dc_is_rule pm_is_rule an_is_rule cd_is_rule ct_is_rule), sl_is_rule⟩) (c_is_rule : PySem.W.codeIn K cd_is_rule "is_rule" = true) (k_is_rule : PySem.W.keepIn K (.ref f_is_rule) = true)
    (a_look_rule : PySem.W.nsIn K mainGlobals "look_rule" = some (some (.ref f_look_rule))) (l_look_rule : K.lookup f_look_rule = some ⟨oc_look_rule, od_look_rule, .func (PySem.W.fnOf "look_rule" "look_rule" (defArgs s_look_rule) (defBody s_look_rule) (defScope s_look_rule) .none kV_look_rule dc_look_rule pm_look_rule an_look_rule cd_look_rule ct_look_rule), sl_look_rule⟩) (c_look_rule : PySem.W.codeIn K cd_look_rule "look_rule" = true) (k_look_rule : PySem.W.keepIn K (.ref f_look_rule) = true)
    (a_look_many : PySem.W.nsIn K mainGlobals "look_many" = some (some (.ref f_look_many))) (l_look_many : K.lookup f_look_many = some ⟨oc_look_many, od_look_many, .func (PySem.W.fnOf "look_many" "look_many" (defArgs s_look_many) (defBody s_look_many) (defScope s_look_many) .none kV_look_many dc_look_many pm_look_many an_look_many cd_look_many ct_look_many), sl_look_many⟩) (c_look_many : PySem.W.codeIn K cd_look_many "look_many" = true) (k_look_many : PySem.W.keepIn K (.ref f_look_many) = true)
    (a_place_of : PySem.W.nsIn K mainGlobals "place_of" = some (some (.ref f_place_of))) (l_place_of : K.lookup f_place_of = some ⟨oc_place_of, od_place_of, .func (PySem.W.fnOf "place_of" "place_of" (defArgs s_place_of) (defBody s_place_of) (defScope s_place_of) .none kV_place_of dc_place_of pm_place_of an_place_of cd_place_of ct_place_of), sl_place_of⟩) (c_place_of : PySem.W.codeIn K cd_place_of "place_of" = true) (k_place_of : PySem.W.keepIn K (.ref f_place_of) = true)
    (a_number_of : PySem.W.nsIn K mainGlobals "number_of" = some (some (.ref f_number_of))) (l_number_of : K.lookup f_number_of = some ⟨oc_number_of, od_number_of, .func (PySem.W.fnOf "number_of" "number_of" (defArgs s_number_of) (defBody s_number_of) (defScope s_number_of) .none kV_number_of dc_number_of pm_number_of an_number_of cd_number_of ct_number_of), sl_number_of⟩) (c_number_of : PySem.W.codeIn K cd_number_of "number_of" = true) (k_number_of : PySem.W.keepIn K (.ref f_number_of) = true)
    (a_next_number : PySem.W.nsIn K mainGlobals "next_number" = some (some (.ref f_next_number))) (l_next_number : K.lookup f_next_number = some ⟨oc_next_number, od_next_number, .func (PySem.W.fnOf "next_number" "next_number" (defArgs s_next_number) (defBody s_next_number) (defScope s_next_number) .none kV_next_number dc_next_number pm_next_number an_next_number cd_next_number ct_next_number), sl_next_number⟩) (c_next_number : PySem.W.codeIn K cd_next_number "next_number" = true) (k_next_number : PySem.W.keepIn K (.ref f_next_number) = true)
    (a_row_of : PySem.W.nsIn K mainGlobals "row_of" = some (some (.ref f_row_of))) (l_row_of : K.lookup f_row_of = some ⟨oc_row_of, od_row_of, .func (PySem.W.fnOf "row_of" "row_of" (defArgs s_row_of) (defBody s_row_of) (defScope s_row_of) .none kV_row_of dc_row_of pm_row_of an_row_of cd_row_of ct_row_of), sl_row_of⟩) (c_row_of : PySem.W.codeIn K cd_row_of "row_of" = true) (k_row_of : PySem.W.keepIn K (.ref f_row_of) = true)
    (a_numbers : PySem.W.nsIn K mainGlobals "numbers" = some (some (.ref f_numbers))) (l_numbers : K.lookup f_numbers = some ⟨oc_numbers, od_numbers, .func (PySem.W.fnOf "numbers" "numbers" (defArgs s_numbers) (defBody s_numbers) (defScope s_numbers) .none kV_numbers dc_numbers pm_numbers an_numbers cd_numbers ct_numbers), sl_numbers⟩) (c_numbers : PySem.W.codeIn K cd_numbers "numbers" = true) (k_numbers : PySem.W.keepIn K (.ref f_numbers) = true)
    (a_is_row : PySem.W.nsIn K mainGlobals "is_row" = some (some (.ref f_is_row))) (l_is_row : K.lookup f_is_row = some ⟨oc_is_row, od_is_row, .func (PySem.W.fnOf "is_row" "is_row" (defArgs s_is_row) (defBody s_is_row) (defScope s_is_row) .none kV_is_row dc_is_row pm_is_row an_is_row cd_is_row ct_is_row), sl_is_row⟩) (c_is_row : PySem.W.codeIn K cd_is_row "is_row" = true) (k_is_row : PySem.W.keepIn K (.ref f_is_row) = true)
    (a_goes_on : PySem.W.nsIn K mainGlobals "goes_on" = some (some (.ref f_goes_on))) (l_goes_on : K.lookup f_goes_on = some ⟨oc_goes_on, od_goes_on, .func (PySem.W.fnOf "goes_on" "goes_on" (defArgs s_goes_on) (defBody s_goes_on) (defScope s_goes_on) .none kV_goes_on dc_goes_on pm_goes_on an_goes_on cd_goes_on ct_goes_on), sl_goes_on⟩) (c_goes_on : PySem.W.codeIn K cd_goes_on "goes_on" = true) (k_goes_on : PySem.W.keepIn K (.ref f_goes_on) = true)
    (a_Walk___init__ : PySem.W.findIn K (.ref C_Walk) "__init__" = some (some (.ref f_Walk___init__))) (i_Walk___init__ : PySem.W.isFn K (.ref f_Walk___init__) = true) (l_Walk___init__ : K.lookup f_Walk___init__ = some ⟨oc_Walk___init__, od_Walk___init__, .func (PySem.W.fnOf "__init__" "Walk.__init__" (defArgs s_Walk___init__) (defBody s_Walk___init__) (defScope s_Walk___init__) .none kV_Walk___init__ dc_Walk___init__ pm_Walk___init__ an_Walk___init__ cd_Walk___init__ ct_Walk___init__), sl_Walk___init__⟩) (c_Walk___init__ : PySem.W.codeIn K cd_Walk___init__ "Walk.__init__" = true) (k_Walk___init__ : PySem.W.keepIn K (.ref f_Walk___init__) = true)
    (a_Walk_do : PySem.W.findIn K (.ref C_Walk) "do" = some (some (.ref f_Walk_do))) (i_Walk_do : PySem.W.isFn K (.ref f_Walk_do) = true) (l_Walk_do : K.lookup f_Walk_do = some ⟨oc_Walk_do, od_Walk_do, .func (PySem.W.fnOf "do" "Walk.do" (defArgs s_Walk_do) (defBody s_Walk_do) (defScope s_Walk_do) .none kV_Walk_do dc_Walk_do pm_Walk_do an_Walk_do cd_Walk_do ct_Walk_do), sl_Walk_do⟩) (c_Walk_do : PySem.W.codeIn K cd_Walk_do "Walk.do" = true) (k_Walk_do : PySem.W.keepIn K (.ref f_Walk_do) = true)
    (a_Walk_go : PySem.W.findIn K (.ref C_Walk) "go" = some (some (.ref f_Walk_go))) (i_Walk_go : PySem.W.isFn K (.ref f_Walk_go) = true) (l_Walk_go : K.lookup f_Walk_go = some ⟨oc_Walk_go, od_Walk_go, .func (PySem.W.fnOf "go" "Walk.go" (defArgs s_Walk_go) (defBody s_Walk_go) (defScope s_Walk_go) .none kV_Walk_go dc_Walk_go pm_Walk_go an_Walk_go cd_Walk_go ct_Walk_go), sl_Walk_go⟩) (c_Walk_go : PySem.W.codeIn K cd_Walk_go "Walk.go" = true) (k_Walk_go : PySem.W.keepIn K (.ref f_Walk_go) = true)
    (a_Walk_poke : PySem.W.findIn K (.ref C_Walk) "poke" = some (some (.ref f_Walk_poke))) (i_Walk_poke : PySem.W.isFn K (.ref f_Walk_poke) = true) (l_Walk_poke : K.lookup f_Walk_poke = some ⟨oc_Walk_poke, od_Walk_poke, .func (PySem.W.fnOf "poke" "Walk.poke" (defArgs s_Walk_poke) (defBody s_Walk_poke) (defScope s_Walk_poke) .none kV_Walk_poke dc_Walk_poke pm_Walk_poke an_Walk_poke cd_Walk_poke ct_Walk_poke), sl_Walk_poke⟩) (c_Walk_poke : PySem.W.codeIn K cd_Walk_poke "Walk.poke" = true) (k_Walk_poke : PySem.W.keepIn K (.ref f_Walk_poke) = true)
    (a_Walk_row : PySem.W.findIn K (.ref C_Walk) "row" = some (some (.ref f_Walk_row))) (i_Walk_row : PySem.W.isFn K (.ref f_Walk_row) = true) (l_Walk_row : K.lookup f_Walk_row = some ⟨oc_Walk_row, od_Walk_row, .func (PySem.W.fnOf "row" "Walk.row" (defArgs s_Walk_row) (defBody s_Walk_row) (defScope s_Walk_row) .none kV_Walk_row dc_Walk_row pm_Walk_row an_Walk_row cd_Walk_row ct_Walk_row), sl_Walk_row⟩) (c_Walk_row : PySem.W.codeIn K cd_Walk_row "Walk.row" = true) (k_Walk_row : PySem.W.keepIn K (.ref f_Walk_row) = true)
    (a_Walk_is_true : PySem.W.findIn K (.ref C_Walk) "is_true" = some (some (.ref f_Walk_is_true))) (i_Walk_is_true : PySem.W.isFn K (.ref f_Walk_is_true) = true) (l_Walk_is_true : K.lookup f_Walk_is_true = some ⟨oc_Walk_is_true, od_Walk_is_true, .func (PySem.W.fnOf "is_true" "Walk.is_true" (defArgs s_Walk_is_true) (defBody s_Walk_is_true) (defScope s_Walk_is_true) .none kV_Walk_is_true dc_Walk_is_true pm_Walk_is_true an_Walk_is_true cd_Walk_is_true ct_Walk_is_true), sl_Walk_is_true⟩) (c_Walk_is_true : PySem.W.codeIn K cd_Walk_is_true "Walk.is_true" = true) (k_Walk_is_true : PySem.W.keepIn K (.ref f_Walk_is_true) = true)
    (a_Walk_back : PySem.W.findIn K (.ref C_Walk) "back" = some (some (.ref f_Walk_back))) (i_Walk_back : PySem.W.isFn K (.ref f_Walk_back) = true) (l_Walk_back : K.lookup f_Walk_back = some ⟨oc_Walk_back, od_Walk_back, .func (PySem.W.fnOf "back" "Walk.back" (defArgs s_Walk_back) (defBody s_Walk_back) (defScope s_Walk_back) .none kV_Walk_back dc_Walk_back pm_Walk_back an_Walk_back cd_Walk_back ct_Walk_back), sl_Walk_back⟩) (c_Walk_back : PySem.W.codeIn K cd_Walk_back "Walk.back" = true) (k_Walk_back : PySem.W.keepIn K (.ref f_Walk_back) = true)
    (a_Walk_counts : PySem.W.findIn K (.ref C_Walk) "counts" = some (some (.ref f_Walk_counts))) (i_Walk_counts : PySem.W.isFn K (.ref f_Walk_counts) = true) (l_Walk_counts : K.lookup f_Walk_counts = some ⟨oc_Walk_counts, od_Walk_counts, .func (PySem.W.fnOf "counts" "Walk.counts" (defArgs s_Walk_counts) (defBody s_Walk_counts) (defScope s_Walk_counts) .none kV_Walk_counts dc_Walk_counts pm_Walk_counts an_Walk_counts cd_Walk_counts ct_Walk_counts), sl_Walk_counts⟩) (c_Walk_counts : PySem.W.codeIn K cd_Walk_counts "Walk.counts" = true) (k_Walk_counts : PySem.W.keepIn K (.ref f_Walk_counts) = true)
    (a_Walk_twin : PySem.W.findIn K (.ref C_Walk) "twin" = some (some (.ref f_Walk_twin))) (i_Walk_twin : PySem.W.isFn K (.ref f_Walk_twin) = true) (l_Walk_twin : K.lookup f_Walk_twin = some ⟨oc_Walk_twin, od_Walk_twin, .func (PySem.W.fnOf "twin" "Walk.twin" (defArgs s_Walk_twin) (defBody s_Walk_twin) (defScope s_Walk_twin) .none kV_Walk_twin dc_Walk_twin pm_Walk_twin an_Walk_twin cd_Walk_twin ct_Walk_twin), sl_Walk_twin⟩) (c_Walk_twin : PySem.W.codeIn K cd_Walk_twin "Walk.twin" = true) (k_Walk_twin : PySem.W.keepIn K (.ref f_Walk_twin) = true)
    (a__law_cell : PySem.W.nsIn K mainGlobals "_law_cell" = some (some (.ref f__law_cell))) (l__law_cell : K.lookup f__law_cell = some ⟨oc__law_cell, od__law_cell, .func (PySem.W.fnOf "_law_cell" "_law_cell" (defArgs s__law_cell) (defBody s__law_cell) (defScope s__law_cell) .none kV__law_cell dc__law_cell pm__law_cell an__law_cell cd__law_cell ct__law_cell), sl__law_cell⟩) (c__law_cell : PySem.W.codeIn K cd__law_cell "_law_cell" = true) (k__law_cell : PySem.W.keepIn K (.ref f__law_cell) = true)
    (a__law_pick : PySem.W.nsIn K mainGlobals "_law_pick" = some (some (.ref f__law_pick))) (l__law_pick : K.lookup f__law_pick = some ⟨oc__law_pick, od__law_pick, .func (PySem.W.fnOf "_law_pick" "_law_pick" (defArgs s__law_pick) (defBody s__law_pick) (defScope s__law_pick) .none kV__law_pick dc__law_pick pm__law_pick an__law_pick cd__law_pick ct__law_pick), sl__law_pick⟩) (c__law_pick : PySem.W.codeIn K cd__law_pick "_law_pick" = true) (k__law_pick : PySem.W.keepIn K (.ref f__law_pick) = true)
    (a__law_term : PySem.W.nsIn K mainGlobals "_law_term" = some (some (.ref f__law_term))) (l__law_term : K.lookup f__law_term = some ⟨oc__law_term, od__law_term, .func (PySem.W.fnOf "_law_term" "_law_term" (defArgs s__law_term) (defBody s__law_term) (defScope s__law_term) .none kV__law_term dc__law_term pm__law_term an__law_term cd__law_term ct__law_term), sl__law_term⟩) (c__law_term : PySem.W.codeIn K cd__law_term "_law_term" = true) (k__law_term : PySem.W.keepIn K (.ref f__law_term) = true)
    (a__law_rule : PySem.W.nsIn K mainGlobals "_law_rule" = some (some (.ref f__law_rule))) (l__law_rule : K.lookup f__law_rule = some ⟨oc__law_rule, od__law_rule, .func (PySem.W.fnOf "_law_rule" "_law_rule" (defArgs s__law_rule) (defBody s__law_rule) (defScope s__law_rule) .none kV__law_rule dc__law_rule pm__law_rule an__law_rule cd__law_rule ct__law_rule), sl__law_rule⟩) (c__law_rule : PySem.W.codeIn K cd__law_rule "_law_rule" = true) (k__law_rule : PySem.W.keepIn K (.ref f__law_rule) = true)
    (a__law_class : PySem.W.nsIn K mainGlobals "_law_class" = some (some (.ref f__law_class))) (l__law_class : K.lookup f__law_class = some ⟨oc__law_class, od__law_class, .func (PySem.W.fnOf "_law_class" "_law_class" (defArgs s__law_class) (defBody s__law_class) (defScope s__law_class) .none kV__law_class dc__law_class pm__law_class an__law_class cd__law_class ct__law_class), sl__law_class⟩) (c__law_class : PySem.W.codeIn K cd__law_class "_law_class" = true) (k__law_class : PySem.W.keepIn K (.ref f__law_class) = true)
    (a__law_told : PySem.W.nsIn K mainGlobals "_law_told" = some (some (.ref f__law_told))) (l__law_told : K.lookup f__law_told = some ⟨oc__law_told, od__law_told, .func (PySem.W.fnOf "_law_told" "_law_told" (defArgs s__law_told) (defBody s__law_told) (defScope s__law_told) .none kV__law_told dc__law_told pm__law_told an__law_told cd__law_told ct__law_told), sl__law_told⟩) (c__law_told : PySem.W.codeIn K cd__law_told "_law_told" = true) (k__law_told : PySem.W.keepIn K (.ref f__law_told) = true)
    (a__law_done : PySem.W.nsIn K mainGlobals "_law_done" = some (some (.ref f__law_done))) (l__law_done : K.lookup f__law_done = some ⟨oc__law_done, od__law_done, .func (PySem.W.fnOf "_law_done" "_law_done" (defArgs s__law_done) (defBody s__law_done) (defScope s__law_done) .none kV__law_done dc__law_done pm__law_done an__law_done cd__law_done ct__law_done), sl__law_done⟩) (c__law_done : PySem.W.codeIn K cd__law_done "_law_done" = true) (k__law_done : PySem.W.keepIn K (.ref f__law_done) = true)
    (q__law_done : cd__law_done = .ref e__law_done) (t__law_done : PySem.W.codeHdIn K e__law_done (tabOf K e__law_done) = true) (v__law_done : K.lookup (tabOf K e__law_done) = none) (m__law_done : h.get? (tabOf K e__law_done) = some { cls := .none, data := .fields #[] })
    (a_law : PySem.W.nsIn K mainGlobals "law" = some (some (.ref f_law))) (l_law : K.lookup f_law = some ⟨oc_law, od_law, .func (PySem.W.fnOf "law" "law" (defArgs s_law) (defBody s_law) (defScope s_law) .none kV_law dc_law pm_law an_law cd_law ct_law), sl_law⟩) (c_law : PySem.W.codeIn K cd_law "law" = true) (k_law : PySem.W.keepIn K (.ref f_law) = true)
    (q_law : cd_law = .ref e_law) (t_law : PySem.W.codeHdIn K e_law (tabOf K e_law) = true) (v_law : K.lookup (tabOf K e_law) = none) (m_law : h.get? (tabOf K e_law) = some { cls := .none, data := .fields #[] })
    (o__law_done : ∀ p ∈ ([(tabOf K e__law_done, lamQ "_law_done"), (tabOf K e_law, lamQ "law")] : Tb), p.1 = tabOf K e__law_done → p.2 = lamQ "_law_done")
    (o_law : ∀ p ∈ ([(tabOf K e__law_done, lamQ "_law_done"), (tabOf K e_law, lamQ "law")] : Tb), p.1 = tabOf K e_law → p.2 = lamQ "law")
    (z_ValueError : PySem.W.nsIn K mainGlobals "ValueError" = some none)
    (z_abs : PySem.W.nsIn K mainGlobals "abs" = some none)
    (z_all : PySem.W.nsIn K mainGlobals "all" = some none)
    (z_bool : PySem.W.nsIn K mainGlobals "bool" = some none)
    (z_int : PySem.W.nsIn K mainGlobals "int" = some none)
    (z_isinstance : PySem.W.nsIn K mainGlobals "isinstance" = some none)
    (z_len : PySem.W.nsIn K mainGlobals "len" = some none)
    (z_list : PySem.W.nsIn K mainGlobals "list" = some none)
    (z_range : PySem.W.nsIn K mainGlobals "range" = some none)
    (z_str : PySem.W.nsIn K mainGlobals "str" = some none)
    (z_sum : PySem.W.nsIn K mainGlobals "sum" = some none)
    (z_tuple : PySem.W.nsIn K mainGlobals "tuple" = some none)
    (n_DEEPEST : PySem.W.nsIn K mainGlobals "DEEPEST" = some (some (.int 3 t_DEEPEST)))
    (n_MOST_TERMS : PySem.W.nsIn K mainGlobals "MOST_TERMS" = some (some (.int 3 t_MOST_TERMS)))
    (n_FARTHEST : PySem.W.nsIn K mainGlobals "FARTHEST" = some (some (.int 5 t_FARTHEST)))
    (n_GREATEST : PySem.W.nsIn K mainGlobals "GREATEST" = some (some (.int 9 t_GREATEST)))
    (n_MOST_FIRST : PySem.W.nsIn K mainGlobals "MOST_FIRST" = some (some (.int 6 t_MOST_FIRST)))
    (n_LONGEST : PySem.W.nsIn K mainGlobals "LONGEST" = some (some (.int 200 t_LONGEST)))
    (n_FARTHEST_POKE : PySem.W.nsIn K mainGlobals "FARTHEST_POKE" = some (some (.int 999 t_FARTHEST_POKE)))
    (g_NoRule : PySem.W.nsIn K mainGlobals "NoRule" = some (some (.ref C_NoRule))) (x_NoRule : PySem.W.excIn K C_NoRule [.type "ValueError", .type "Exception", .type "BaseException", .type "object"] "ValueError.__new__" = true) (kx_NoRule : PySem.W.keepIn K (.ref C_NoRule) = true) (bx_NoRule : PySem.W.subIn K (.ref C_NoRule) (.type "BaseException") = some true) (tx_NoRule : PySem.W.typeIn K (.ref C_NoRule) = some (.type "type"))
    (g_NoNumber : PySem.W.nsIn K mainGlobals "NoNumber" = some (some (.ref C_NoNumber))) (x_NoNumber : PySem.W.excIn K C_NoNumber [.type "ValueError", .type "Exception", .type "BaseException", .type "object"] "ValueError.__new__" = true) (kx_NoNumber : PySem.W.keepIn K (.ref C_NoNumber) = true) (bx_NoNumber : PySem.W.subIn K (.ref C_NoNumber) (.type "BaseException") = some true) (tx_NoNumber : PySem.W.typeIn K (.ref C_NoNumber) = some (.type "type"))
    (g_Ended : PySem.W.nsIn K mainGlobals "Ended" = some (some (.ref C_Ended))) (x_Ended : PySem.W.excIn K C_Ended [.type "ValueError", .type "Exception", .type "BaseException", .type "object"] "ValueError.__new__" = true) (kx_Ended : PySem.W.keepIn K (.ref C_Ended) = true) (bx_Ended : PySem.W.subIn K (.ref C_Ended) (.type "BaseException") = some true) (tx_Ended : PySem.W.typeIn K (.ref C_Ended) = some (.type "type"))
    (g_NoText : PySem.W.nsIn K mainGlobals "NoText" = some (some (.ref C_NoText))) (x_NoText : PySem.W.excIn K C_NoText [.type "ValueError", .type "Exception", .type "BaseException", .type "object"] "ValueError.__new__" = true) (kx_NoText : PySem.W.keepIn K (.ref C_NoText) = true) (bx_NoText : PySem.W.subIn K (.ref C_NoText) (.type "BaseException") = some true) (tx_NoText : PySem.W.typeIn K (.ref C_NoText) = some (.type "type"))
    (g_NoBack : PySem.W.nsIn K mainGlobals "NoBack" = some (some (.ref C_NoBack))) (x_NoBack : PySem.W.excIn K C_NoBack [.type "ValueError", .type "Exception", .type "BaseException", .type "object"] "ValueError.__new__" = true) (kx_NoBack : PySem.W.keepIn K (.ref C_NoBack) = true) (bx_NoBack : PySem.W.subIn K (.ref C_NoBack) (.type "BaseException") = some true) (tx_NoBack : PySem.W.typeIn K (.ref C_NoBack) = some (.type "type"))
    (g_RowError : PySem.W.nsIn K mainGlobals "RowError" = some (some (.ref (rowX K)))) (y_excs : excsB K (fun c => match c with | .noRule => C_NoRule | .noNumber => C_NoNumber | .ended => C_Ended | .noText => C_NoText | .noBack => C_NoBack) (rowX K) [.noRule, .noNumber, .ended, .noText, .noBack] = true)
    (g_Walk : PySem.W.nsIn K mainGlobals "Walk" = some (some (.ref C_Walk))) (pg_Walk : PySem.W.plainGet K C_Walk Str.empty = true) (hd_Walk : PySem.W.hasDictIn K C_Walk = true) (po_Walk : PySem.W.plainOver K C_Walk = true) (sa_Walk : PySem.W.findIn K (.ref C_Walk) "__setattr__" = some (some (.builtin "object.__setattr__"))) (mk_Walk : PySem.W.makesIn K C_Walk = true) (kc_Walk : PySem.W.keepIn K (.ref C_Walk) = true) (nO_Walk : PySem.W.findIn K (.ref C_Walk) "own" = some none) (nN_Walk : PySem.W.findIn K (.ref C_Walk) "now" = some none) (nP_Walk : PySem.W.findIn K (.ref C_Walk) "past" = some none) (nL_Walk : PySem.W.findIn K (.ref C_Walk) "later" = some none)
    {l : PySem.W.OpenLaw} (hl : l.prog = P) : LawAt l w K 25 mg fa h := by
  subst hl
  have eC : wkC K = C_Walk := by unfold wkC; rw [g_Walk]
  subst eC
  have e := hfa.symm.trans (PySem.W.mg_of X G a_law)
  cases e
  have F_is_whole := fun_mk (st := s_is_whole) l_is_whole c_is_whole k_is_whole
  have F_is_term_in := fun_mk (st := s_is_term_in) l_is_term_in c_is_term_in k_is_term_in
  have F_is_term := fun_mk (st := s_is_term) l_is_term c_is_term k_is_term
  have F_is_rule := fun_mk (st := s_is_rule) l_is_rule c_is_rule k_is_rule
  have F_look_rule := fun_mk (st := s_look_rule) l_look_rule c_look_rule k_look_rule
  have F_look_many := fun_mk (st := s_look_many) l_look_many c_look_many k_look_many
  have F_place_of := fun_mk (st := s_place_of) l_place_of c_place_of k_place_of
  have F_number_of := fun_mk (st := s_number_of) l_number_of c_number_of k_number_of
  have F_next_number := fun_mk (st := s_next_number) l_next_number c_next_number k_next_number
  have F_row_of := fun_mk (st := s_row_of) l_row_of c_row_of k_row_of
  have F_numbers := fun_mk (st := s_numbers) l_numbers c_numbers k_numbers
  have F_is_row := fun_mk (st := s_is_row) l_is_row c_is_row k_is_row
  have F_goes_on := fun_mk (st := s_goes_on) l_goes_on c_goes_on k_goes_on
  have F_Walk___init__ := fun_mk (st := s_Walk___init__) l_Walk___init__ c_Walk___init__ k_Walk___init__
  have F_Walk_do := fun_mk (st := s_Walk_do) l_Walk_do c_Walk_do k_Walk_do
  have F_Walk_go := fun_mk (st := s_Walk_go) l_Walk_go c_Walk_go k_Walk_go
  have F_Walk_poke := fun_mk (st := s_Walk_poke) l_Walk_poke c_Walk_poke k_Walk_poke
  have F_Walk_row := fun_mk (st := s_Walk_row) l_Walk_row c_Walk_row k_Walk_row
  have F_Walk_is_true := fun_mk (st := s_Walk_is_true) l_Walk_is_true c_Walk_is_true k_Walk_is_true
  have F_Walk_back := fun_mk (st := s_Walk_back) l_Walk_back c_Walk_back k_Walk_back
  have F_Walk_counts := fun_mk (st := s_Walk_counts) l_Walk_counts c_Walk_counts k_Walk_counts
  have F_Walk_twin := fun_mk (st := s_Walk_twin) l_Walk_twin c_Walk_twin k_Walk_twin
  have F__law_cell := fun_mk (st := s__law_cell) l__law_cell c__law_cell k__law_cell
  have F__law_pick := fun_mk (st := s__law_pick) l__law_pick c__law_pick k__law_pick
  have F__law_term := fun_mk (st := s__law_term) l__law_term c__law_term k__law_term
  have F__law_rule := fun_mk (st := s__law_rule) l__law_rule c__law_rule k__law_rule
  have F__law_class := fun_mk (st := s__law_class) l__law_class c__law_class k__law_class
  have F__law_told := fun_mk (st := s__law_told) l__law_told c__law_told k__law_told
  have F__law_done := fun_mk (st := s__law_done) l__law_done c__law_done k__law_done
  have F_law := fun_mk (st := s_law) l_law c_law k_law
  have T : ∀ base : Heap, (∀ p ∈ ([(e__law_done, tabOf K e__law_done), (e_law, tabOf K e_law)] : List (Addr × Addr)), LamX.TabB base mg p.1 p.2) → Top K mg (fun c => match c with | .noRule => C_NoRule | .noNumber => C_NoNumber | .ended => C_Ended | .noText => C_NoText | .noBack => C_NoBack) base [(tabOf K e__law_done, lamQ "_law_done"), (tabOf K e_law, lamQ "law")] := fun base TBs => ⟨PySem.W.mg_none_of X G z_ValueError,
    PySem.W.mg_none_of X G z_abs,
    PySem.W.mg_none_of X G z_all,
    PySem.W.mg_none_of X G z_bool,
    PySem.W.mg_none_of X G z_int,
    PySem.W.mg_none_of X G z_isinstance,
    PySem.W.mg_none_of X G z_len,
    PySem.W.mg_none_of X G z_list,
    PySem.W.mg_none_of X G z_range,
    PySem.W.mg_none_of X G z_str,
    PySem.W.mg_none_of X G z_sum,
    PySem.W.mg_none_of X G z_tuple,
    ⟨_, PySem.W.mg_of X G n_DEEPEST⟩,
    ⟨_, PySem.W.mg_of X G n_MOST_TERMS⟩,
    ⟨_, PySem.W.mg_of X G n_FARTHEST⟩,
    ⟨_, PySem.W.mg_of X G n_GREATEST⟩,
    ⟨_, PySem.W.mg_of X G n_MOST_FIRST⟩,
    ⟨_, PySem.W.mg_of X G n_LONGEST⟩,
    ⟨_, PySem.W.mg_of X G n_FARTHEST_POKE⟩,
    ⟨PySem.W.mg_of X G g_NoRule, x_NoRule, kx_NoRule, bx_NoRule, tx_NoRule⟩,
    ⟨PySem.W.mg_of X G g_NoNumber, x_NoNumber, kx_NoNumber, bx_NoNumber, tx_NoNumber⟩,
    ⟨PySem.W.mg_of X G g_Ended, x_Ended, kx_Ended, bx_Ended, tx_Ended⟩,
    ⟨PySem.W.mg_of X G g_NoText, x_NoText, kx_NoText, bx_NoText, tx_NoText⟩,
    ⟨PySem.W.mg_of X G g_NoBack, x_NoBack, kx_NoBack, bx_NoBack, tx_NoBack⟩,
    ⟨PySem.W.mg_of X G g_RowError, y_excs⟩,
    ⟨⟨pg_Walk, hd_Walk, po_Walk, sa_Walk⟩, nO_Walk, nN_Walk, nP_Walk, nL_Walk⟩,
    ⟨_, _, PySem.W.mg_of X G a_is_whole, F_is_whole, F_is_whole.binds (ps := ["thing", "low", "high"]) fun _ _ _ _ _ _ us hl => match us, hl with | [_, _, _], _ => rfl⟩,
    ⟨_, _, PySem.W.mg_of X G a_is_term_in, F_is_term_in, F_is_term_in.binds (ps := ["thing", "deep"]) fun _ _ _ _ _ _ us hl => match us, hl with | [_, _], _ => rfl⟩,
    ⟨_, _, PySem.W.mg_of X G a_is_term, F_is_term, F_is_term.binds (ps := ["thing"]) fun _ _ _ _ _ _ us hl => match us, hl with | [_], _ => rfl⟩,
    ⟨_, _, PySem.W.mg_of X G a_is_rule, F_is_rule, F_is_rule.binds (ps := ["thing"]) fun _ _ _ _ _ _ us hl => match us, hl with | [_], _ => rfl⟩,
    ⟨_, _, PySem.W.mg_of X G a_look_rule, F_look_rule, F_look_rule.binds (ps := ["rule"]) fun _ _ _ _ _ _ us hl => match us, hl with | [_], _ => rfl⟩,
    ⟨_, _, PySem.W.mg_of X G a_look_many, F_look_many, F_look_many.binds (ps := ["many"]) fun _ _ _ _ _ _ us hl => match us, hl with | [_], _ => rfl⟩,
    ⟨_, _, PySem.W.mg_of X G a_place_of, F_place_of, F_place_of.binds (ps := ["term", "row"]) fun _ _ _ _ _ _ us hl => match us, hl with | [_, _], _ => rfl⟩,
    ⟨_, _, PySem.W.mg_of X G a_number_of, F_number_of, F_number_of.binds (ps := ["term", "row"]) fun _ _ _ _ _ _ us hl => match us, hl with | [_, _], _ => rfl⟩,
    ⟨_, _, PySem.W.mg_of X G a_next_number, F_next_number, F_next_number.binds (ps := ["rule", "row"]) fun _ _ _ _ _ _ us hl => match us, hl with | [_, _], _ => rfl⟩,
    ⟨_, _, PySem.W.mg_of X G a_row_of, F_row_of, F_row_of.binds (ps := ["rule", "many"]) fun _ _ _ _ _ _ us hl => match us, hl with | [_, _], _ => rfl⟩,
    ⟨_, _, PySem.W.mg_of X G a_numbers, F_numbers, F_numbers.binds (ps := ["rule", "many"]) fun _ _ _ _ _ _ us hl => match us, hl with | [_, _], _ => rfl⟩,
    ⟨_, _, PySem.W.mg_of X G a_is_row, F_is_row, F_is_row.binds (ps := ["rule", "thing"]) fun _ _ _ _ _ _ us hl => match us, hl with | [_, _], _ => rfl⟩,
    ⟨_, _, PySem.W.mg_of X G a_goes_on, F_goes_on, F_goes_on.binds (ps := ["rule", "row"]) fun _ _ _ _ _ _ us hl => match us, hl with | [_, _], _ => rfl⟩,
    ⟨_, _, ⟨mk_Walk, a_Walk___init__, i_Walk___init__, kc_Walk⟩, PySem.W.mg_of X G g_Walk, F_Walk___init__, F_Walk___init__.binds (ps := ["self", "rule"]) fun _ _ _ _ _ _ us hl => match us, hl with | [_, _], _ => rfl⟩,
    ⟨_, _, ⟨a_Walk_do, i_Walk_do, k_Walk_do⟩, F_Walk_do, F_Walk_do.binds (ps := ["self", "word", "row"]) fun _ _ _ _ _ _ us hl => match us, hl with | [_, _, _], _ => rfl⟩,
    ⟨_, _, ⟨a_Walk_go, i_Walk_go, k_Walk_go⟩, F_Walk_go, F_Walk_go.binds (ps := ["self"]) fun _ _ _ _ _ _ us hl => match us, hl with | [_], _ => rfl⟩,
    ⟨_, _, ⟨a_Walk_poke, i_Walk_poke, k_Walk_poke⟩, F_Walk_poke, F_Walk_poke.binds (ps := ["self", "number"]) fun _ _ _ _ _ _ us hl => match us, hl with | [_, _], _ => rfl⟩,
    ⟨_, _, ⟨a_Walk_row, i_Walk_row, k_Walk_row⟩, F_Walk_row, F_Walk_row.binds (ps := ["self"]) fun _ _ _ _ _ _ us hl => match us, hl with | [_], _ => rfl⟩,
    ⟨_, _, ⟨a_Walk_is_true, i_Walk_is_true, k_Walk_is_true⟩, F_Walk_is_true, F_Walk_is_true.binds (ps := ["self"]) fun _ _ _ _ _ _ us hl => match us, hl with | [_], _ => rfl⟩,
    ⟨_, _, ⟨a_Walk_back, i_Walk_back, k_Walk_back⟩, F_Walk_back, F_Walk_back.binds (ps := ["self"]) fun _ _ _ _ _ _ us hl => match us, hl with | [_], _ => rfl⟩,
    ⟨_, _, ⟨a_Walk_counts, i_Walk_counts, k_Walk_counts⟩, F_Walk_counts, F_Walk_counts.binds (ps := ["self"]) fun _ _ _ _ _ _ us hl => match us, hl with | [_], _ => rfl⟩,
    ⟨_, _, ⟨a_Walk_twin, i_Walk_twin, k_Walk_twin⟩, F_Walk_twin, F_Walk_twin.binds (ps := ["self"]) fun _ _ _ _ _ _ us hl => match us, hl with | [_], _ => rfl⟩,
    ⟨_, _, PySem.W.mg_of X G a__law_cell, F__law_cell, F__law_cell.binds (ps := ["script", "k"]) fun _ _ _ _ _ _ us hl => match us, hl with | [_, _], _ => rfl⟩,
    ⟨_, _, PySem.W.mg_of X G a__law_pick, F__law_pick, F__law_pick.binds (ps := ["script", "k", "many"]) fun _ _ _ _ _ _ us hl => match us, hl with | [_, _, _], _ => rfl⟩,
    ⟨_, _, PySem.W.mg_of X G a__law_term, F__law_term, F__law_term.binds (ps := ["script", "at", "deep"]) fun _ _ _ _ _ _ us hl => match us, hl with | [_, _, _], _ => rfl⟩,
    ⟨_, _, PySem.W.mg_of X G a__law_rule, F__law_rule, F__law_rule.binds (ps := ["script", "at"]) fun _ _ _ _ _ _ us hl => match us, hl with | [_, _], _ => rfl⟩,
    ⟨_, _, PySem.W.mg_of X G a__law_class, F__law_class, F__law_class.binds (ps := ["kept"]) fun _ _ _ _ _ _ us hl => match us, hl with | [_], _ => rfl⟩,
    ⟨_, _, PySem.W.mg_of X G a__law_told, F__law_told, F__law_told.binds (ps := ["deed"]) fun _ _ _ _ _ _ us hl => match us, hl with | [_], _ => rfl⟩,
    ⟨_, _, PySem.W.mg_of X G a__law_done, F__law_done, F__law_done.binds (ps := ["walk", "deed"]) fun _ _ _ _ _ _ us hl => match us, hl with | [_, _], _ => rfl, _, _, q__law_done, TBs (e__law_done, tabOf K e__law_done) (by simp), by simp, o__law_done⟩,
    ⟨_, _, PySem.W.mg_of X G a_law, F_law, F_law.binds (ps := ["script"]) fun _ _ _ _ _ _ us hl => match us, hl with | [_], _ => rfl, _, _, q_law, TBs (e_law, tabOf K e_law) (by simp), by simp, o_law⟩⟩
  have h1 : ∀ p ∈ ([(e__law_done, tabOf K e__law_done), (e_law, tabOf K e_law)] : List (Addr × Addr)), h.get? p.2 = some { cls := .none, data := .fields #[] } := fun p hp => by
    have hp := List.mem_cons.mp hp
    rcases hp with rfl | hp
    · exact m__law_done
    have hp := List.mem_cons.mp hp
    rcases hp with rfl | hp
    · exact m_law
    cases hp
  have h2 : ∀ p ∈ ([(e__law_done, tabOf K e__law_done), (e_law, tabOf K e_law)] : List (Addr × Addr)), K.lookup p.2 = none := fun p hp => by
    have hp := List.mem_cons.mp hp
    rcases hp with rfl | hp
    · exact v__law_done
    have hp := List.mem_cons.mp hp
    rcases hp with rfl | hp
    · exact v_law
    cases hp
  have h3 : ∀ p ∈ ([(e__law_done, tabOf K e__law_done), (e_law, tabOf K e_law)] : List (Addr × Addr)), PySem.W.CodeHd h p.1 p.2 := fun p hp => by
    have hp := List.mem_cons.mp hp
    rcases hp with rfl | hp
    · exact PySem.W.codeHd_of_K X t__law_done
    have hp := List.mem_cons.mp hp
    rcases hp with rfl | hp
    · exact PySem.W.codeHd_of_K X t_law
    cases hp
  have h4 : ∀ H : Hp, (∀ p ∈ ([(e__law_done, tabOf K e__law_done), (e_law, tabOf K e_law)] : List (Addr × Addr)), H p.2 = some (.tbl #[])) → LamX.Tabs [(tabOf K e__law_done, lamQ "_law_done"), (tabOf K e_law, lamQ "law")] H := fun H hH => fun p hp => by
    have hp := List.mem_cons.mp hp
    rcases hp with rfl | hp
    · exact LamX.TabS.nil (hH (e__law_done, tabOf K e__law_done) (by simp))
    have hp := List.mem_cons.mp hp
    rcases hp with rfl | hp
    · exact LamX.TabS.nil (hH (e_law, tabOf K e_law) (by simp))
    cases hp
  exact ⟨PySem.W.fnOf "law" "law" (defArgs s_law) (defBody s_law) (defScope s_law) .none kV_law dc_law pm_law an_law cd_law ct_law, [(e__law_done, tabOf K e__law_done), (e_law, tabOf K e_law)], [(tabOf K e__law_done, lamQ "_law_done"), (tabOf K e_law, lamQ "law")], h1, h2, h3, h4, fun s v => .of_eq rfl, fun base _ _ TBs => (okF_law (T base TBs) F_law q_law (TBs (e_law, tabOf K e_law) (by simp)) (by simp) o_law).imp (imp_law law_true)⟩
end K69
end Br
open PySem PySem.W PyProof.Rows
theorem PySem.Challenge.cw_backrows_k69_whole_beginnings_held_holds : PySem.Challenge.rw_backrows_k69_whole_beginnings_held.Holds := by
  w_on; o_law; k_head; (case hw => w_witness2)
  k_fill
  refine Br.walk_ofXT (l := PySem.Challenge.rw_backrows_k69_whole_beginnings_held) (k := 25) rfl rfl ⟨rfl, by decide, by decide⟩ (fun w h Y => PySem.W.km_in_of Y) ?F
  case F =>
    intro w mg fa h Y KX G XX hmg
    refine' Br.K69.all_mk KX G hmg ?a_is_whole ?l_is_whole ?c_is_whole ?k_is_whole ?a_is_term_in ?l_is_term_in ?c_is_term_in ?k_is_term_in ?a_is_term ?l_is_term ?c_is_term ?k_is_term ?a_is_rule ?l_is_rule ?c_is_rule ?k_is_rule ?a_look_rule ?l_look_rule ?c_look_rule ?k_look_rule ?a_look_many ?l_look_many ?c_look_many ?k_look_many ?a_place_of ?l_place_of ?c_place_of ?k_place_of ?a_number_of ?l_number_of ?c_number_of ?k_number_of ?a_next_number ?l_next_number ?c_next_number ?k_next_number ?a_row_of ?l_row_of ?c_row_of ?k_row_of ?a_numbers ?l_numbers ?c_numbers ?k_numbers ?a_is_row ?l_is_row ?c_is_row ?k_is_row ?a_goes_on ?l_goes_on ?c_goes_on ?k_goes_on ?a_Walk___init__ ?i_Walk___init__ ?l_Walk___init__ ?c_Walk___init__ ?k_Walk___init__ ?a_Walk_do ?i_Walk_do ?l_Walk_do ?c_Walk_do ?k_Walk_do ?a_Walk_go ?i_Walk_go ?l_Walk_go ?c_Walk_go ?k_Walk_go ?a_Walk_poke ?i_Walk_poke ?l_Walk_poke ?c_Walk_poke ?k_Walk_poke ?a_Walk_row ?i_Walk_row ?l_Walk_row ?c_Walk_row ?k_Walk_row ?a_Walk_is_true ?i_Walk_is_true ?l_Walk_is_true ?c_Walk_is_true ?k_Walk_is_true ?a_Walk_back ?i_Walk_back ?l_Walk_back ?c_Walk_back ?k_Walk_back ?a_Walk_counts ?i_Walk_counts ?l_Walk_counts ?c_Walk_counts ?k_Walk_counts ?a_Walk_twin ?i_Walk_twin ?l_Walk_twin ?c_Walk_twin ?k_Walk_twin ?a__law_cell ?l__law_cell ?c__law_cell ?k__law_cell ?a__law_pick ?l__law_pick ?c__law_pick ?k__law_pick ?a__law_term ?l__law_term ?c__law_term ?k__law_term ?a__law_rule ?l__law_rule ?c__law_rule ?k__law_rule ?a__law_class ?l__law_class ?c__law_class ?k__law_class ?a__law_told ?l__law_told ?c__law_told ?k__law_told ?a__law_done ?l__law_done ?c__law_done ?k__law_done ?q__law_done ?t__law_done ?v__law_done ?m__law_done ?a_law ?l_law ?c_law ?k_law ?q_law ?t_law ?v_law ?m_law ?o__law_done ?o_law ?z_ValueError ?z_abs ?z_all ?z_bool ?z_int ?z_isinstance ?z_len ?z_list ?z_range ?z_str ?z_sum ?z_tuple ?n_DEEPEST ?n_MOST_TERMS ?n_FARTHEST ?n_GREATEST ?n_MOST_FIRST ?n_LONGEST ?n_FARTHEST_POKE ?g_NoRule ?x_NoRule ?kx_NoRule ?bx_NoRule ?tx_NoRule ?g_NoNumber ?x_NoNumber ?kx_NoNumber ?bx_NoNumber ?tx_NoNumber ?g_Ended ?x_Ended ?kx_Ended ?bx_Ended ?tx_Ended ?g_NoText ?x_NoText ?kx_NoText ?bx_NoText ?tx_NoText ?g_NoBack ?x_NoBack ?kx_NoBack ?bx_NoBack ?tx_NoBack ?g_RowError ?y_excs ?g_Walk ?pg_Walk ?hd_Walk ?po_Walk ?sa_Walk ?mk_Walk ?kc_Walk ?nO_Walk ?nN_Walk ?nP_Walk ?nL_Walk rfl
    (case g_Walk => first | k_is | k_exc | rfl | decide +kernel)
    (case pg_Walk => first | k_is | k_exc | rfl | decide +kernel)
    (case hd_Walk => first | k_is | k_exc | rfl | decide +kernel)
    (case po_Walk => first | k_is | k_exc | rfl | decide +kernel)
    (case sa_Walk => first | k_is | k_exc | rfl | decide +kernel)
    (case mk_Walk => first | k_is | k_exc | rfl | decide +kernel)
    (case kc_Walk => first | k_is | k_exc | rfl | decide +kernel)
    (case nO_Walk => first | k_is | k_exc | rfl | decide +kernel)
    (case nN_Walk => first | k_is | k_exc | rfl | decide +kernel)
    (case nP_Walk => first | k_is | k_exc | rfl | decide +kernel)
    (case nL_Walk => first | k_is | k_exc | rfl | decide +kernel)
    (case a_is_whole => first | k_is | k_exc | rfl | decide +kernel)
    (case l_is_whole => first | k_is | k_exc | rfl | decide +kernel)
    (case c_is_whole => first | k_is | k_exc | rfl | decide +kernel)
    (case k_is_whole => first | k_is | k_exc | rfl | decide +kernel)
    (case a_is_term_in => first | k_is | k_exc | rfl | decide +kernel)
    (case l_is_term_in => first | k_is | k_exc | rfl | decide +kernel)
    (case c_is_term_in => first | k_is | k_exc | rfl | decide +kernel)
    (case k_is_term_in => first | k_is | k_exc | rfl | decide +kernel)
    (case a_is_term => first | k_is | k_exc | rfl | decide +kernel)
    (case l_is_term => first | k_is | k_exc | rfl | decide +kernel)
    (case c_is_term => first | k_is | k_exc | rfl | decide +kernel)
    (case k_is_term => first | k_is | k_exc | rfl | decide +kernel)
    (case a_is_rule => first | k_is | k_exc | rfl | decide +kernel)
    (case l_is_rule => first | k_is | k_exc | rfl | decide +kernel)
    (case c_is_rule => first | k_is | k_exc | rfl | decide +kernel)
    (case k_is_rule => first | k_is | k_exc | rfl | decide +kernel)
    (case a_look_rule => first | k_is | k_exc | rfl | decide +kernel)
    (case l_look_rule => first | k_is | k_exc | rfl | decide +kernel)
    (case c_look_rule => first | k_is | k_exc | rfl | decide +kernel)
    (case k_look_rule => first | k_is | k_exc | rfl | decide +kernel)
    (case a_look_many => first | k_is | k_exc | rfl | decide +kernel)
    (case l_look_many => first | k_is | k_exc | rfl | decide +kernel)
    (case c_look_many => first | k_is | k_exc | rfl | decide +kernel)
    (case k_look_many => first | k_is | k_exc | rfl | decide +kernel)
    (case a_place_of => first | k_is | k_exc | rfl | decide +kernel)
    (case l_place_of => first | k_is | k_exc | rfl | decide +kernel)
    (case c_place_of => first | k_is | k_exc | rfl | decide +kernel)
    (case k_place_of => first | k_is | k_exc | rfl | decide +kernel)
    (case a_number_of => first | k_is | k_exc | rfl | decide +kernel)
    (case l_number_of => first | k_is | k_exc | rfl | decide +kernel)
    (case c_number_of => first | k_is | k_exc | rfl | decide +kernel)
    (case k_number_of => first | k_is | k_exc | rfl | decide +kernel)
    (case a_next_number => first | k_is | k_exc | rfl | decide +kernel)
    (case l_next_number => first | k_is | k_exc | rfl | decide +kernel)
    (case c_next_number => first | k_is | k_exc | rfl | decide +kernel)
    (case k_next_number => first | k_is | k_exc | rfl | decide +kernel)
    (case a_row_of => first | k_is | k_exc | rfl | decide +kernel)
    (case l_row_of => first | k_is | k_exc | rfl | decide +kernel)
    (case c_row_of => first | k_is | k_exc | rfl | decide +kernel)
    (case k_row_of => first | k_is | k_exc | rfl | decide +kernel)
    (case a_numbers => first | k_is | k_exc | rfl | decide +kernel)
    (case l_numbers => first | k_is | k_exc | rfl | decide +kernel)
    (case c_numbers => first | k_is | k_exc | rfl | decide +kernel)
    (case k_numbers => first | k_is | k_exc | rfl | decide +kernel)
    (case a_is_row => first | k_is | k_exc | rfl | decide +kernel)
    (case l_is_row => first | k_is | k_exc | rfl | decide +kernel)
    (case c_is_row => first | k_is | k_exc | rfl | decide +kernel)
    (case k_is_row => first | k_is | k_exc | rfl | decide +kernel)
    (case a_goes_on => first | k_is | k_exc | rfl | decide +kernel)
    (case l_goes_on => first | k_is | k_exc | rfl | decide +kernel)
    (case c_goes_on => first | k_is | k_exc | rfl | decide +kernel)
    (case k_goes_on => first | k_is | k_exc | rfl | decide +kernel)
    (case a_Walk___init__ => first | k_is | k_exc | rfl | decide +kernel)
    (case i_Walk___init__ => first | k_is | k_exc | rfl | decide +kernel)
    (case l_Walk___init__ => first | k_is | k_exc | rfl | decide +kernel)
    (case c_Walk___init__ => first | k_is | k_exc | rfl | decide +kernel)
    (case k_Walk___init__ => first | k_is | k_exc | rfl | decide +kernel)
    (case a_Walk_do => first | k_is | k_exc | rfl | decide +kernel)
    (case i_Walk_do => first | k_is | k_exc | rfl | decide +kernel)
    (case l_Walk_do => first | k_is | k_exc | rfl | decide +kernel)
    (case c_Walk_do => first | k_is | k_exc | rfl | decide +kernel)
    (case k_Walk_do => first | k_is | k_exc | rfl | decide +kernel)
    (case a_Walk_go => first | k_is | k_exc | rfl | decide +kernel)
    (case i_Walk_go => first | k_is | k_exc | rfl | decide +kernel)
    (case l_Walk_go => first | k_is | k_exc | rfl | decide +kernel)
    (case c_Walk_go => first | k_is | k_exc | rfl | decide +kernel)
    (case k_Walk_go => first | k_is | k_exc | rfl | decide +kernel)
    (case a_Walk_poke => first | k_is | k_exc | rfl | decide +kernel)
    (case i_Walk_poke => first | k_is | k_exc | rfl | decide +kernel)
    (case l_Walk_poke => first | k_is | k_exc | rfl | decide +kernel)
    (case c_Walk_poke => first | k_is | k_exc | rfl | decide +kernel)
    (case k_Walk_poke => first | k_is | k_exc | rfl | decide +kernel)
    (case a_Walk_row => first | k_is | k_exc | rfl | decide +kernel)
    (case i_Walk_row => first | k_is | k_exc | rfl | decide +kernel)
    (case l_Walk_row => first | k_is | k_exc | rfl | decide +kernel)
    (case c_Walk_row => first | k_is | k_exc | rfl | decide +kernel)
    (case k_Walk_row => first | k_is | k_exc | rfl | decide +kernel)
    (case a_Walk_is_true => first | k_is | k_exc | rfl | decide +kernel)
    (case i_Walk_is_true => first | k_is | k_exc | rfl | decide +kernel)
    (case l_Walk_is_true => first | k_is | k_exc | rfl | decide +kernel)
    (case c_Walk_is_true => first | k_is | k_exc | rfl | decide +kernel)
    (case k_Walk_is_true => first | k_is | k_exc | rfl | decide +kernel)
    (case a_Walk_back => first | k_is | k_exc | rfl | decide +kernel)
    (case i_Walk_back => first | k_is | k_exc | rfl | decide +kernel)
    (case l_Walk_back => first | k_is | k_exc | rfl | decide +kernel)
    (case c_Walk_back => first | k_is | k_exc | rfl | decide +kernel)
    (case k_Walk_back => first | k_is | k_exc | rfl | decide +kernel)
    (case a_Walk_counts => first | k_is | k_exc | rfl | decide +kernel)
    (case i_Walk_counts => first | k_is | k_exc | rfl | decide +kernel)
    (case l_Walk_counts => first | k_is | k_exc | rfl | decide +kernel)
    (case c_Walk_counts => first | k_is | k_exc | rfl | decide +kernel)
    (case k_Walk_counts => first | k_is | k_exc | rfl | decide +kernel)
    (case a_Walk_twin => first | k_is | k_exc | rfl | decide +kernel)
    (case i_Walk_twin => first | k_is | k_exc | rfl | decide +kernel)
    (case l_Walk_twin => first | k_is | k_exc | rfl | decide +kernel)
    (case c_Walk_twin => first | k_is | k_exc | rfl | decide +kernel)
    (case k_Walk_twin => first | k_is | k_exc | rfl | decide +kernel)
    (case a__law_cell => first | k_is | k_exc | rfl | decide +kernel)
    (case l__law_cell => first | k_is | k_exc | rfl | decide +kernel)
    (case c__law_cell => first | k_is | k_exc | rfl | decide +kernel)
    (case k__law_cell => first | k_is | k_exc | rfl | decide +kernel)
    (case a__law_pick => first | k_is | k_exc | rfl | decide +kernel)
    (case l__law_pick => first | k_is | k_exc | rfl | decide +kernel)
    (case c__law_pick => first | k_is | k_exc | rfl | decide +kernel)
    (case k__law_pick => first | k_is | k_exc | rfl | decide +kernel)
    (case a__law_term => first | k_is | k_exc | rfl | decide +kernel)
    (case l__law_term => first | k_is | k_exc | rfl | decide +kernel)
    (case c__law_term => first | k_is | k_exc | rfl | decide +kernel)
    (case k__law_term => first | k_is | k_exc | rfl | decide +kernel)
    (case a__law_rule => first | k_is | k_exc | rfl | decide +kernel)
    (case l__law_rule => first | k_is | k_exc | rfl | decide +kernel)
    (case c__law_rule => first | k_is | k_exc | rfl | decide +kernel)
    (case k__law_rule => first | k_is | k_exc | rfl | decide +kernel)
    (case a__law_class => first | k_is | k_exc | rfl | decide +kernel)
    (case l__law_class => first | k_is | k_exc | rfl | decide +kernel)
    (case c__law_class => first | k_is | k_exc | rfl | decide +kernel)
    (case k__law_class => first | k_is | k_exc | rfl | decide +kernel)
    (case a__law_told => first | k_is | k_exc | rfl | decide +kernel)
    (case l__law_told => first | k_is | k_exc | rfl | decide +kernel)
    (case c__law_told => first | k_is | k_exc | rfl | decide +kernel)
    (case k__law_told => first | k_is | k_exc | rfl | decide +kernel)
    (case a__law_done => first | k_is | k_exc | rfl | decide +kernel)
    (case l__law_done => first | k_is | k_exc | rfl | decide +kernel)
    (case c__law_done => first | k_is | k_exc | rfl | decide +kernel)
    (case k__law_done => first | k_is | k_exc | rfl | decide +kernel)
    (case q__law_done => first | k_is | k_exc | rfl | decide +kernel)
    (case t__law_done => first | k_is | k_exc | rfl | decide +kernel)
    (case v__law_done => first | k_is | k_exc | rfl | decide +kernel)
    (case m__law_done => exact PySem.W.km_tabs_of Y _ (of_decide_eq_true (by kernel_rfl)))
    (case a_law => first | k_is | k_exc | rfl | decide +kernel)
    (case l_law => first | k_is | k_exc | rfl | decide +kernel)
    (case c_law => first | k_is | k_exc | rfl | decide +kernel)
    (case k_law => first | k_is | k_exc | rfl | decide +kernel)
    (case q_law => first | k_is | k_exc | rfl | decide +kernel)
    (case t_law => first | k_is | k_exc | rfl | decide +kernel)
    (case v_law => first | k_is | k_exc | rfl | decide +kernel)
    (case m_law => exact PySem.W.km_tabs_of Y _ (of_decide_eq_true (by kernel_rfl)))
    (case o__law_done => exact of_decide_eq_true (by kernel_rfl))
    (case o_law => exact of_decide_eq_true (by kernel_rfl))
    (case z_ValueError => first | k_is | k_exc | rfl | decide +kernel)
    (case z_abs => first | k_is | k_exc | rfl | decide +kernel)
    (case z_all => first | k_is | k_exc | rfl | decide +kernel)
    (case z_bool => first | k_is | k_exc | rfl | decide +kernel)
    (case z_int => first | k_is | k_exc | rfl | decide +kernel)
    (case z_isinstance => first | k_is | k_exc | rfl | decide +kernel)
    (case z_len => first | k_is | k_exc | rfl | decide +kernel)
    (case z_list => first | k_is | k_exc | rfl | decide +kernel)
    (case z_range => first | k_is | k_exc | rfl | decide +kernel)
    (case z_str => first | k_is | k_exc | rfl | decide +kernel)
    (case z_sum => first | k_is | k_exc | rfl | decide +kernel)
    (case z_tuple => first | k_is | k_exc | rfl | decide +kernel)
    (case n_DEEPEST => first | k_is | k_exc | rfl | decide +kernel)
    (case n_MOST_TERMS => first | k_is | k_exc | rfl | decide +kernel)
    (case n_FARTHEST => first | k_is | k_exc | rfl | decide +kernel)
    (case n_GREATEST => first | k_is | k_exc | rfl | decide +kernel)
    (case n_MOST_FIRST => first | k_is | k_exc | rfl | decide +kernel)
    (case n_LONGEST => first | k_is | k_exc | rfl | decide +kernel)
    (case n_FARTHEST_POKE => first | k_is | k_exc | rfl | decide +kernel)
    (case g_NoRule => first | k_is | k_exc | rfl | decide +kernel)
    (case x_NoRule => first | k_is | k_exc | rfl | decide +kernel)
    (case kx_NoRule => first | k_is | k_exc | rfl | decide +kernel)
    (case bx_NoRule => first | k_is | k_exc | rfl | decide +kernel)
    (case tx_NoRule => first | k_is | k_exc | rfl | decide +kernel)
    (case g_NoNumber => first | k_is | k_exc | rfl | decide +kernel)
    (case x_NoNumber => first | k_is | k_exc | rfl | decide +kernel)
    (case kx_NoNumber => first | k_is | k_exc | rfl | decide +kernel)
    (case bx_NoNumber => first | k_is | k_exc | rfl | decide +kernel)
    (case tx_NoNumber => first | k_is | k_exc | rfl | decide +kernel)
    (case g_Ended => first | k_is | k_exc | rfl | decide +kernel)
    (case x_Ended => first | k_is | k_exc | rfl | decide +kernel)
    (case kx_Ended => first | k_is | k_exc | rfl | decide +kernel)
    (case bx_Ended => first | k_is | k_exc | rfl | decide +kernel)
    (case tx_Ended => first | k_is | k_exc | rfl | decide +kernel)
    (case g_NoText => first | k_is | k_exc | rfl | decide +kernel)
    (case x_NoText => first | k_is | k_exc | rfl | decide +kernel)
    (case kx_NoText => first | k_is | k_exc | rfl | decide +kernel)
    (case bx_NoText => first | k_is | k_exc | rfl | decide +kernel)
    (case tx_NoText => first | k_is | k_exc | rfl | decide +kernel)
    (case g_NoBack => first | k_is | k_exc | rfl | decide +kernel)
    (case x_NoBack => first | k_is | k_exc | rfl | decide +kernel)
    (case kx_NoBack => first | k_is | k_exc | rfl | decide +kernel)
    (case bx_NoBack => first | k_is | k_exc | rfl | decide +kernel)
    (case tx_NoBack => first | k_is | k_exc | rfl | decide +kernel)
    (case g_RowError => kernel_rfl)
    (case y_excs => kernel_rfl)
