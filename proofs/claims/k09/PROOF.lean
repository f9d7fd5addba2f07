import PyProof.Rows.All
import Wide.All
import OpenK.AllK
import Wide.FinOn
import HandS.ForMost
import HandS.Exc
import HandS.TryOnly
import HandS.ExcOwn
import HandS.WordsExc
import HandS.CallSlots
import HandS.Deep
import HandS.IsInst
import HandS.Conv
import HandS.TupAny
import HandS.TupMul
import PyProof.ReprRoads
import KE.GoesEnum
import KE.GoesZip
import KE.GoesMore
import KE.KDictZip
import HandS.Zip
import HandS.Style
import HandS.Iter
import HandS.Defaults
import HandS.CallLocal
import HandS.Comp
import HandS.ExcSuper
import HandS.ExcInit
import HandS.ExcIs
import HandS.ExcField
import KE.KSuper
import HandS.AnyAll
import HandS.Ends
import HandS.Words
import KE.DataMinMax
import PySem.Challenge.RW_cancelsback_k09_whole_picks_in_front_and
section
set_option Elab.async false
set_option linter.all false
set_option maxRecDepth 100000
set_option maxHeartbeats 1000000
set_option autoImplicit false
/-! DL1: data, the relation between data and the abstract heap. -/
namespace DL
open PySem L2

/-- data: what a value is, addresses left out; gl: a thing of the module by its name -/
inductive D where
  | non | bl (b : Bool) | int (i : Int) | str (x : Str) | lst (xs : List D) | tup (xs : List D) | gl (x : Str)

/-- a list that stays: frozen by us, locked, or of the written part -/
def LR (K : PySem.W.Frag) (F : Addr → Prop) (H : Hp) (a : Addr) (vs : List V) : Prop :=
  (F a ∧ H a = some (.lst vs)) ∨ (∃ o, H a = some (.frz o (.lst vs))) ∨
    ∃ (o : Obj) (its : Array Value) (n : Nat), K.lookup a = some o ∧ o.cls = .type "list" ∧ o.dict = none ∧ o.data = .seq its n ∧ its.size ≤ sizeLine ∧ Vals vs its.toList
theorem LR.sq {K : PySem.W.Frag} {F : Addr → Prop} {H : Hp} {a : Addr} {vs : List V} (h : LR K F H a vs) : SqL K H a vs := by
  rcases h with ⟨_, h⟩ | ⟨o, h⟩ | h
  · exact .inl (.inl h)
  · exact .inl (.inr ⟨o, h⟩)
  · exact .inr h
/-- what the data parts lean on -/
structure Par where
  K : PySem.W.Frag
  mg : Str → Option Value
mutual
inductive DV (p : Par) (F : Addr → Prop) (H : Hp) : V → D → Prop
  | non : DV p F H .non .non
  | bl (b : Bool) : DV p F H (.bl b) (.bl b)
  | int (i : Int) : DV p F H (.int i) (.int i)
  | str (x : Str) : DV p F H (.str x) (.str x)
  | gl {a : Addr} {x : Str} : p.mg x = some (.ref a) → DV p F H (.ref a) (.gl x)
  | lst {a : Addr} {vs : List V} {ds : List D} : LR p.K F H a vs → DVs p F H vs ds → DV p F H (.ref a) (.lst ds)
  | tup {a : Addr} {vs : List V} {ds : List D} : SqT p.K H a vs → DVs p F H vs ds → DV p F H (.ref a) (.tup ds)
inductive DVs (p : Par) (F : Addr → Prop) (H : Hp) : List V → List D → Prop
  | nil : DVs p F H [] []
  | cons {v : V} {vs : List V} {d : D} {ds : List D} : DV p F H v d → DVs p F H vs ds → DVs p F H (v :: vs) (d :: ds)
end
/-- what is frozen, what never changes, stays -/
structure Ext (F : Addr → Prop) (H : Hp) (F' : Addr → Prop) (H' : Hp) : Prop where
  fl : ∀ a, F a → F' a ∧ H' a = H a
  tp : ∀ a xs, H a = some (.tup xs) → H' a = some (.tup xs)
  fz : ∀ a o u, H a = some (.frz o u) → H' a = some (.frz o u)
/-- only new objects came -/
structure New (F : Addr → Prop) (H : Hp) (F' : Addr → Prop) (H' : Hp) : Prop where
  keep : ∀ a o, H a = some o → H' a = some o
  fl : ∀ a, F a → F' a
  nw : ∀ a, F' a → F a ∨ H a = none
  dom : ∀ a, F' a → ∃ xs, H' a = some (.lst xs)
def Dom (F : Addr → Prop) (H : Hp) : Prop := ∀ a, F a → ∃ xs, H a = some (.lst xs)

section
variable {p : Par} {F F' F2 : Addr → Prop} {H H' H2 : Hp} {v : V} {d : D} {vs ws : List V} {ds es : List D}
theorem Ext.refl : Ext F H F H := ⟨fun _ h => ⟨h, rfl⟩, fun _ _ h => h, fun _ _ _ h => h⟩
theorem Ext.trans (a : Ext F H F' H') (b : Ext F' H' F2 H2) : Ext F H F2 H2 :=
  ⟨fun x h => ⟨(b.fl x (a.fl x h).1).1, (b.fl x (a.fl x h).1).2.trans (a.fl x h).2⟩, fun x xs h => b.tp x xs (a.tp x xs h), fun x o u h => b.fz x o u (a.fz x o u h)⟩
theorem LR.ext {a : Addr} (e : Ext F H F' H') (h : LR p.K F H a vs) : LR p.K F' H' a vs := by
  rcases h with ⟨h1, h2⟩ | ⟨o, h⟩ | h
  · exact .inl ⟨(e.fl a h1).1, (e.fl a h1).2.trans h2⟩
  · exact .inr (.inl ⟨o, e.fz a o _ h⟩)
  · exact .inr (.inr h)
theorem sqT_ext {a : Addr} (e : Ext F H F' H') (h : SqT p.K H a vs) : SqT p.K H' a vs := by
  rcases h with (h | ⟨o, h⟩) | h
  · exact .inl (.inl (e.tp a _ h))
  · exact .inl (.inr ⟨o, e.fz a o _ h⟩)
  · exact .inr h
mutual
theorem DV.ext (e : Ext F H F' H') : ∀ {v : V} {d : D}, DV p F H v d → DV p F' H' v d
  | _, _, .non => .non
  | _, _, .bl b => .bl b
  | _, _, .int i => .int i
  | _, _, .str x => .str x
  | _, _, .gl h => .gl h
  | _, _, .lst h hs => .lst (h.ext e) (DVs.ext e hs)
  | _, _, .tup h hs => .tup (sqT_ext e h) (DVs.ext e hs)
theorem DVs.ext (e : Ext F H F' H') : ∀ {vs : List V} {ds : List D}, DVs p F H vs ds → DVs p F' H' vs ds
  | _, _, .nil => .nil
  | _, _, .cons h hs => .cons (DV.ext e h) (DVs.ext e hs)
end
theorem New.ext (hd : Dom F H) (n : New F H F' H') : Ext F H F' H' :=
  ⟨fun a h => ⟨n.fl a h, by obtain ⟨xs, e⟩ := hd a h; rw [e, n.keep a _ e]⟩, fun a xs h => n.keep a _ h, fun a o u h => n.keep a _ h⟩
theorem New.refl (hd : Dom F H) : New F H F H := ⟨fun _ _ h => h, fun _ h => h, fun _ h => .inl h, hd⟩
theorem New.trans (a : New F H F' H') (b : New F' H' F2 H2) : New F H F2 H2 where
  keep := fun x o h => b.keep x o (a.keep x o h)
  fl := fun x h => b.fl x (a.fl x h)
  nw := fun x h => by
    rcases b.nw x h with h1 | h1
    · exact a.nw x h1
    · cases q : H x with
      | none => exact .inr rfl
      | some o =>
        rw [a.keep x o q] at h1
        cases h1
  dom := b.dom
/-- a new tuple -/
theorem New.tup (hd : Dom F H) {q : Addr} {xs : List V} (hq : H q = none) : New F H F (upd H q (.tup xs)) where
  keep := fun a o h => by rw [upd_ne (ne_of_none h hq)]; exact h
  fl := fun _ h => h
  nw := fun _ h => .inl h
  dom := fun a h => by
    obtain ⟨ys, e⟩ := hd a h
    exact ⟨ys, by rw [upd_ne (ne_of_none e hq)]; exact e⟩
/-- a new object that is no list of ours -/
theorem New.obj (hd : Dom F H) {q : Addr} {o : HO} (hq : H q = none) : New F H F (upd H q o) where
  keep := fun a o h => by rw [upd_ne (ne_of_none h hq)]; exact h
  fl := fun _ h => h
  nw := fun _ h => .inl h
  dom := fun a h => by
    obtain ⟨ys, e⟩ := hd a h
    exact ⟨ys, by rw [upd_ne (ne_of_none e hq)]; exact e⟩
/-- a new list, frozen at once -/
theorem New.lst (hd : Dom F H) {q : Addr} {xs : List V} (hq : H q = none) : New F H (fun a => F a ∨ a = q) (upd H q (.lst xs)) where
  keep := fun a o h => by rw [upd_ne (ne_of_none h hq)]; exact h
  fl := fun _ h => .inl h
  nw := fun a h => by
    rcases h with h | h
    · exact .inl h
    · exact .inr (by rw [h]; exact hq)
  dom := fun a h => by
    rcases h with h | h
    · obtain ⟨ys, e⟩ := hd a h
      exact ⟨ys, by rw [upd_ne (ne_of_none e hq)]; exact e⟩
    · exact ⟨xs, by rw [h]; exact upd_same⟩
theorem DVs.length : ∀ {vs : List V} {ds : List D}, DVs p F H vs ds → vs.length = ds.length
  | _, _, .nil => rfl
  | _, _, .cons _ h => congrArg (· + 1) (DVs.length h)
theorem DVs.get : ∀ {vs : List V} {ds : List D} {i : Nat} {d : D}, DVs p F H vs ds → ds[i]? = some d → ∃ v, vs[i]? = some v ∧ DV p F H v d
  | _, _, _, _, .nil, e => by simp at e
  | _, _, 0, _, .cons h _, e => by
    have e' := Option.some.inj e
    subst e'
    exact ⟨_, rfl, h⟩
  | _, _, i + 1, d, .cons _ h, e => by
    obtain ⟨v, h1, h2⟩ := DVs.get (i := i) (d := d) h e
    exact ⟨v, h1, h2⟩
theorem DVs.getV : ∀ {vs : List V} {ds : List D} {i : Nat} {v : V}, DVs p F H vs ds → vs[i]? = some v → ∃ d, ds[i]? = some d ∧ DV p F H v d
  | _, _, _, _, .nil, e => by simp at e
  | _, _, 0, _, .cons h _, e => by
    have e' := Option.some.inj e
    subst e'
    exact ⟨_, rfl, h⟩
  | _, _, i + 1, v, .cons _ h, e => by
    obtain ⟨d, h1, h2⟩ := DVs.getV (i := i) (v := v) h e
    exact ⟨d, h1, h2⟩
theorem DVs.append : ∀ {vs ws : List V} {ds es : List D}, DVs p F H vs ds → DVs p F H ws es → DVs p F H (vs ++ ws) (ds ++ es)
  | _, _, _, _, .nil, h => h
  | _, _, _, _, .cons a b, h => .cons a (DVs.append b h)
theorem DVs.take : ∀ {vs : List V} {ds : List D} (n : Nat), DVs p F H vs ds → DVs p F H (vs.take n) (ds.take n)
  | _, _, 0, _ => .nil
  | _, _, _ + 1, .nil => .nil
  | _, _, n + 1, .cons a b => .cons a (DVs.take n b)
theorem DVs.drop : ∀ {vs : List V} {ds : List D} (n : Nat), DVs p F H vs ds → DVs p F H (vs.drop n) (ds.drop n)
  | _, _, 0, h => h
  | _, _, _ + 1, .nil => .nil
  | _, _, n + 1, .cons _ b => DVs.drop n b
theorem DVs.reverse : ∀ {vs : List V} {ds : List D}, DVs p F H vs ds → DVs p F H vs.reverse ds.reverse
  | _, _, .nil => .nil
  | _, _, .cons a b => by
    rw [List.reverse_cons, List.reverse_cons]
    exact DVs.append (DVs.reverse b) (.cons a .nil)
theorem DVs.set : ∀ {vs : List V} {ds : List D} {v : V} {d : D} (i : Nat), DVs p F H vs ds → DV p F H v d → DVs p F H (vs.set i v) (ds.set i d)
  | _, _, _, _, _, .nil, _ => .nil
  | _, _, _, _, 0, .cons _ b, h => .cons h b
  | _, _, _, _, i + 1, .cons a b, h => .cons a (DVs.set i b h)
theorem DVs.map {α : Type} (f : α → V) (g : α → D) (h : ∀ a, DV p F H (f a) (g a)) : ∀ l : List α, DVs p F H (l.map f) (l.map g)
  | [] => .nil
  | a :: l => .cons (h a) (DVs.map f g h l)
theorem DVs.dropLast : ∀ {vs : List V} {ds : List D}, DVs p F H vs ds → DVs p F H vs.dropLast ds.dropLast
  | _, _, .nil => .nil
  | _, _, .cons _ .nil => .nil
  | _, _, .cons a (.cons b c) => .cons a (DVs.dropLast (.cons b c))
end

/-! ### data as PyData -/
mutual
def toP : D → PyData
  | .non => .none
  | .bl b => .bool b
  | .int i => .int i
  | .str x => .str x
  | .lst xs => .list (toPs xs)
  | .tup xs => .tuple (toPs xs)
  | .gl _ => .none
def toPs : List D → List PyData
  | [] => []
  | x :: xs => toP x :: toPs xs
end
mutual
/-- no thing of the module within -/
def plain : D → Bool
  | .non => true
  | .bl _ => true
  | .int _ => true
  | .str _ => true
  | .lst xs => plains xs
  | .tup xs => plains xs
  | .gl _ => false
def plains : List D → Bool
  | [] => true
  | x :: xs => plain x && plains xs
end
section
variable {p : Par} {F : Addr → Prop} {H : Hp}
mutual
theorem DV.dp : ∀ {v : V} {d : D}, DV p F H v d → plain d = true → Dp p.K H v (toP d)
  | _, _, .non, _ => by unfold toP; exact .non
  | _, _, .bl b, _ => by unfold toP; exact .bl b
  | _, _, .int i, _ => by unfold toP; exact .int i
  | _, _, .str x, _ => by unfold toP; exact .str x
  | _, _, .gl _, h => by unfold plain at h; cases h
  | _, _, .lst a b, h => by
    unfold plain at h
    unfold toP
    exact .lst a.sq (DVs.dp b h)
  | _, _, .tup a b, h => by
    unfold plain at h
    unfold toP
    exact .tup a (DVs.dp b h)
theorem DVs.dp : ∀ {vs : List V} {ds : List D}, DVs p F H vs ds → plains ds = true → DpAll p.K H vs (toPs ds)
  | _, _, .nil, _ => by unfold toPs; exact .nil
  | _, _, .cons a b, h => by
    unfold plains at h
    obtain ⟨h1, h2⟩ := Bool.and_eq_true_iff.mp h
    unfold toPs
    exact .cons (DV.dp a h1) (DVs.dp b h2)
end
end

/-! ### the frame's slots -/
/-- a slot: nothing told, data, a list of the frame's own (b: the one that was handed in) -/
inductive Sl where
  | no
  | val (d : D)
  | own (b : Bool) (xs : List D)
abbrev DSt := List Sl
/-- the entry: what was frozen, the heap, the list that was handed in to be changed -/
structure Ent where
  F : Addr → Prop
  H : Hp
  w : Option Addr
def SlR (p : Par) (B : Ent) (F : Addr → Prop) (H : Hp) (o : Option V) : Sl → Prop
  | .no => True
  | .val d => ∃ v, o = some v ∧ DV p F H v d
  | .own b xs => ∃ a vs, o = some (.ref a) ∧ H a = some (.lst vs) ∧ DVs p F H vs xs ∧ ¬ F a ∧ (if b = true then B.w = some a else B.H a = none)
structure Rel (p : Par) (B : Ent) (F : Addr → Prop) (σv : L2.St) (H : Hp) (σ : DSt) : Prop where
  len : σ.length = σv.length
  dom : Dom F H
  f0 : ∀ a, B.F a → F a
  nw : ∀ a, F a → B.F a ∨ B.H a = none
  keep : ∀ a o, B.H a = some o → B.w ≠ some a → H a = some o
  bw : ∀ a, B.w = some a → ∃ xs, B.H a = some (.lst xs)
  wl : ∀ a, B.w = some a → (∃ xs, H a = some (.lst xs)) ∧ ¬ F a
  sl : ∀ (i : Nat) (s : Sl), σ[i]? = some s → ∃ o, σv[i]? = some o ∧ SlR p B F H o s
  sep : ∀ (i j : Nat) (b c : Bool) (xs ys : List D), i ≠ j → σ[i]? = some (Sl.own b xs) → σ[j]? = some (Sl.own c ys) → σv[i]? ≠ σv[j]?
section
variable {p : Par} {B : Ent} {F F' : Addr → Prop} {σv : L2.St} {H H' : Hp} {σ : DSt}
theorem SlR.new {o : Option V} {s : Sl} (hd : Dom F H) (n : New F H F' H') (h : SlR p B F H o s) : SlR p B F' H' o s := by
  cases s with
  | no => trivial
  | val d =>
    obtain ⟨v, e, h⟩ := h
    exact ⟨v, e, h.ext (n.ext hd)⟩
  | own b xs =>
    obtain ⟨a, vs, e, h1, h2, h3, h4⟩ := h
    refine ⟨a, vs, e, n.keep _ _ h1, h2.ext (n.ext hd), fun z => ?_, h4⟩
    rcases n.nw a z with z | z
    · exact h3 z
    · rw [h1] at z
      cases z
theorem Rel.new (r : Rel p B F σv H σ) (n : New F H F' H') : Rel p B F' σv H' σ where
  len := r.len
  dom := n.dom
  f0 := fun a h => n.fl a (r.f0 a h)
  nw := fun a h => by
    rcases n.nw a h with h1 | h1
    · exact r.nw a h1
    · cases q : B.H a with
      | none => exact .inr rfl
      | some o =>
        by_cases hw : B.w = some a
        · obtain ⟨⟨xs, e⟩, _⟩ := r.wl a hw
          rw [e] at h1
          cases h1
        · rw [r.keep a o q hw] at h1
          cases h1
  keep := fun a o h hw => n.keep a o (r.keep a o h hw)
  bw := r.bw
  wl := fun a h => by
    obtain ⟨⟨xs, e⟩, hf⟩ := r.wl a h
    refine ⟨⟨xs, n.keep a _ e⟩, fun z => ?_⟩
    rcases n.nw a z with z | z
    · exact hf z
    · rw [e] at z
      cases z
  sl := fun i s h => by
    obtain ⟨o, e, q⟩ := r.sl i s h
    exact ⟨o, e, q.new r.dom n⟩
  sep := r.sep
/-- a slot by its name -/
theorem Rel.val (r : Rel p B F σv H σ) {i : Nat} {d : D} (h : σ[i]? = some (.val d)) : ∃ v, σv[i]? = some (some v) ∧ DV p F H v d := by
  obtain ⟨o, e, v, e2, q⟩ := r.sl i _ h
  exact ⟨v, by rw [e, e2], q⟩
theorem Rel.lst (r : Rel p B F σv H σ) {i : Nat} {b : Bool} {xs : List D} (h : σ[i]? = some (Sl.own b xs)) :
    ∃ a vs, σv[i]? = some (some (.ref a)) ∧ H a = some (.lst vs) ∧ DVs p F H vs xs ∧ ¬ F a ∧ (if b = true then B.w = some a else B.H a = none) := by
  obtain ⟨o, e, a, vs, e2, q⟩ := r.sl i _ h
  exact ⟨a, vs, by rw [e, e2], q⟩
/-- a slot gets data -/
theorem Rel.set (r : Rel p B F σv H σ) {i : Nat} {v : V} {d : D} (h : DV p F H v d) : Rel p B F (σv.set i (some v)) H (σ.set i (.val d)) where
  len := by rw [List.length_set, List.length_set]; exact r.len
  dom := r.dom
  f0 := r.f0
  nw := r.nw
  keep := r.keep
  bw := r.bw
  wl := r.wl
  sl := fun j s e => by
    by_cases hj : i = j
    · subst hj
      have hl : i < σ.length := by
        have := (List.getElem?_eq_some_iff.mp e).1
        rw [List.length_set] at this
        exact this
      rw [List.getElem?_set_self hl] at e
      have e' := Option.some.inj e
      subst e'
      exact ⟨some v, by rw [List.getElem?_set_self (by rw [← r.len]; exact hl)], v, rfl, h⟩
    · rw [List.getElem?_set_ne hj] at e
      rw [List.getElem?_set_ne hj]
      exact r.sl j s e
  sep := fun j k b c xs ys hne h1 h2 => by
    have n1 : i ≠ j := fun z => by
      subst z
      rw [List.getElem?_set] at h1
      split at h1
      · split at h1
        · cases h1
        · cases h1
      · exact absurd rfl ‹_›
    have n2 : i ≠ k := fun z => by
      subst z
      rw [List.getElem?_set] at h2
      split at h2
      · split at h2
        · cases h2
        · cases h2
      · exact absurd rfl ‹_›
    rw [List.getElem?_set_ne n1] at h1
    rw [List.getElem?_set_ne n2] at h2
    rw [List.getElem?_set_ne n1, List.getElem?_set_ne n2]
    exact r.sep j k b c xs ys hne h1 h2
/-- a slot is forgotten -/
theorem Rel.drop (r : Rel p B F σv H σ) (i : Nat) (o : Option V) : Rel p B F (σv.set i o) H (σ.set i .no) where
  len := by rw [List.length_set, List.length_set]; exact r.len
  dom := r.dom
  f0 := r.f0
  nw := r.nw
  keep := r.keep
  bw := r.bw
  wl := r.wl
  sl := fun j s e => by
    by_cases hj : i = j
    · subst hj
      have hl : i < σ.length := by
        have := (List.getElem?_eq_some_iff.mp e).1
        rw [List.length_set] at this
        exact this
      rw [List.getElem?_set_self hl] at e
      have e' := Option.some.inj e
      subst e'
      exact ⟨o, by rw [List.getElem?_set_self (by rw [← r.len]; exact hl)], trivial⟩
    · rw [List.getElem?_set_ne hj] at e
      rw [List.getElem?_set_ne hj]
      exact r.sl j s e
  sep := fun j k b c xs ys hne h1 h2 => by
    have n1 : i ≠ j := fun z => by
      subst z
      rw [List.getElem?_set] at h1
      split at h1
      · split at h1
        · cases h1
        · cases h1
      · exact absurd rfl ‹_›
    have n2 : i ≠ k := fun z => by
      subst z
      rw [List.getElem?_set] at h2
      split at h2
      · split at h2
        · cases h2
        · cases h2
      · exact absurd rfl ‹_›
    rw [List.getElem?_set_ne n1] at h1
    rw [List.getElem?_set_ne n2] at h2
    rw [List.getElem?_set_ne n1, List.getElem?_set_ne n2]
    exact r.sep j k b c xs ys hne h1 h2
end
end DL
end

section
set_option Elab.async false
set_option linter.all false
set_option maxRecDepth 100000
set_option maxHeartbeats 1000000
set_option autoImplicit false
/-! DL2: own lists, entries and ends of defs, the readings of meanings. -/
namespace DL
open PySem L2
section
variable {p : Par} {B : Ent} {F F' : Addr → Prop} {σv : L2.St} {H H' : Hp} {σ : DSt}
/-- a list that nobody else has -/
structure Free (p : Par) (B : Ent) (F : Addr → Prop) (σv : L2.St) (H : Hp) (σ : DSt) (q : Addr) (xs : List D) : Prop where
  at_ : ∃ vs, H q = some (.lst vs) ∧ DVs p F H vs xs
  nf : ¬ F q
  nb : B.H q = none
  ns : ∀ (i : Nat) (b : Bool) (ys : List D), σ[i]? = some (Sl.own b ys) → σv[i]? ≠ some (some (.ref q))
theorem Ext.one {q : Addr} : Ext F H (fun a => F a ∨ a = q) H := ⟨fun _ h => ⟨.inl h, rfl⟩, fun _ _ h => h, fun _ _ _ h => h⟩
theorem Rel.freeze (r : Rel p B F σv H σ) {q : Addr} {xs : List D} (f : Free p B F σv H σ q xs) : Rel p B (fun a => F a ∨ a = q) σv H σ where
  len := r.len
  dom := fun a h => by
    rcases h with h | h
    · exact r.dom a h
    · obtain ⟨vs, e, _⟩ := f.at_
      exact ⟨vs, by rw [h]; exact e⟩
  f0 := fun a h => .inl (r.f0 a h)
  nw := fun a h => by
    rcases h with h | h
    · exact r.nw a h
    · exact .inr (by rw [h]; exact f.nb)
  keep := r.keep
  bw := r.bw
  wl := fun a h => by
    obtain ⟨h1, h2⟩ := r.wl a h
    refine ⟨h1, fun z => ?_⟩
    rcases z with z | z
    · exact h2 z
    · obtain ⟨ys, e⟩ := r.bw a h
      rw [z, f.nb] at e
      cases e
  sl := fun i s h => by
    obtain ⟨o, e, q2⟩ := r.sl i s h
    refine ⟨o, e, ?_⟩
    cases s with
    | no => trivial
    | val d =>
      obtain ⟨v, e2, h2⟩ := q2
      exact ⟨v, e2, h2.ext Ext.one⟩
    | own b ys =>
      obtain ⟨a, vs, e2, h1, h2, h3, h4⟩ := q2
      refine ⟨a, vs, e2, h1, h2.ext Ext.one, fun z => ?_, h4⟩
      rcases z with z | z
      · exact h3 z
      · exact f.ns i b ys h (by rw [e, e2, z])
  sep := r.sep
theorem Free.dv {q : Addr} {xs : List D} (f : Free p B F σv H σ q xs) : DV p (fun a => F a ∨ a = q) H (.ref q) (.lst xs) := by
  obtain ⟨vs, e, h⟩ := f.at_
  exact .lst (.inl ⟨.inr rfl, e⟩) (h.ext Ext.one)
/-- a list laid now -/
theorem Free.laid (r : Rel p B F σv H σ) {q : Addr} {vs : List V} {xs : List D} (hq : H q = none) (h : DVs p F H vs xs) : Rel p B F σv (upd H q (.lst vs)) σ ∧ Free p B F σv (upd H q (.lst vs)) σ q xs := by
  have n : New F H F (upd H q (.lst vs)) := New.obj r.dom hq
  refine ⟨r.new n, ⟨vs, upd_same, h.ext (n.ext r.dom)⟩, fun z => ?_, ?_, fun i b ys e z => ?_⟩
  · obtain ⟨ws, e⟩ := r.dom q z
    rw [hq] at e
    cases e
  · cases e : B.H q with
    | none => rfl
    | some o =>
      by_cases hw : B.w = some q
      · obtain ⟨⟨ws, e2⟩, _⟩ := r.wl q hw
        rw [hq] at e2
        cases e2
      · have := r.keep q o e hw
        rw [hq] at this
        cases this
  · obtain ⟨a, ws, e1, e2, _⟩ := r.lst e
    rw [e1] at z
    injection z with z
    injection z with z
    injection z with z
    rw [z, hq] at e2
    cases e2
theorem Rel.setOwn (r : Rel p B F σv H σ) {i : Nat} {q : Addr} {xs : List D} (f : Free p B F σv H σ q xs) : Rel p B F (σv.set i (some (.ref q))) H (σ.set i (Sl.own false xs)) where
  len := by rw [List.length_set, List.length_set]; exact r.len
  dom := r.dom
  f0 := r.f0
  nw := r.nw
  keep := r.keep
  bw := r.bw
  wl := r.wl
  sl := fun j s e => by
    by_cases hj : i = j
    · subst hj
      have hl : i < σ.length := by
        have := (List.getElem?_eq_some_iff.mp e).1
        rw [List.length_set] at this
        exact this
      rw [List.getElem?_set_self hl] at e
      have e' := Option.some.inj e
      subst e'
      obtain ⟨vs, h1, h2⟩ := f.at_
      exact ⟨some (.ref q), by rw [List.getElem?_set_self (by rw [← r.len]; exact hl)], q, vs, rfl, h1, h2, f.nf, f.nb⟩
    · rw [List.getElem?_set_ne hj] at e
      rw [List.getElem?_set_ne hj]
      exact r.sl j s e
  sep := fun j k b c xs' ys hne h1 h2 => by
    by_cases hj : i = j
    · subst hj
      rw [List.getElem?_set_ne hne] at h2
      have hl : i < σ.length := by
        have := (List.getElem?_eq_some_iff.mp h1).1
        rw [List.length_set] at this
        exact this
      rw [List.getElem?_set_self (by rw [← r.len]; exact hl), List.getElem?_set_ne hne]
      exact fun z => f.ns k c ys h2 z.symm
    · rw [List.getElem?_set_ne hj] at h1
      rw [List.getElem?_set_ne hj]
      by_cases hk : i = k
      · subst hk
        have hl : i < σ.length := by
          have := (List.getElem?_eq_some_iff.mp h2).1
          rw [List.length_set] at this
          exact this
        rw [List.getElem?_set_self (by rw [← r.len]; exact hl)]
        exact f.ns j b xs' h1
      · rw [List.getElem?_set_ne hk] at h2
        rw [List.getElem?_set_ne hk]
        exact r.sep j k b c xs' ys hne h1 h2
/-- a slot's own list is frozen -/
theorem Rel.freezeSlot (r : Rel p B F σv H σ) {i : Nat} {xs : List D} (h : σ[i]? = some (Sl.own false xs)) :
    ∃ a, σv[i]? = some (some (.ref a)) ∧ DV p (fun b => F b ∨ b = a) H (.ref a) (.lst xs) ∧ Rel p B (fun b => F b ∨ b = a) σv H (σ.set i (.val (.lst xs))) := by
  obtain ⟨a, vs, e1, e2, e3, e4, e5⟩ := r.lst h
  have hl : i < σ.length := (List.getElem?_eq_some_iff.mp h).1
  have hset : σv.set i (some (.ref a)) = σv := by
    apply List.ext_getElem?
    intro j
    by_cases hj : i = j
    · subst hj
      rw [List.getElem?_set_self (by rw [← r.len]; exact hl), e1]
    · rw [List.getElem?_set_ne hj]
  have r2 : Rel p B F σv H (σ.set i .no) := by
    have := r.drop i (some (.ref a))
    rw [hset] at this
    exact this
  have f : Free p B F σv H (σ.set i .no) a xs := by
    refine ⟨⟨vs, e2, e3⟩, e4, e5, fun j b ys e z => ?_⟩
    by_cases hj : i = j
    · subst hj
      rw [List.getElem?_set_self hl] at e
      cases e
    · rw [List.getElem?_set_ne hj] at e
      exact r.sep i j false b xs ys hj h e (by rw [e1, z])
  have r3 := r2.freeze f
  have r4 := r3.set (i := i) f.dv
  rw [List.set_set, hset] at r4
  exact ⟨a, e1, f.dv, r4⟩
/-- behind a change of a slot's own list (and what is new besides) -/
structure NewB (a : Addr) (F : Addr → Prop) (H : Hp) (F' : Addr → Prop) (H' : Hp) : Prop where
  keep : ∀ b o, b ≠ a → H b = some o → H' b = some o
  fl : ∀ b, F b → F' b
  nw : ∀ b, F' b → F b ∨ H b = none
  dom : ∀ b, F' b → ∃ xs, H' b = some (.lst xs)
theorem NewB.ext {a : Addr} {vs : List V} (hd : Dom F H) (ha : H a = some (.lst vs)) (hf : ¬ F a) (n : NewB a F H F' H') : Ext F H F' H' where
  fl := fun b h => ⟨n.fl b h, by
    obtain ⟨xs, e⟩ := hd b h
    rw [e, n.keep b _ (fun z => hf (z ▸ h)) e]⟩
  tp := fun b xs h => n.keep b _ (fun z => by rw [z, ha] at h; cases h) h
  fz := fun b o u h => n.keep b _ (fun z => by rw [z, ha] at h; cases h) h
theorem New.toB (a : Addr) (n : New F H F' H') : NewB a F H F' H' := ⟨fun b o _ h => n.keep b o h, n.fl, n.nw, n.dom⟩
theorem NewB.upd {a : Addr} {vs : List V} (hd : Dom F H) (hf : ¬ F a) : NewB a F H F (upd H a (.lst vs)) where
  keep := fun b o h e => by rw [upd_ne h]; exact e
  fl := fun _ h => h
  nw := fun _ h => .inl h
  dom := fun b h => by
    obtain ⟨xs, e⟩ := hd b h
    exact ⟨xs, by rw [upd_ne (fun z : b = a => hf (z ▸ h))]; exact e⟩
theorem Rel.turn (r : Rel p B F σv H σ) {i : Nat} {b : Bool} {xs xs' : List D} {a : Addr} {vs' : List V} (h : σ[i]? = some (Sl.own b xs)) (ha : σv[i]? = some (some (.ref a))) (n : NewB a F H F' H') (hn : H' a = some (.lst vs'))
    (hd : DVs p F' H' vs' xs') : Rel p B F' σv H' (σ.set i (Sl.own b xs')) := by
  obtain ⟨a', vs, e1, e2, e3, e4, e5⟩ := r.lst h
  have ea : a' = a := by
    rw [e1] at ha
    injection ha with ha
    injection ha with ha
    injection ha
  subst ea
  have hl : i < σ.length := (List.getElem?_eq_some_iff.mp h).1
  have ext := n.ext r.dom e2 e4
  have nF : ¬ F' a' := fun z => by
    rcases n.nw a' z with z | z
    · exact e4 z
    · rw [e2] at z
      cases z
  refine ⟨by rw [List.length_set]; exact r.len, n.dom, fun c h => n.fl c (r.f0 c h), fun c h => ?_, fun c o hb hw => ?_, r.bw, fun c h => ?_, fun j s e => ?_, fun j k b' c ys zs hne h1 h2 => ?_⟩
  · rcases n.nw c h with z | z
    · exact r.nw c z
    · cases q : B.H c with
      | none => exact .inr rfl
      | some o =>
        by_cases hw : B.w = some c
        · obtain ⟨⟨ws, e⟩, _⟩ := r.wl c hw
          rw [e] at z
          cases z
        · rw [r.keep c o q hw] at z
          cases z
  · refine n.keep c o (fun z => ?_) (r.keep c o hb hw)
    subst z
    cases b with
    | true => exact hw e5
    | false =>
      have e6 : B.H c = none := e5
      rw [e6] at hb
      cases hb
  · by_cases z : c = a'
    · subst z
      exact ⟨⟨_, hn⟩, nF⟩
    · obtain ⟨⟨ws, e⟩, hf⟩ := r.wl c h
      refine ⟨⟨ws, n.keep c _ z e⟩, fun y => ?_⟩
      rcases n.nw c y with y | y
      · exact hf y
      · rw [e] at y
        cases y
  · by_cases hj : i = j
    · subst hj
      rw [List.getElem?_set_self hl] at e
      have e' := Option.some.inj e
      subst e'
      exact ⟨some (.ref a'), e1, a', vs', rfl, hn, hd, nF, e5⟩
    · rw [List.getElem?_set_ne hj] at e
      obtain ⟨o, eo, q⟩ := r.sl j s e
      refine ⟨o, eo, ?_⟩
      cases s with
      | no => trivial
      | val d =>
        obtain ⟨v, e6, h6⟩ := q
        exact ⟨v, e6, h6.ext ext⟩
      | own b2 ys =>
        obtain ⟨a2, ws, f1, f2, f3, f4, f5⟩ := q
        have hne : a2 ≠ a' := fun z => by
          subst z
          exact r.sep i j b b2 xs ys hj h e (by rw [e1, eo, f1])
        refine ⟨a2, ws, f1, n.keep _ _ hne f2, f3.ext ext, fun z => ?_, f5⟩
        rcases n.nw a2 z with z | z
        · exact f4 z
        · rw [f2] at z
          cases z
  · have g1 : ∃ ys', σ[j]? = some (Sl.own b' ys') := by
      by_cases hj : i = j
      · subst hj
        rw [List.getElem?_set_self hl] at h1
        injection h1 with h1
        injection h1 with h1 _
        subst h1
        exact ⟨_, h⟩
      · rw [List.getElem?_set_ne hj] at h1
        exact ⟨_, h1⟩
    have g2 : ∃ ys', σ[k]? = some (Sl.own c ys') := by
      by_cases hj : i = k
      · subst hj
        rw [List.getElem?_set_self hl] at h2
        injection h2 with h2
        injection h2 with h2 _
        subst h2
        exact ⟨_, h⟩
      · rw [List.getElem?_set_ne hj] at h2
        exact ⟨_, h2⟩
    obtain ⟨_, g1⟩ := g1
    obtain ⟨_, g2⟩ := g2
    exact r.sep j k b' c _ _ hne g1 g2
end

/-! ### meanings -/
/-- what an expression comes to: a value and the slots; an error of the class named c with its fields; nothing told -/
inductive R (α : Type) where
  | ok (a : α) (σ : DSt)
  | err (c : Str) (fs : List (Str × D)) (σ : DSt)
  | bad
abbrev M (α : Type) := DSt → R α
/-- what a def comes to -/
inductive R0 (α : Type) where
  | ok (a : α)
  | err (c : Str) (fs : List (Str × D))
  | bad
/-- what a def hands back: data, or a new list that nobody else has -/
inductive Rt where
  | v (d : D)
  | l (xs : List D)
/-- what a statement comes to -/
inductive SO where
  | nx (σ : DSt)
  | ret (r : Rt) (σ : DSt)
  | brk (σ : DSt)
  | cont (σ : DSt)
  | err (c : Str) (fs : List (Str × D)) (σ : DSt)
  | bad
abbrev MS := DSt → SO
/-- an exception's dict -/
def XdR (p : Par) (F : Addr → Prop) (H : Hp) (dx : Addr) (fs : List (Str × D)) : Prop := ∃ kvs : List (Str × V), H dx = some (.xd kvs) ∧ kvs.map (·.1) = fs.map (·.1) ∧ DVs p F H (kvs.map (·.2)) (fs.map (·.2))
/-- the wish W takes the error -/
def ErrW (p : Par) (W : WX) (B : Ent) (F : Addr → Prop) (H : Hp) (c : Str) (fs : List (Str × D)) (σ : DSt) : Prop :=
  ∀ σv' F' H' dx C, Rel p B F' σv' H' σ → Ext F H F' H' → p.mg c = some (.ref C) → XdR p F' H' dx fs → W (.ref C) (some dx) σv' H'
/-- what comes of a meaning's value, by how values are told (P) -/
abbrev Tel (α β : Type) := Ent → (Addr → Prop) → L2.St → Hp → DSt → β → α → Prop
def core {α β : Type} (p : Par) (W : WX) (P : Tel α β) (B : Ent) (F : Addr → Prop) (σv : L2.St) (H : Hp) (r : R α) (Q : β → Hp → Prop) : Prop :=
  match r with
  | .ok a σ' => ∀ b F' H', Rel p B F' σv H' σ' → Ext F H F' H' → P B F' σv H' σ' b a → Q b H'
  | .err c fs σ' => ErrW p W B F H c fs σ'
  | .bad => False
def rdX {α β : Type} (p : Par) (W : WX) (P : Tel α β) (m : M α) (σv : L2.St) (H : Hp) (Q : β → Hp → Prop) : Prop := ∃ B F σ, Rel p B F σv H σ ∧ core p W P B F σv H (m σ) Q
abbrev tD (p : Par) : Tel D V := fun _ F _ H _ v d => DV p F H v d
abbrev tL (p : Par) : Tel (List D) V := fun B F σv H σ v xs => ∃ q, v = .ref q ∧ Free p B F σv H σ q xs
abbrev tB : Tel Bool Bool := fun _ _ _ _ _ b c => b = c
abbrev tA (p : Par) : Tel (List D) (List V) := fun _ F _ H _ vs ds => DVs p F H vs ds
abbrev tO : Tel (Option Int) (Option Int) := fun _ _ _ _ _ b c => b = c
def rdE (p : Par) (W : WX) (m : M D) : TE := rdX p W (tD p) m
def rdL (p : Par) (W : WX) (m : M (List D)) : TE := rdX p W (tL p) m
def rdT (p : Par) (W : WX) (m : M Bool) : TT := rdX p W tB m
def rdA (p : Par) (W : WX) (m : M (List D)) : TA := rdX p W (tA p) m
def rdO (p : Par) (W : WX) (m : M (Option Int)) : TO := rdX p W tO m
/-- what is handed back, at the end's heap -/
def RtE (p : Par) : Tel Rt V := fun B F σv H σ v r => match r with
  | .v d => DV p F H v d
  | .l xs => ∃ q, v = .ref q ∧ Free p B F σv H σ q xs
def coreS (p : Par) (W : WX) (D : Ends) (B : Ent) (F : Addr → Prop) (σv : L2.St) (H : Hp) (r : SO) : Prop :=
  match r with
  | .nx σ' => ∀ σv' F' H', Rel p B F' σv' H' σ' → Ext F H F' H' → D.nx σv' H'
  | .brk σ' => ∀ σv' F' H', Rel p B F' σv' H' σ' → Ext F H F' H' → D.bk σv' H'
  | .cont σ' => ∀ σv' F' H', Rel p B F' σv' H' σ' → Ext F H F' H' → D.ct σv' H'
  | .ret r σ' => ∀ v σv' F' H', Rel p B F' σv' H' σ' → Ext F H F' H' → RtE p B F' σv' H' σ' v r → D.rt v H'
  | .err c fs σ' => ErrW p W B F H c fs σ'
  | .bad => False
def rdS (p : Par) (W : WX) (m : MS) : TS := fun D σv H => ∃ B F σ, Rel p B F σv H σ ∧ coreS p W D B F σv H (m σ)
def R.bind {α β : Type} (r : R α) (f : α → DSt → R β) : R β := match r with
  | .ok a σ => f a σ
  | .err c fs σ => .err c fs σ
  | .bad => .bad
def R.run {α : Type} (r : R α) (f : α → DSt → SO) : SO := match r with
  | .ok a σ => f a σ
  | .err c fs σ => .err c fs σ
  | .bad => .bad
def SO.seq (r : SO) (f : DSt → SO) : SO := match r with
  | .nx σ => f σ
  | r => r
/-- a value that may not be told -/
def R.opt {α : Type} (o : Option α) (σ : DSt) : R α := match o with
  | some a => .ok a σ
  | none => .bad
section
variable {p : Par} {W : WX} {B : Ent} {F F' : Addr → Prop} {σv σv' : L2.St} {H H' : Hp} {σ : DSt}
theorem ErrW.mono {c : Str} {fs : List (Str × D)} (e : Ext F H F' H') (h : ErrW p W B F H c fs σ) : ErrW p W B F' H' c fs σ := fun s G K dx C r x => h s G K dx C r (e.trans x)
theorem core.mono {α β : Type} {P : Tel α β} {r : R α} {Q : β → Hp → Prop} (e : Ext F H F' H') (h : core p W P B F σv H r Q) : core p W P B F' σv H' r Q := by
  cases r with
  | ok a s => exact fun b G K r x => h b G K r (e.trans x)
  | err c fs s => exact ErrW.mono e h
  | bad => exact h
theorem coreS.mono {D : Ends} {r : SO} (e : Ext F H F' H') (h : coreS p W D B F σv H r) : coreS p W D B F' σv' H' r := by
  cases r with
  | nx s => exact fun b G K r x => h b G K r (e.trans x)
  | brk s => exact fun b G K r x => h b G K r (e.trans x)
  | cont s => exact fun b G K r x => h b G K r (e.trans x)
  | ret a s => exact fun v b G K r x => h v b G K r (e.trans x)
  | err c fs s => exact ErrW.mono e h
  | bad => exact h
/-- one part, then the rest -/
theorem rd1 {α β γ δ : Type} {P : Tel α β} {P2 : Tel γ δ} {ma : M α} {f : α → DSt → R γ} {Q : δ → Hp → Prop} (rel : Rel p B F σv H σ) (h : core p W P2 B F σv H ((ma σ).bind f) Q) :
    rdX p W P ma σv H fun x H1 => ∃ F1 σ1 a, Rel p B F1 σv H1 σ1 ∧ Ext F H F1 H1 ∧ P B F1 σv H1 σ1 x a ∧ core p W P2 B F1 σv H1 (f a σ1) Q := by
  refine ⟨B, F, σ, rel, ?_⟩
  cases e : ma σ with
  | ok a s1 =>
    rw [e] at h
    exact fun b F1 H1 r1 e1 pb => ⟨F1, s1, a, r1, e1, pb, core.mono e1 h⟩
  | err c fs s1 =>
    rw [e] at h
    exact h
  | bad =>
    rw [e] at h
    exact h
theorem rd1S {α β : Type} {P : Tel α β} {D : Ends} {ma : M α} {f : α → DSt → SO} (rel : Rel p B F σv H σ) (h : coreS p W D B F σv H ((ma σ).run f)) :
    rdX p W P ma σv H fun x H1 => ∃ F1 σ1 a, Rel p B F1 σv H1 σ1 ∧ Ext F H F1 H1 ∧ P B F1 σv H1 σ1 x a ∧ coreS p W D B F1 σv H1 (f a σ1) := by
  refine ⟨B, F, σ, rel, ?_⟩
  cases e : ma σ with
  | ok a s1 =>
    rw [e] at h
    exact fun b F1 H1 r1 e1 pb => ⟨F1, s1, a, r1, e1, pb, coreS.mono e1 h⟩
  | err c fs s1 =>
    rw [e] at h
    exact h
  | bad =>
    rw [e] at h
    exact h
theorem rdX.imp {α β : Type} {P : Tel α β} {m : M α} {Q Q' : β → Hp → Prop} (h : rdX p W P m σv H Q) (i : ∀ b H, Q b H → Q' b H) : rdX p W P m σv H Q' := by
  obtain ⟨B, F, σ, r, h⟩ := h
  refine ⟨B, F, σ, r, ?_⟩
  cases e : m σ with
  | ok a s1 =>
    rw [e] at h
    exact fun b F1 H1 r1 e1 pb => i _ _ (h b F1 H1 r1 e1 pb)
  | err c fs s1 =>
    rw [e] at h
    exact h
  | bad =>
    rw [e] at h
    exact h
end
/-! ### judgements: the syntax has the meaning -/
abbrev Cx.par (X : Cx) : Par := ⟨X.K, X.mg⟩
def SE (X : Cx) (e : Expr) (m : M D) : Prop := ∀ W, Takes X W → PE X e (rdE (Cx.par X) W m)
def SL (X : Cx) (e : Expr) (m : M (List D)) : Prop := ∀ W, Takes X W → PE X e (rdL (Cx.par X) W m)
def ST (X : Cx) (e : Expr) (m : M Bool) : Prop := ∀ W, Takes X W → PT X e (rdT (Cx.par X) W m)
def SA (X : Cx) (es : List Expr) (m : M (List D)) : Prop := ∀ W, Takes X W → PA X es (rdA (Cx.par X) W m)
def SS (X : Cx) (st : Stmt) (m : MS) : Prop := ∀ W, Takes X W → PS X st (rdS (Cx.par X) W m)
def SSs (X : Cx) (st : List Stmt) (m : MS) : Prop := ∀ W, Takes X W → PSs X st (rdS (Cx.par X) W m)
theorem PE.imp {X : Cx} {e : Expr} {t t' : TE} (h : PE X e t) (i : ∀ σ H Q, t' σ H Q → t σ H Q) : PE X e t' := ⟨fun pins s σ H Q I q => h.run pins s σ H Q I (i σ H Q q)⟩
theorem PT.imp {X : Cx} {e : Expr} {t t' : TT} (h : PT X e t) (i : ∀ σ H Q, t' σ H Q → t σ H Q) : PT X e t' := ⟨fun pins s σ H Q I q => h.run pins s σ H Q I (i σ H Q q)⟩
theorem PA.imp {X : Cx} {es : List Expr} {t t' : TA} (h : PA X es t) (i : ∀ σ H Q, t' σ H Q → t σ H Q) : PA X es t' := ⟨fun pos pins s σ H Q I q => h.run pos pins s σ H Q I (i σ H Q q)⟩
theorem PS.imp {X : Cx} {st : Stmt} {t t' : TS} (h : PS X st t) (i : ∀ D σ H, t' D σ H → t D σ H) : PS X st t' := ⟨fun pins s σ H D I q => h.run pins s σ H D I (i D σ H q)⟩
theorem PSs.imp {X : Cx} {st : List Stmt} {t t' : TS} (h : PSs X st t) (i : ∀ D σ H, t' D σ H → t D σ H) : PSs X st t' := ⟨fun pins s σ H D I q => h.run pins s σ H D I (i D σ H q)⟩
end DL
end

section
set_option Elab.async false
set_option linter.all false
set_option maxRecDepth 100000
set_option maxHeartbeats 1000000
set_option autoImplicit false
/-! DL3: expressions. -/
namespace DL
open PySem L2
/-! ### operations on data -/
/-- equality of data, where it is told -/
def eqOk (d : D) : Bool := plain d && SeqAt.shaped (toP d)
def eqv (x y : D) : Bool := PyData.eqv (toP x) (toP y)
def eqD (x y : D) : Option D := if eqOk x && eqOk y then some (.bl (eqv x y)) else none
def neD (x y : D) : Option D := if eqOk x && eqOk y then some (.bl (!eqv x y)) else none
def addD : D → D → Option D
  | .int i, .int j => some (.int (i + j))
  | .tup a, .tup b => if a.length + b.length ≤ sizeLine then some (.tup (a ++ b)) else none
  | .str a, .str b => if a.length + b.length ≤ sizeLine then some (.str (a ++ b)) else none
  | _, _ => none
def subD : D → D → Option D
  | .int i, .int j => some (.int (i - j))
  | _, _ => none
def mulD : D → D → Option D
  | .int i, .int j => if (-(2 ^ 64) < i ∧ i < 2 ^ 64) ∨ (-(2 ^ 64) < j ∧ j < 2 ^ 64) then some (.int (i * j)) else none
  | _, _ => none
def modD : D → D → Option D
  | .int i, .int j => if 0 < j then some (.int (i % j)) else none
  | _, _ => none
def divD : D → D → Option D
  | .int i, .int j => if 0 < j ∧ j < 1073741824 then some (.int (i / j)) else none
  | _, _ => none
def powD : D → D → Option D
  | .int i, .int j => if 0 ≤ j ∧ j ≤ 1000000 ∧ i.natAbs < 2 ^ 64 then some (.int (i ^ j.toNat)) else none
  | _, _ => none
def negD : D → Option D
  | .int i => some (.int (-i))
  | _ => none
def ltD : D → D → Option D
  | .int i, .int j => some (.bl (decide (i < j)))
  | _, _ => none
def leD : D → D → Option D
  | .int i, .int j => some (.bl (decide (i ≤ j)))
  | _, _ => none
def gtD : D → D → Option D
  | .int i, .int j => some (.bl (decide (j < i)))
  | _, _ => none
def geD : D → D → Option D
  | .int i, .int j => some (.bl (decide (j ≤ i)))
  | _, _ => none
def isNon : D → Bool
  | .non => true
  | _ => false
def isD : D → D → Option D
  | x, .non => some (.bl (isNon x))
  | _, _ => none
def isNotD : D → D → Option D
  | x, .non => some (.bl (!isNon x))
  | _, _ => none
def items? : D → Option (List D)
  | .lst xs => some xs
  | .tup xs => some xs
  | _ => none
def inL (x : D) (xs : List D) : Bool := (toPs xs).any fun z => PyData.eqv z (toP x)
def inD : D → D → Option D
  | x, .lst xs => if eqOk x && eqOk (.lst xs) then some (.bl (inL x xs)) else none
  | _, _ => none
def notInD : D → D → Option D
  | x, .lst xs => if eqOk x && eqOk (.lst xs) then some (.bl (!inL x xs)) else none
  | _, _ => none
def ixD : D → D → Option D
  | .lst xs, .int i => atI xs i
  | .tup xs, .int i => atI xs i
  | _, _ => none
def cut {α : Type} (xs : List α) (lo hi : Option Int) : List α := (xs.drop (HT.sIx xs.length 0 lo)).take (HT.sIx xs.length xs.length hi - HT.sIx xs.length 0 lo)
/-- the truth of data -/
def truD : D → Option Bool
  | .non => some false
  | .bl b => some b
  | .int i => some (i != 0)
  | .lst xs => some (!xs.isEmpty)
  | .tup xs => some (!xs.isEmpty)
  | .str x => if x.length ≤ sizeLine then some ((x.length : Int) != 0) else none
  | .gl _ => none

/-- what a rule about values tells of data -/
def PO2 (p : Par) (r : R2) (f : D → D → Option D) : Prop := ∀ F H x y dx dy d (Q : VK), Dom F H → DV p F H x dx → DV p F H y dy → f dx dy = some d → (∀ v F' H', New F H F' H' → DV p F' H' v d → Q v H') → r x y H Q
def PO1 (p : Par) (r : V → Hp → VK → Prop) (f : D → Option D) : Prop := ∀ F H x dx d (Q : VK), Dom F H → DV p F H x dx → f dx = some d → (∀ v F' H', New F H F' H' → DV p F' H' v d → Q v H') → r x H Q
def PC1 (p : Par) (r : List V → Hp → VK → Prop) (f : List D → Option D) : Prop := ∀ F H vs ds d (Q : VK), Dom F H → DVs p F H vs ds → f ds = some d → (∀ v F' H', New F H F' H' → DV p F' H' v d → Q v H') → r vs H Q
/-- .. a new list -/
def PCL (p : Par) (r : List V → Hp → VK → Prop) (f : List D → Option (List D)) : Prop := ∀ F H vs ds xs (Q : VK), Dom F H → DVs p F H vs ds → f ds = some xs → (∀ q ws, H q = none → DVs p F H ws xs → Q (.ref q) (upd H q (.lst ws))) → r vs H Q

/-! ### meanings of expressions -/
def mC (d : D) : M D := fun σ => .ok d σ
def mVar (i : Nat) : M D := fun σ => match σ[i]? with
  | some (.val d) => .ok d σ
  | some (Sl.own false xs) => .ok (.lst xs) (σ.set i (.val (.lst xs)))
  | _ => .bad
def mOp2 (f : D → D → Option D) (ma mb : M D) : M D := fun σ => (ma σ).bind fun x s => (mb s).bind fun y t => R.opt (f x y) t
def mOp1 (f : D → Option D) (ma : M D) : M D := fun σ => (ma σ).bind fun x s => R.opt (f x) s
def mNil : M (List D) := fun σ => .ok [] σ
def mCons (ma : M D) (ms : M (List D)) : M (List D) := fun σ => (ma σ).bind fun x s => (ms s).bind fun xs t => .ok (x :: xs) t
def mTup (ms : M (List D)) : M D := fun σ => (ms σ).bind fun xs s => if xs.length ≤ sizeLine then .ok (.tup xs) s else .bad
def mLst (ms : M (List D)) : M (List D) := fun σ => (ms σ).bind fun xs s => if xs.length ≤ sizeLine then .ok xs s else .bad
/-- a new list, frozen -/
def mFrz (ml : M (List D)) : M D := fun σ => (ml σ).bind fun xs s => .ok (.lst xs) s
def mFn (f : List D → Option D) (ms : M (List D)) : M D := fun σ => (ms σ).bind fun xs s => R.opt (f xs) s
def mFnL (f : List D → Option (List D)) (ms : M (List D)) : M (List D) := fun σ => (ms σ).bind fun xs s => R.opt (f xs) s
def mB (ma : M D) : M Bool := fun σ => (ma σ).bind fun x s => match x with
  | .bl b => .ok b s
  | _ => .bad
def mTru (ma : M D) : M Bool := fun σ => (ma σ).bind fun x s => R.opt (truD x) s
def mAnd (a b : M Bool) : M Bool := fun σ => (a σ).bind fun x s => if x = true then b s else .ok false s
def mOr (a b : M Bool) : M Bool := fun σ => (a σ).bind fun x s => if x = true then .ok true s else b s
def mNot (a : M Bool) : M Bool := fun σ => (a σ).bind fun x s => .ok (!x) s
def mIf {α : Type} (c : M Bool) (a b : M α) : M α := fun σ => (c σ).bind fun x s => if x = true then a s else b s
def mAndV (a b : M D) : M D := fun σ => (a σ).bind fun x s => match x with
  | .bl true => b s
  | .bl false => .ok (.bl false) s
  | _ => .bad
def mOrV (a b : M D) : M D := fun σ => (a σ).bind fun x s => match x with
  | .bl false => b s
  | .bl true => .ok (.bl true) s
  | _ => .bad
def mNotV (a : M D) : M D := fun σ => (a σ).bind fun x s => match x with
  | .bl b => .ok (.bl (!b)) s
  | _ => .bad
def mNo : M (Option Int) := fun σ => .ok none σ
def mSome (ma : M D) : M (Option Int) := fun σ => (ma σ).bind fun x s => match x with
  | .int i => .ok (some i) s
  | _ => .bad
def mSlT (ma : M D) (ml mh : M (Option Int)) : M D := fun σ => (ma σ).bind fun x s => (ml s).bind fun l t => (mh t).bind fun h u => match x with
  | .tup xs => .ok (.tup (cut xs l h)) u
  | _ => .bad
def mSlL (ma : M D) (ml mh : M (Option Int)) : M (List D) := fun σ => (ma σ).bind fun x s => (ml s).bind fun l t => (mh t).bind fun h u => match x with
  | .lst xs => .ok (cut xs l h) u
  | _ => .bad

section
variable {X : Cx} {e a b c : Expr} {es : List Expr} {ma mb mc : M D} {ms : M (List D)} {pos : Pos} {B : Ent} {F : Addr → Prop} {σ : DSt} {σv : L2.St} {H : Hp} {p : Par} {W : WX}
theorem core_ok {α β : Type} {P : Tel α β} {x : α} {y : β} {Q : β → Hp → Prop} (r : Rel p B F σv H σ) (h : core p W P B F σv H (.ok x σ) Q) (hp : P B F σv H σ y x) : Q y H := h y F H r Ext.refl hp
theorem core_new {β : Type} {P : Tel D V} {x : D} {y : V} {F' : Addr → Prop} {H' : Hp} {Q : V → Hp → Prop} (r : Rel p B F σv H σ) (h : core p W P B F σv H (.ok x σ) Q) (n : New F H F' H') (hp : P B F' σv H' σ y x) : Q y H' := h y F' H' (r.new n) (n.ext r.dom) hp
theorem core_opt {α β : Type} {P : Tel α β} {o : Option α} {Q : β → Hp → Prop} (h : core p W P B F σv H (R.opt o σ) Q) : ∃ x, o = some x ∧ core p W P B F σv H (.ok x σ) Q := by
  cases o with
  | none => exact h.elim
  | some x => exact ⟨x, rfl, h⟩
/-! names, constants -/
theorem se_c {d : D} {v : V} (h : PE X e (tC v)) (hd : ∀ F H, DV (Cx.par X) F H v d) : SE X e (mC d) := fun W _ => PE.imp h fun σv H Q ⟨B, F, σ, r, h⟩ => core_ok r h (hd F H)
theorem se_int {i : Int} {j : Nat} : SE X (.Constant (.int i) j pos) (mC (.int i)) := se_c pe_int fun _ _ => .int i
theorem se_bl {i : Bool} {j : Nat} : SE X (.Constant (.bool i) j pos) (mC (.bl i)) := se_c pe_bl fun _ _ => .bl i
theorem se_non {j : Nat} : SE X (.Constant .none j pos) (mC .non) := se_c pe_non fun _ _ => .non
theorem se_str {i : Str} {j : Nat} : SE X (.Constant (.str i) j pos) (mC (.str i)) := se_c pe_str fun _ _ => .str i
theorem se_glI {x : Str} {i : Int} {tk : Tok} (hg : Gl X x) (hm : X.mg x = some (.int i tk)) (hd : (x == ("__debug__" : Str)) = false := by decide) : SE X (.Name x pos) (mC (.int i)) := se_c (v := .int i) (pe_glob hg hm ⟨tk, rfl⟩ hd) fun _ _ => .int i
theorem se_gl {x : Str} {f : Addr} (hg : Gl X x) (hm : X.mg x = some (.ref f)) (hd : (x == ("__debug__" : Str)) = false := by decide) : SE X (.Name x pos) (mC (.gl x)) := se_c (v := .ref f) (pe_glob hg hm rfl hd) fun _ _ => .gl hm
theorem se_var {i : Nat} {x : Str} (hN : X.N[i]? = some x) (hv : Vis X.env.scope x) (hd : (x == ("__debug__" : Str)) = false := by decide) (hcd : (x == ("__classdict__" : Str)) = false := by decide) : SE X (.Name x pos) (mVar i) :=
  fun W _ => PE.imp (pe_var hN hv hd hcd) fun σv H Q ⟨B, F, σ, r, h⟩ => by
    unfold mVar at h
    cases hs : σ[i]? with
    | none =>
      rw [hs] at h
      exact h.elim
    | some s =>
      rw [hs] at h
      cases s with
      | no => exact h.elim
      | val d =>
        obtain ⟨v, e, hv⟩ := r.val hs
        exact ⟨v, e, core_ok r h hv⟩
      | own b xs =>
        cases b with
        | true => exact h.elim
        | false =>
          obtain ⟨a, e, hv, r2⟩ := r.freezeSlot hs
          exact ⟨.ref a, e, h _ _ _ r2 Ext.one hv⟩
/-! operations -/
theorem se_op2 {op : Operator} {r : R2} {f : D → D → Option D} (ho : OpR X (binaryOp op) r) (hf : PO2 (Cx.par X) r f) (ha : SE X a ma) (hb : SE X b mb) : SE X (.BinOp a op b pos) (mOp2 f ma mb) :=
  fun W tk => PE.imp (pe_op ho (ha W tk) (hb W tk)) fun σv H Q ⟨B, F, σ, r0, h⟩ => (rd1 r0 h).imp fun x H1 ⟨F1, s1, dx, r1, e1, v1, h1⟩ => (rd1 r1 h1).imp fun y H2 ⟨F2, s2, dy, r2, e2, v2, h2⟩ => by
    obtain ⟨d, hd, h2⟩ := core_opt h2
    exact hf F2 H2 x y dx dy d Q r2.dom (v1.ext e2) v2 hd fun v F' H' n dv => core_new (β := V) r2 h2 n dv
theorem se_cmp {op : CmpOp} {r : R2} {f : D → D → Option D} (ho : OpR X (compareOp op) r) (hf : PO2 (Cx.par X) r f) (ha : SE X a ma) (hb : SE X b mb) (hm : behindInMarks op b = false) : SE X (.Compare a [op] [b] pos) (mOp2 f ma mb) :=
  fun W tk => PE.imp (pe_cmpR ho (ha W tk) (hb W tk) hm) fun σv H Q ⟨B, F, σ, r0, h⟩ => (rd1 r0 h).imp fun x H1 ⟨F1, s1, dx, r1, e1, v1, h1⟩ => (rd1 r1 h1).imp fun y H2 ⟨F2, s2, dy, r2, e2, v2, h2⟩ => by
    obtain ⟨d, hd, h2⟩ := core_opt h2
    exact hf F2 H2 x y dx dy d Q r2.dom (v1.ext e2) v2 hd fun v F' H' n dv => core_new (β := V) r2 h2 n dv
theorem se_ix {r : R2} {f : D → D → Option D} (hr : IxR X r) (hf : PO2 (Cx.par X) r f) (ha : SE X a ma) (hb : SE X b mb) (hs : PlainIx b) : SE X (.Subscript a b pos) (mOp2 f ma mb) :=
  fun W tk => PE.imp (pe_ix hr (ha W tk) (hb W tk) hs) fun σv H Q ⟨B, F, σ, r0, h⟩ => (rd1 r0 h).imp fun x H1 ⟨F1, s1, dx, r1, e1, v1, h1⟩ => (rd1 r1 h1).imp fun y H2 ⟨F2, s2, dy, r2, e2, v2, h2⟩ => by
    obtain ⟨d, hd, h2⟩ := core_opt h2
    exact hf F2 H2 x y dx dy d Q r2.dom (v1.ext e2) v2 hd fun v F' H' n dv => core_new (β := V) r2 h2 n dv
theorem se_op1 {op : UnaryOp} {r : V → Hp → VK → Prop} {f : D → Option D} (ho : UnR X (unaryOp op) r) (hf : PO1 (Cx.par X) r f) (ha : SE X a ma) : SE X (.UnaryOp op a pos) (mOp1 f ma) :=
  fun W tk => PE.imp (pe_un ho (ha W tk)) fun σv H Q ⟨B, F, σ, r0, h⟩ => (rd1 r0 h).imp fun x H1 ⟨F1, s1, dx, r1, e1, v1, h1⟩ => by
    obtain ⟨d, hd, h1⟩ := core_opt h1
    exact hf F1 H1 x dx d Q r1.dom v1 hd fun v F' H' n dv => core_new (β := V) r1 h1 n dv
/-! displays, arguments -/
theorem sa_nil : SA X [] mNil := fun W _ => PA.imp pa_nil fun σv H Q ⟨B, F, σ, r, h⟩ => h [] F H r Ext.refl .nil
theorem sa_cons (ha : SE X a ma) (hs : SA X es ms) (hst : starEach (a :: es) X.env = (false, eval a X.env) :: starEach es X.env := by rfl) : SA X (a :: es) (mCons ma ms) :=
  fun W tk => PA.imp (pa_cons (ha W tk) (hs W tk) hst) fun σv H Q ⟨B, F, σ, r0, h⟩ => (rd1 r0 h).imp fun x H1 ⟨F1, s1, dx, r1, e1, v1, h1⟩ => (rd1 r1 h1).imp fun xs H2 ⟨F2, s2, ds, r2, e2, v2, h2⟩ => core_ok (P := tA (Cx.par X)) r2 h2 (.cons (v1.ext e2) v2)
theorem se_tup {x1 : Nat} (hs : SA X es ms) : SE X (.Tuple es x1 pos) (mTup ms) :=
  fun W tk => PE.imp (pe_tup (hs W tk)) fun σv H Q ⟨B, F, σ, r0, h⟩ => (rd1 r0 h).imp fun vs H1 ⟨F1, s1, ds, r1, e1, v1, h1⟩ => by
    by_cases hl : ds.length ≤ sizeLine
    · rw [if_pos hl] at h1
      refine ⟨by rw [v1.length]; exact hl, fun q hq => ?_⟩
      have n : New F1 H1 F1 (upd H1 q (.tup vs)) := New.tup r1.dom hq
      exact core_new (β := V) r1 h1 n (.tup (.inl (.inl upd_same)) (v1.ext (n.ext r1.dom)))
    · rw [if_neg hl] at h1
      exact h1.elim
theorem sl_lst (hs : SA X es ms) : SL X (.List es pos) (mLst ms) :=
  fun W tk => PE.imp (pe_lst (hs W tk)) fun σv H Q ⟨B, F, σ, r0, h⟩ => (rd1 r0 h).imp fun vs H1 ⟨F1, s1, ds, r1, e1, v1, h1⟩ => by
    by_cases hl : ds.length ≤ sizeLine
    · rw [if_pos hl] at h1
      refine ⟨by rw [v1.length]; exact hl, fun q hq => ?_⟩
      obtain ⟨r2, f2⟩ := Free.laid r1 hq v1
      exact h1 _ _ _ r2 ((New.obj r1.dom hq).ext r1.dom) ⟨q, rfl, f2⟩
    · rw [if_neg hl] at h1
      exact h1.elim
/-- a new list as data -/
theorem se_frz {ml : M (List D)} (hl : SL X e ml) : SE X e (mFrz ml) :=
  fun W tk => PE.imp (hl W tk) fun σv H Q ⟨B, F, σ, r0, h⟩ => (rd1 (P := tL (Cx.par X)) r0 h).imp fun v H1 ⟨F1, s1, xs, r1, e1, ⟨q, ev, f1⟩, h1⟩ => by
    subst ev
    exact h1 _ _ _ (r1.freeze f1) Ext.one f1.dv
/-! calls of built-ins -/
theorem se_cb {id : String} {x : Str} {q : Pos} {r : List V → Hp → VK → Prop} {f : List D → Option D} (hc : CallR X (.builtin id) r) (hf : PC1 (Cx.par X) r f) (hg : Gl X x) (hm : X.mg x = none) (hv : bootBuiltins x = some (.builtin id)) (hs : SA X (e :: es) ms)
    (hn : x ≠ "__name__" := by decide) (hdb : (x == ("__debug__" : Str)) = false := by decide) (he : starEach (e :: es) X.env = (false, eval e X.env) :: starEach es X.env := by rfl) (hpl : (backTo pos (starEach es X.env)).any (·.1) = false := by rfl) :
    SE X (.Call (.Name x q) (e :: es) [] pos) (mFn f ms) :=
  fun W tk => PE.imp (pe_callB hc hg hm hv (hs W tk) hn hdb he hpl) fun σv H Q ⟨B, F, σ, r0, h⟩ => (rd1 r0 h).imp fun vs H1 ⟨F1, s1, ds, r1, e1, v1, h1⟩ => by
    obtain ⟨d, hd, h1⟩ := core_opt h1
    exact hf F1 H1 vs ds d Q r1.dom v1 hd fun v F' H' n dv => core_new (β := V) r1 h1 n dv
theorem se_cty {T : String} {x : Str} {q : Pos} {r : List V → Hp → VK → Prop} {f : List D → Option D} (hc : CallR X (.type T) r) (hf : PC1 (Cx.par X) r f) (hg : Gl X x) (hm : X.mg x = none) (hv : bootBuiltins x = some (.type T)) (hs : SA X (e :: es) ms)
    (hn : x ≠ "__name__" := by decide) (hdb : (x == ("__debug__" : Str)) = false := by decide) (he : starEach (e :: es) X.env = (false, eval e X.env) :: starEach es X.env := by rfl) (hpl : (backTo pos (starEach es X.env)).any (·.1) = false := by rfl) :
    SE X (.Call (.Name x q) (e :: es) [] pos) (mFn f ms) :=
  fun W tk => PE.imp (pe_callTy hc hg hm hv (hs W tk) hn hdb he hpl) fun σv H Q ⟨B, F, σ, r0, h⟩ => (rd1 r0 h).imp fun vs H1 ⟨F1, s1, ds, r1, e1, v1, h1⟩ => by
    obtain ⟨d, hd, h1⟩ := core_opt h1
    exact hf F1 H1 vs ds d Q r1.dom v1 hd fun v F' H' n dv => core_new (β := V) r1 h1 n dv
theorem sl_cty {T : String} {x : Str} {q : Pos} {r : List V → Hp → VK → Prop} {f : List D → Option (List D)} (hc : CallR X (.type T) r) (hf : PCL (Cx.par X) r f) (hg : Gl X x) (hm : X.mg x = none) (hv : bootBuiltins x = some (.type T)) (hs : SA X (e :: es) ms)
    (hn : x ≠ "__name__" := by decide) (hdb : (x == ("__debug__" : Str)) = false := by decide) (he : starEach (e :: es) X.env = (false, eval e X.env) :: starEach es X.env := by rfl) (hpl : (backTo pos (starEach es X.env)).any (·.1) = false := by rfl) :
    SL X (.Call (.Name x q) (e :: es) [] pos) (mFnL f ms) :=
  fun W tk => PE.imp (pe_callTy hc hg hm hv (hs W tk) hn hdb he hpl) fun σv H Q ⟨B, F, σ, r0, h⟩ => (rd1 r0 h).imp fun vs H1 ⟨F1, s1, ds, r1, e1, v1, h1⟩ => by
    obtain ⟨xs, hd, h1⟩ := core_opt h1
    refine hf F1 H1 vs ds xs Q r1.dom v1 hd fun q ws hq dw => ?_
    obtain ⟨r2, f2⟩ := Free.laid r1 hq dw
    exact h1 _ _ _ r2 ((New.obj r1.dom hq).ext r1.dom) ⟨q, rfl, f2⟩
/-! tests -/
theorem st_cmp {op : CmpOp} {r : R2} {f : D → D → Option D} (ho : OpR X (compareOp op) r) (hf : PO2 (Cx.par X) r f) (ha : SE X a ma) (hb : SE X b mb) (hm : behindInMarks op b = false) : ST X (.Compare a [op] [b] pos) (mB (mOp2 f ma mb)) :=
  fun W tk => PT.imp (pt_cmpR ho (ha W tk) (hb W tk) hm) fun σv H Q ⟨B, F, σ, r0, h⟩ => by
    have h' : core (Cx.par X) W tB B F σv H ((ma σ).bind fun x s => (mb s).bind fun y t => (R.opt (f x y) t).bind fun z s => match z with | .bl b => .ok b s | _ => .bad) Q := by
      have eq : (mB (mOp2 f ma mb)) σ = ((ma σ).bind fun x s => (mb s).bind fun y t => (R.opt (f x y) t).bind fun z s => match z with | .bl b => .ok b s | _ => .bad) := by
        unfold mB mOp2
        cases ma σ with
        | ok x s =>
          show R.bind (R.bind (mb s) _) _ = R.bind (mb s) _
          cases mb s <;> rfl
        | err => rfl
        | bad => rfl
      rw [← eq]
      exact h
    refine (rd1 (P := tD (Cx.par X)) r0 h').imp fun x H1 ⟨F1, s1, dx, r1, e1, v1, h1⟩ => (rd1 (P := tD (Cx.par X)) r1 h1).imp fun y H2 ⟨F2, s2, dy, r2, e2, v2, h2⟩ => ?_
    cases hd : f dx dy with
    | none =>
      rw [hd] at h2
      exact h2.elim
    | some d =>
      rw [hd] at h2
      refine hf F2 H2 x y dx dy d _ r2.dom (v1.ext e2) v2 hd fun v F' H' n dv => ?_
      cases d with
      | bl k =>
        cases dv
        exact ⟨k, rfl, h2 k F' H' (r2.new n) (n.ext r2.dom) rfl⟩
      | non => exact h2.elim
      | int i => exact h2.elim
      | str x => exact h2.elim
      | lst xs => exact h2.elim
      | tup xs => exact h2.elim
      | gl x => exact h2.elim
/-- an expression that gives a bool, as a test -/
theorem st_val (ha : SE X e ma) (hc : ∀ t, PE X e t → PT X e (tTest t)) : ST X e (mB ma) :=
  fun W tk => PT.imp (hc _ (ha W tk)) fun σv H Q ⟨B, F, σ, r0, h⟩ => (rd1 (P := tD (Cx.par X)) r0 h).imp fun v H1 ⟨F1, s1, d, r1, e1, v1, h1⟩ => by
    cases d with
    | bl k =>
      cases v1
      exact ⟨k, rfl, h1 k F1 H1 r1 Ext.refl rfl⟩
    | non => exact h1.elim
    | int i => exact h1.elim
    | str x => exact h1.elim
    | lst xs => exact h1.elim
    | tup xs => exact h1.elim
    | gl x => exact h1.elim
end
end DL
end

section
set_option Elab.async false
set_option linter.all false
set_option maxRecDepth 100000
set_option maxHeartbeats 1000000
set_option autoImplicit false
/-! DL4: tests, and, or, slices; what the library's operations tell of data. -/
namespace DL
open PySem L2
def SW (X : Cx) (e : Expr) (m : M Bool) : Prop := ∀ W, Takes X W → PW X e (rdT (Cx.par X) W m)
theorem PW.imp {X : Cx} {e : Expr} {t t' : TT} (h : PW X e t) (i : ∀ σ H Q, t' σ H Q → t σ H Q) : PW X e t' := ⟨fun w pins s σ H Q I q => h.run w pins s σ H Q I (i σ H Q q)⟩
section
variable {X : Cx} {e a b c : Expr} {es rest : List Expr} {ma mb mc : M D} {ta tb : M Bool} {ms : M (List D)} {pos : Pos} {B : Ent} {F : Addr → Prop} {σ : DSt} {σv : L2.St} {H : Hp} {p : Par} {W : WX}
theorem SW.st {m : M Bool} (h : SW X e m) : ST X e m := fun W tk => (h W tk).pt
theorem st_bool (ha : SE X e ma) (he : ∀ whole, isTrue e X.env whole = (do let v ← whole; standAt e.pos; holding [v] (truthy v)) := by intro _; rfl) : ST X e (mB ma) := st_val ha fun t h => pt_val h he
theorem st_tru (ha : SE X e ma) (he : ∀ whole, isTrue e X.env whole = (do let v ← whole; standAt e.pos; holding [v] (truthy v)) := by intro _; rfl) : ST X e (mTru ma) :=
  fun W tk => PT.imp (pt_truth (ha W tk) he) fun σv H Q ⟨B, F, σ, r0, h⟩ => (rd1 (P := tD (Cx.par X)) r0 h).imp fun v H1 ⟨F1, s1, d, r1, e1, v1, h1⟩ => by
    obtain ⟨k, hk, h1⟩ := core_opt h1
    refine ⟨k, ?_, h1 k F1 H1 r1 Ext.refl rfl⟩
    cases v1 with
    | non => exact (Option.some.inj hk).symm
    | bl b => exact (Option.some.inj hk).symm
    | int i => exact (Option.some.inj hk).symm
    | str x =>
      have hk : (if x.length ≤ sizeLine then some ((x.length : Int) != 0) else none) = some k := hk
      by_cases hx : x.length ≤ sizeLine
      · rw [if_pos hx] at hk
        exact ⟨hx, (Option.some.inj hk).symm⟩
      · rw [if_neg hx] at hk
        cases hk
    | gl hg => cases hk
    | @lst a vs ds g1 g2 =>
      refine .inl ⟨vs, g1.sq, ?_⟩
      have e1 := Option.some.inj hk
      rw [← e1]
      cases g2 <;> rfl
    | @tup a vs ds g1 g2 =>
      refine .inr (.inl ⟨vs, g1, ?_⟩)
      have e1 := Option.some.inj hk
      rw [← e1]
      cases g2 <;> rfl
theorem st_not (ha : ST X a ta) : ST X (.UnaryOp .Not a pos) (mNot ta) :=
  fun W tk => PT.imp (pt_not (ha W tk)) fun σv H Q ⟨B, F, σ, r0, h⟩ => (rd1 (P := tB) r0 h).imp fun b H1 ⟨F1, s1, d, r1, e1, v1, h1⟩ => by
    have v1 : b = d := v1
    subst v1
    exact h1 (!b) F1 H1 r1 Ext.refl rfl
theorem sw_and1 (ha : ST X a ta) : SW X (.BoolOp .And [a] pos) ta := fun W tk => pw_and1 (ha W tk)
theorem sw_or1 (ha : ST X a ta) : SW X (.BoolOp .Or [a] pos) ta := fun W tk => pw_or1 (ha W tk)
theorem sw_and (ha : ST X a ta) (hb : SW X (.BoolOp .And (b :: rest) pos) tb) : SW X (.BoolOp .And (a :: b :: rest) pos) (mAnd ta tb) :=
  fun W tk => PW.imp (pw_and (ha W tk) (hb W tk)) fun σv H Q ⟨B, F, σ, r0, h⟩ => (rd1 (P := tB) r0 h).imp fun k H1 ⟨F1, s1, d, r1, e1, v1, h1⟩ => by
    have v1 : k = d := v1
    subst v1
    cases k with
    | true =>
      rw [if_pos rfl]
      exact ⟨B, F1, s1, r1, h1⟩
    | false =>
      rw [if_neg Bool.false_ne_true]
      exact h1 false F1 H1 r1 Ext.refl rfl
theorem sw_or (ha : ST X a ta) (hb : SW X (.BoolOp .Or (b :: rest) pos) tb) : SW X (.BoolOp .Or (a :: b :: rest) pos) (mOr ta tb) :=
  fun W tk => PW.imp (pw_or (ha W tk) (hb W tk)) fun σv H Q ⟨B, F, σ, r0, h⟩ => (rd1 (P := tB) r0 h).imp fun k H1 ⟨F1, s1, d, r1, e1, v1, h1⟩ => by
    have v1 : k = d := v1
    subst v1
    cases k with
    | false =>
      rw [if_neg Bool.false_ne_true]
      exact ⟨B, F1, s1, r1, h1⟩
    | true =>
      rw [if_pos rfl]
      exact h1 true F1 H1 r1 Ext.refl rfl
theorem se_one {op : BoolOp} (ha : SE X a ma) : SE X (.BoolOp op [a] pos) ma := fun W tk => pe_one (ha W tk)
theorem se_and (ha : SE X a ma) (hb : SE X (.BoolOp .And (b :: rest) pos) mb) : SE X (.BoolOp .And (a :: b :: rest) pos) (mAndV ma mb) :=
  fun W tk => PE.imp (pe_and (ha W tk) (hb W tk)) fun σv H Q ⟨B, F, σ, r0, h⟩ => (rd1 (P := tD (Cx.par X)) r0 h).imp fun v H1 ⟨F1, s1, d, r1, e1, v1, h1⟩ => by
    cases d with
    | bl k =>
      cases v1
      refine ⟨k, rfl, ?_⟩
      cases k with
      | true =>
        rw [if_pos rfl]
        exact ⟨B, F1, s1, r1, h1⟩
      | false =>
        rw [if_neg Bool.false_ne_true]
        exact h1 _ F1 H1 r1 Ext.refl (.bl false)
    | non => exact h1.elim
    | int i => exact h1.elim
    | str x => exact h1.elim
    | lst xs => exact h1.elim
    | tup xs => exact h1.elim
    | gl x => exact h1.elim
theorem se_or (ha : SE X a ma) (hb : SE X (.BoolOp .Or (b :: rest) pos) mb) : SE X (.BoolOp .Or (a :: b :: rest) pos) (mOrV ma mb) :=
  fun W tk => PE.imp (pe_or (ha W tk) (hb W tk)) fun σv H Q ⟨B, F, σ, r0, h⟩ => (rd1 (P := tD (Cx.par X)) r0 h).imp fun v H1 ⟨F1, s1, d, r1, e1, v1, h1⟩ => by
    cases d with
    | bl k =>
      cases v1
      refine ⟨k, rfl, ?_⟩
      cases k with
      | false =>
        rw [if_neg Bool.false_ne_true]
        exact ⟨B, F1, s1, r1, h1⟩
      | true =>
        rw [if_pos rfl]
        exact h1 _ F1 H1 r1 Ext.refl (.bl true)
    | non => exact h1.elim
    | int i => exact h1.elim
    | str x => exact h1.elim
    | lst xs => exact h1.elim
    | tup xs => exact h1.elim
    | gl x => exact h1.elim
theorem se_not (ha : SE X a ma) : SE X (.UnaryOp .Not a pos) (mNotV ma) :=
  fun W tk => PE.imp (pe_not (ha W tk)) fun σv H Q ⟨B, F, σ, r0, h⟩ => (rd1 (P := tD (Cx.par X)) r0 h).imp fun v H1 ⟨F1, s1, d, r1, e1, v1, h1⟩ => by
    cases d with
    | bl k =>
      cases v1
      exact ⟨k, rfl, h1 _ F1 H1 r1 Ext.refl (.bl _)⟩
    | non => exact h1.elim
    | int i => exact h1.elim
    | str x => exact h1.elim
    | lst xs => exact h1.elim
    | tup xs => exact h1.elim
    | gl x => exact h1.elim
theorem se_if {tc : M Bool} (hc : ST X c tc) (ha : SE X a ma) (hb : SE X b mb) : SE X (.IfExp c a b pos) (mIf tc ma mb) :=
  fun W tk => PE.imp (pe_ifExp (hc W tk) (ha W tk) (hb W tk)) fun σv H Q ⟨B, F, σ, r0, h⟩ => (rd1 (P := tB) r0 h).imp fun k H1 ⟨F1, s1, d, r1, e1, v1, h1⟩ => by
    have v1 : k = d := v1
    subst v1
    cases k with
    | false =>
      rw [if_neg Bool.false_ne_true]
      exact ⟨B, F1, s1, r1, h1⟩
    | true =>
      rw [if_pos rfl]
      exact ⟨B, F1, s1, r1, h1⟩
/-! slices -/
def SO' (X : Cx) (e : Option Expr) (m : M (Option Int)) : Prop := ∀ W, Takes X W → PO X e (rdO (Cx.par X) W m)
theorem PO.imp {e : Option Expr} {t t' : TO} (h : PO X e t) (i : ∀ σ H Q, t' σ H Q → t σ H Q) : PO X e t' := ⟨fun pins s σ H Q I q => h.run pins s σ H Q I (i σ H Q q)⟩
theorem so_none : SO' X none mNo := fun W _ => PO.imp po_none fun σv H Q ⟨B, F, σ, r0, h⟩ => h none F H r0 Ext.refl rfl
theorem so_some (ha : SE X e ma) : SO' X (some e) (mSome ma) := fun W tk => PO.imp (po_some (ha W tk)) fun σv H Q ⟨B, F, σ, r0, h⟩ => (rd1 (P := tD (Cx.par X)) r0 h).imp fun v H1 ⟨F1, s1, d, r1, e1, v1, h1⟩ => by
  cases d with
  | int i =>
    cases v1
    exact ⟨i, rfl, h1 _ F1 H1 r1 Ext.refl rfl⟩
  | non => exact h1.elim
  | bl i => exact h1.elim
  | str x => exact h1.elim
  | lst xs => exact h1.elim
  | tup xs => exact h1.elim
  | gl x => exact h1.elim
theorem cutV_cut {F : Addr → Prop} {vs : List V} {ds : List D} (h : DVs p F H vs ds) (lo hi : Option Int) : DVs p F H (cutV vs lo hi) (cut ds lo hi) := by
  unfold cutV cut
  rw [h.length]
  exact (h.drop _).take _
theorem se_slT {lo hi : Option Expr} {ml mh : M (Option Int)} {p2 : Pos} (ha : SE X e ma) (hl : SO' X lo ml) (hh : SO' X hi mh) : SE X (.Subscript e (.Slice lo hi none p2) pos) (mSlT ma ml mh) :=
  fun W tk => PE.imp (pe_slice sl_tupA (ha W tk) (hl W tk) (hh W tk)) fun σv H Q ⟨B, F, σ, r0, h⟩ => (rd1 (P := tD (Cx.par X)) r0 h).imp fun v H1 ⟨F1, s1, d, r1, e1, v1, h1⟩ => (rd1 (P := tO) r1 h1).imp fun l H2 ⟨F2, s2, l', r2, e2, v2, h2⟩ =>
    (rd1 (P := tO) r2 h2).imp fun u H3 ⟨F3, s3, u', r3, e3, v3, h3⟩ => by
    have v2 : l = l' := v2
    have v3 : u = u' := v3
    subst v2 v3
    cases d with
    | tup xs =>
      cases (v1.ext e2).ext e3 with
      | @tup a vs _ g1 g2 =>
        refine ⟨a, vs, rfl, g1, fun hw => ?_, fun _ q hq => ?_⟩
        · have ec : cut xs l u = xs := by
            unfold cut
            rw [← g2.length, hw.1, hw.2, List.drop_zero, Nat.sub_zero, g2.length, List.take_length]
          refine core_ok (P := tD (Cx.par X)) r3 h3 ?_
          rw [ec]
          exact .tup g1 g2
        · have n : New F3 H3 F3 (upd H3 q (.tup (cutV vs l u))) := New.tup r3.dom hq
          exact core_new (β := V) r3 h3 n (.tup (.inl (.inl upd_same)) ((cutV_cut g2 l u).ext (n.ext r3.dom)))
    | non => exact h3.elim
    | bl i => exact h3.elim
    | int i => exact h3.elim
    | str x => exact h3.elim
    | lst xs => exact h3.elim
    | gl x => exact h3.elim
theorem sl_slL {lo hi : Option Expr} {ml mh : M (Option Int)} {p2 : Pos} (ha : SE X e ma) (hl : SO' X lo ml) (hh : SO' X hi mh) : SL X (.Subscript e (.Slice lo hi none p2) pos) (mSlL ma ml mh) :=
  fun W tk => PE.imp (pe_slice sl_list (ha W tk) (hl W tk) (hh W tk)) fun σv H Q ⟨B, F, σ, r0, h⟩ => (rd1 (P := tD (Cx.par X)) r0 h).imp fun v H1 ⟨F1, s1, d, r1, e1, v1, h1⟩ => (rd1 (P := tO) r1 h1).imp fun l H2 ⟨F2, s2, l', r2, e2, v2, h2⟩ =>
    (rd1 (P := tO) r2 h2).imp fun u H3 ⟨F3, s3, u', r3, e3, v3, h3⟩ => by
    have v2 : l = l' := v2
    have v3 : u = u' := v3
    subst v2 v3
    cases d with
    | lst xs =>
      cases (v1.ext e2).ext e3 with
      | @lst a vs _ g1 g2 =>
        refine ⟨a, vs, rfl, g1.sq, fun q hq => ?_⟩
        obtain ⟨r4, f4⟩ := Free.laid r3 hq (cutV_cut g2 l u)
        exact h3 _ _ _ r4 ((New.obj r3.dom hq).ext r3.dom) ⟨q, rfl, f4⟩
    | non => exact h3.elim
    | bl i => exact h3.elim
    | int i => exact h3.elim
    | str x => exact h3.elim
    | tup xs => exact h3.elim
    | gl x => exact h3.elim
end
/-! ### the library's operations on data -/
section
variable {p : Par}
theorem po_same {F : Addr → Prop} {H : Hp} {v : V} {d : D} {Q : VK} (hd : Dom F H) (k : ∀ v F' H', New F H F' H' → DV p F' H' v d → Q v H') (h : DV p F H v d) : Q v H := k v F H (New.refl hd) h
theorem po_add : PO2 p (fun x y H Q => rI0 (fun i j => .int (i + j)) x y H Q ∨ rCatA p.K x y H Q ∨ ∃ i j, x = .str i ∧ y = .str j ∧ i.length + j.length ≤ sizeLine ∧ Q (.str (i ++ j)) H) addD := by
  intro F H x y dx dy d Q hd hx hy hf k
  unfold addD at hf
  split at hf
  · cases hx
    cases hy
    cases hf
    exact .inl ⟨_, _, rfl, rfl, po_same hd k (.int _)⟩
  · split at hf
    · rename_i hl
      cases hf
      cases hx with
      | @tup a vs _ g1 g2 =>
        cases hy with
        | @tup b ws _ g3 g4 =>
          refine .inr (.inl ⟨a, b, vs, ws, rfl, rfl, g1, g3, by rw [g2.length, g4.length]; exact hl, fun e => ?_, fun e e2 => ?_, fun _ _ q hq => ?_⟩)
          · subst e
            cases g2
            exact po_same hd k (.tup g3 g4)
          · subst e2
            cases g4
            rw [List.append_nil] at k
            exact po_same hd k (.tup g1 g2)
          · have n : New F H F (upd H q (.tup (vs ++ ws))) := New.tup hd hq
            exact k _ F _ n (.tup (.inl (.inl upd_same)) ((g2.append g4).ext (n.ext hd)))
    · cases hf
  · split at hf
    · rename_i hl
      cases hf
      cases hx
      cases hy
      exact .inr (.inr ⟨_, _, rfl, rfl, hl, po_same hd k (.str _)⟩)
    · cases hf
  · cases hf
theorem po_sub : PO2 p (rI0 fun i j => .int (i - j)) subD := by
  intro F H x y dx dy d Q hd hx hy hf k
  unfold subD at hf
  split at hf
  · cases hx
    cases hy
    cases hf
    exact ⟨_, _, rfl, rfl, po_same hd k (.int _)⟩
  · cases hf
theorem po_mul : PO2 p (rI CMul fun i j => .int (i * j)) mulD := by
  intro F H x y dx dy d Q hd hx hy hf k
  unfold mulD at hf
  split at hf
  · split at hf
    · cases hx
      cases hy
      cases hf
      exact ⟨_, _, rfl, rfl, by assumption, po_same hd k (.int _)⟩
    · cases hf
  · cases hf
theorem po_mod : PO2 p (rI (fun _ j => 0 < j) fun i j => .int (i % j)) modD := by
  intro F H x y dx dy d Q hd hx hy hf k
  unfold modD at hf
  split at hf
  · split at hf
    · cases hx
      cases hy
      cases hf
      exact ⟨_, _, rfl, rfl, by assumption, po_same hd k (.int _)⟩
    · cases hf
  · cases hf
theorem po_div : PO2 p (rI CDiv fun i j => .int (i / j)) divD := by
  intro F H x y dx dy d Q hd hx hy hf k
  unfold divD at hf
  split at hf
  · split at hf
    · cases hx
      cases hy
      cases hf
      exact ⟨_, _, rfl, rfl, by assumption, po_same hd k (.int _)⟩
    · cases hf
  · cases hf
theorem po_pow : PO2 p (rI CPow fun i j => .int (i ^ j.toNat)) powD := by
  intro F H x y dx dy d Q hd hx hy hf k
  unfold powD at hf
  split at hf
  · split at hf
    · cases hx
      cases hy
      cases hf
      exact ⟨_, _, rfl, rfl, by assumption, po_same hd k (.int _)⟩
    · cases hf
  · cases hf
theorem po_neg : PO1 p (rU fun i => .int (-i)) negD := by
  intro F H x dx d Q hd hx hf k
  unfold negD at hf
  split at hf
  · cases hx
    cases hf
    exact ⟨_, rfl, po_same hd k (.int _)⟩
  · cases hf
theorem po_lt : PO2 p (rI0 fun i j => .bl (decide (i < j))) ltD := by
  intro F H x y dx dy d Q hd hx hy hf k
  unfold ltD at hf
  split at hf
  · cases hx
    cases hy
    cases hf
    exact ⟨_, _, rfl, rfl, po_same hd k (.bl _)⟩
  · cases hf
theorem po_le : PO2 p (rI0 fun i j => .bl (decide (i ≤ j))) leD := by
  intro F H x y dx dy d Q hd hx hy hf k
  unfold leD at hf
  split at hf
  · cases hx
    cases hy
    cases hf
    exact ⟨_, _, rfl, rfl, po_same hd k (.bl _)⟩
  · cases hf
theorem po_gt : PO2 p (rI0 fun i j => .bl (decide (j < i))) gtD := by
  intro F H x y dx dy d Q hd hx hy hf k
  unfold gtD at hf
  split at hf
  · cases hx
    cases hy
    cases hf
    exact ⟨_, _, rfl, rfl, po_same hd k (.bl _)⟩
  · cases hf
theorem po_ge : PO2 p (rI0 fun i j => .bl (decide (j ≤ i))) geD := by
  intro F H x y dx dy d Q hd hx hy hf k
  unfold geD at hf
  split at hf
  · cases hx
    cases hy
    cases hf
    exact ⟨_, _, rfl, rfl, po_same hd k (.bl _)⟩
  · cases hf
theorem eqOk_of {d : D} (h : eqOk d = true) : plain d = true ∧ SeqAt.shaped (toP d) = true := Bool.and_eq_true_iff.mp h
theorem po_eq : PO2 p (rEqD p.K) eqD := by
  intro F H x y dx dy d Q hd hx hy hf k
  unfold eqD at hf
  split at hf
  · rename_i h
    cases hf
    obtain ⟨h1, h2⟩ := Bool.and_eq_true_iff.mp h
    obtain ⟨a1, a2⟩ := eqOk_of h1
    obtain ⟨b1, b2⟩ := eqOk_of h2
    exact ⟨_, _, hx.dp a1, hy.dp b1, a2, b2, po_same hd k (.bl _)⟩
  · cases hf
theorem po_ne : PO2 p (rNeD p.K) neD := by
  intro F H x y dx dy d Q hd hx hy hf k
  unfold neD at hf
  split at hf
  · rename_i h
    cases hf
    obtain ⟨h1, h2⟩ := Bool.and_eq_true_iff.mp h
    obtain ⟨a1, a2⟩ := eqOk_of h1
    obtain ⟨b1, b2⟩ := eqOk_of h2
    exact ⟨_, _, hx.dp a1, hy.dp b1, a2, b2, po_same hd k (.bl _)⟩
  · cases hf
theorem po_in : PO2 p (rInD p.K) inD := by
  intro F H x y dx dy d Q hd hx hy hf k
  unfold inD at hf
  split at hf
  · split at hf
    · rename_i h
      cases hf
      obtain ⟨h1, h2⟩ := Bool.and_eq_true_iff.mp h
      obtain ⟨a1, a2⟩ := eqOk_of h1
      obtain ⟨b1, b2⟩ := eqOk_of h2
      have hl := hy.dp b1
      unfold toP at hl b2
      exact ⟨_, _, hx.dp a1, hl, a2, b2, po_same hd k (.bl _)⟩
    · cases hf
  · cases hf
theorem po_notIn : PO2 p (rNotInD p.K) notInD := by
  intro F H x y dx dy d Q hd hx hy hf k
  unfold notInD at hf
  split at hf
  · split at hf
    · rename_i h
      cases hf
      obtain ⟨h1, h2⟩ := Bool.and_eq_true_iff.mp h
      obtain ⟨a1, a2⟩ := eqOk_of h1
      obtain ⟨b1, b2⟩ := eqOk_of h2
      have hl := hy.dp b1
      unfold toP at hl b2
      exact ⟨_, _, hx.dp a1, hl, a2, b2, po_same hd k (.bl _)⟩
    · cases hf
  · cases hf
theorem isNon_v {F : Addr → Prop} {H : Hp} {v : V} {d : D} (h : DV p F H v d) : decide (v = .non) = isNon d := by
  cases h <;> rfl
theorem po_is : PO2 p (fun x y H Q => y = .non ∧ Q (.bl (decide (x = .non))) H) isD := by
  intro F H x y dx dy d Q hd hx hy hf k
  unfold isD at hf
  split at hf
  · cases hy
    cases hf
    exact ⟨rfl, by rw [isNon_v hx]; exact po_same hd k (.bl _)⟩
  · cases hf
theorem po_isNot : PO2 p (fun x y H Q => y = .non ∧ Q (.bl (!decide (x = .non))) H) isNotD := by
  intro F H x y dx dy d Q hd hx hy hf k
  unfold isNotD at hf
  split at hf
  · cases hy
    cases hf
    exact ⟨rfl, by rw [isNon_v hx]; exact po_same hd k (.bl _)⟩
  · cases hf
theorem atI_get {F : Addr → Prop} {H : Hp} {vs : List V} {ds : List D} {i : Int} {d : D} (h : DVs p F H vs ds) (e : atI ds i = some d) : ∃ v, atI vs i = some v ∧ DV p F H v d := by
  unfold atI at e ⊢
  rw [h.length]
  cases q : ixN ds.length i with
  | none =>
    rw [q] at e
    cases e
  | some j =>
    rw [q] at e
    exact h.get e
theorem po_ix : PO2 p (rIx p.K) ixD := by
  intro F H x y dx dy d Q hd hx hy hf k
  unfold ixD at hf
  split at hf
  · cases hx with
    | @lst a vs ds g1 g2 =>
      cases hy
      obtain ⟨v, e, hv⟩ := atI_get g2 hf
      exact .inl ⟨a, vs, _, v, rfl, rfl, g1.sq, e, po_same hd k hv⟩
  · cases hx with
    | @tup a vs ds g1 g2 =>
      cases hy
      obtain ⟨v, e, hv⟩ := atI_get g2 hf
      exact .inr (.inl ⟨a, vs, _, v, rfl, rfl, g1, e, po_same hd k hv⟩)
  · cases hf
end
end DL
end

section
set_option Elab.async false
set_option linter.all false
set_option maxRecDepth 100000
set_option maxHeartbeats 1000000
set_option autoImplicit false
/-! DL5: statements. -/
namespace DL
open PySem L2
/-! ### a list in hand while more is evaluated -/
section
variable {p : Par} {B : Ent} {F F' : Addr → Prop} {σv : L2.St} {H H' : Hp} {σ σ' : DSt} {q : Addr} {xs : List D}
def Ent.hold (B : Ent) (q : Addr) (o : HO) : Ent := ⟨B.F, fun a => if a = q then some o else B.H a, B.w⟩
theorem hold_none {o : HO} {a : Addr} (h : (B.hold q o).H a = none) : B.H a = none ∧ a ≠ q := by
  unfold Ent.hold at h
  by_cases e : a = q
  · simp only [e, if_true] at h
    cases h
  · simp only [e, if_false] at h
    exact ⟨h, e⟩
theorem Rel.hold (r : Rel p B F σv H σ) (f : Free p B F σv H σ q xs) : ∃ vs, H q = some (.lst vs) ∧ DVs p F H vs xs ∧ Rel p (B.hold q (.lst vs)) F σv H σ := by
  obtain ⟨vs, e, dv⟩ := f.at_
  refine ⟨vs, e, dv, r.len, r.dom, r.f0, fun a h => ?_, fun a o h hw => ?_, fun a h => ?_, r.wl, fun i s h => ?_, r.sep⟩
  · rcases r.nw a h with h1 | h1
    · exact .inl h1
    · refine .inr ?_
      unfold Ent.hold
      by_cases z : a = q
      · exact absurd h (by rw [z]; exact f.nf)
      · simp only [z, if_false]
        exact h1
  · unfold Ent.hold at h
    by_cases z : a = q
    · simp only [z, if_true] at h
      cases h
      rw [z]
      exact e
    · simp only [z, if_false] at h
      exact r.keep a o h hw
  · obtain ⟨ys, e2⟩ := r.bw a h
    unfold Ent.hold
    by_cases z : a = q
    · rw [z, f.nb] at e2
      cases e2
    · simp only [z, if_false]
      exact ⟨ys, e2⟩
  · obtain ⟨o, eo, k⟩ := r.sl i s h
    refine ⟨o, eo, ?_⟩
    cases s with
    | no => trivial
    | val d => exact k
    | own b ys =>
      obtain ⟨a, ws, h1, h2, h3, h4, h5⟩ := k
      refine ⟨a, ws, h1, h2, h3, h4, ?_⟩
      cases b with
      | true => exact h5
      | false =>
        have h5 : B.H a = none := h5
        show (if a = q then _ else B.H a) = none
        rw [if_neg (fun z => f.ns i false ys h (by rw [eo, h1, z]))]
        exact h5
theorem Rel.unhold {vs : List V} (r : Rel p (B.hold q (.lst vs)) F' σv H' σ') (nb : B.H q = none) (nF : ¬ B.F q) (hw : B.w ≠ some q) : Rel p B F' σv H' σ' ∧ H' q = some (.lst vs) ∧ ¬ F' q ∧ ∀ (i : Nat) (b : Bool) (ys : List D), σ'[i]? = some (Sl.own b ys) → σv[i]? ≠ some (some (.ref q)) := by
  have hq : H' q = some (.lst vs) := r.keep q _ (by unfold Ent.hold; simp) hw
  refine ⟨⟨r.len, r.dom, r.f0, fun a h => ?_, fun a o h hw' => ?_, fun a h => ?_, r.wl, fun i s h => ?_, r.sep⟩, hq, fun z => ?_, fun i b ys h z => ?_⟩
  · rcases r.nw a h with h1 | h1
    · exact .inl h1
    · exact .inr (hold_none h1).1
  · refine r.keep a o ?_ hw'
    unfold Ent.hold
    by_cases z : a = q
    · rw [z, nb] at h
      cases h
    · simp only [z, if_false]
      exact h
  · obtain ⟨ys, e2⟩ := r.bw a h
    unfold Ent.hold at e2
    by_cases z : a = q
    · exact absurd h (by rw [z]; exact hw)
    · simp only [z, if_false] at e2
      exact ⟨ys, e2⟩
  · obtain ⟨o, eo, k⟩ := r.sl i s h
    refine ⟨o, eo, ?_⟩
    cases s with
    | no => trivial
    | val d => exact k
    | own b ys =>
      obtain ⟨a, ws, h1, h2, h3, h4, h5⟩ := k
      refine ⟨a, ws, h1, h2, h3, h4, ?_⟩
      cases b with
      | true => exact h5
      | false =>
        have h5 : (B.hold q (.lst vs)).H a = none := h5
        exact (hold_none h5).1
  · rcases r.nw q z with h1 | h1
    · exact nF h1
    · exact (hold_none h1).2 rfl
  · obtain ⟨a, ws, h1, h2, h3, h4, h5⟩ := r.lst h
    rw [h1] at z
    injection z with z
    injection z with z
    injection z with z
    subst z
    cases b with
    | true => exact hw h5
    | false =>
      have h5 : (B.hold a (.lst vs)).H a = none := h5
      exact (hold_none h5).2 rfl
end
/-! ### meanings of statements -/
abbrev G := D → DSt → Option DSt
abbrev Gs := List D → DSt → Option DSt
def gNm (i : Nat) : G := fun d σ => some (σ.set i (.val d))
def gNo : Gs := fun ds σ => if ds.isEmpty then some σ else none
def gCo (g : G) (gs : Gs) : Gs := fun ds σ => match ds with
  | d :: r => (g d σ).bind fun s => gs r s
  | [] => none
def gTu (n : Nat) (gs : Gs) : G := fun d σ => match items? d with
  | some ds => if ds.length = n then gs ds σ else none
  | none => none
def mSet (ma : M D) (g : G) : MS := fun σ => (ma σ).run fun d s => match g d s with
  | some s' => .nx s'
  | none => .bad
def mOwn (i : Nat) (ml : M (List D)) : MS := fun σ => (ml σ).run fun xs s => .nx (s.set i (Sl.own false xs))
def mSeq (a b : MS) : MS := fun σ => (a σ).seq b
def mNx : MS := fun σ => .nx σ
def mBrk : MS := fun σ => .brk σ
def mCont : MS := fun σ => .cont σ
def mRet (ma : M D) : MS := fun σ => (ma σ).run fun d s => .ret (.v d) s
def mRetL (ml : M (List D)) : MS := fun σ => (ml σ).run fun xs s => .ret (.l xs) s
def mDrop (ma : M D) : MS := fun σ => (ma σ).run fun _ s => .nx s
def mIfS (c : M Bool) (a b : MS) : MS := fun σ => (c σ).run fun k s => if k = true then a s else b s
/-- xs.append(e) of the slot's own list -/
def mApp (i : Nat) (ma : M D) : MS := fun σ => (ma σ).run fun d s => match s[i]? with
  | some (Sl.own b xs) => if xs.length < sizeLine then .nx (s.set i (Sl.own b (xs ++ [d]))) else .bad
  | _ => .bad
/-- xs.pop() of it, the value dropped -/
def mPop (i : Nat) : M D := fun s => match s[i]? with
  | some (Sl.own b xs) => match xs.getLast? with
    | some d => .ok d (s.set i (Sl.own b xs.dropLast))
    | none => .bad
  | _ => .bad
/-- xs[j] = e -/
def putAt (i : Nat) (d k : D) (t : DSt) : SO := match k with
  | .int k => match t[i]? with
    | some (Sl.own b xs) => match ixN xs.length k with
      | some j => .nx (t.set i (Sl.own b (xs.set j d)))
      | none => .bad
    | _ => .bad
  | _ => .bad
def isOwn (i : Nat) (σ : DSt) : Bool := match σ[i]? with
  | some (Sl.own _ _) => true
  | _ => false
def mPut (i : Nat) (ma mj : M D) : MS := fun σ => (ma σ).run fun d s => if isOwn i s = true then (mj s).run fun k t => putAt i d k t else .bad
/-- len, an item, of the slot's own list -/
def mLenO (i : Nat) : M D := fun s => match s[i]? with
  | some (Sl.own _ xs) => .ok (.int xs.length) s
  | _ => .bad
def ixAt (i : Nat) (k : D) (t : DSt) : R D := match k with
  | .int k => match t[i]? with
    | some (Sl.own _ xs) => R.opt (atI xs k) t
    | _ => .bad
  | _ => .bad
def mIxO (i : Nat) (mj : M D) : M D := fun s => if isOwn i s = true then (mj s).bind fun k t => ixAt i k t else .bad
/-- a whole, of items each a value or a new list -/
def mItems : Type := M (List Sl)
def mMn : M (List Sl) := fun σ => .ok [] σ
def mMv (ma : M D) (ms : M (List Sl)) : M (List Sl) := fun σ => (ma σ).bind fun x s => (ms s).bind fun xs t => .ok (Sl.val x :: xs) t
def mMl (ma : M (List D)) (ms : M (List Sl)) : M (List Sl) := fun σ => (ma σ).bind fun x s => (ms s).bind fun xs t => .ok (Sl.own false x :: xs) t
def mPar2 (i j : Nat) (ms : M (List Sl)) : MS := fun σ => (ms σ).run fun l s => match l with
  | [a, b] => .nx ((s.set i a).set j b)
  | _ => .bad
def mPar3 (i j k : Nat) (ms : M (List Sl)) : MS := fun σ => (ms σ).run fun l s => match l with
  | [a, b, c] => .nx (((s.set i a).set j b).set k c)
  | _ => .bad
def forM' (g : G) (body : MS) : List D → DSt → SO
  | [], σ => .nx σ
  | d :: ds, σ => match g d σ with
    | none => .bad
    | some s => match body s with
      | .nx t => forM' g body ds t
      | .cont t => forM' g body ds t
      | .brk t => .nx t
      | .ret r t => .ret r t
      | .err c fs t => .err c fs t
      | .bad => .bad
def mFor (mi : M (List D)) (g : G) (body : MS) : MS := fun σ => (mi σ).run fun ds s => forM' g body ds s

/-! ### targets -/
def rdG (p : Par) (g : G) : TG := fun v σv H Q => ∃ B F σ d σ', Rel p B F σv H σ ∧ DV p F H v d ∧ g d σ = some σ' ∧ ∀ σv', Rel p B F σv' H σ' → Q σv' H
def rdGs (p : Par) (g : Gs) : TGs := fun vs σv H Q => ∃ B F σ ds σ', Rel p B F σv H σ ∧ DVs p F H vs ds ∧ g ds σ = some σ' ∧ ∀ σv', Rel p B F σv' H σ' → Q σv' H
def SG (X : Cx) (tg : Expr) (g : G) : Prop := PG X tg (rdG (Cx.par X) g)
def SGs (X : Cx) (ts : List Expr) (g : Gs) : Prop := PGs X ts (rdGs (Cx.par X) g)
section
variable {X : Cx} {pos : Pos}
theorem PG.imp {tg : Expr} {t t' : TG} (h : PG X tg t) (i : ∀ v σ H Q, t' v σ H Q → t v σ H Q) : PG X tg t' := ⟨fun pins s σ H v u Q I r q => h.run pins s σ H v u Q I r (i v σ H Q q)⟩
theorem PGs.imp {tg : List Expr} {t t' : TGs} (h : PGs X tg t) (i : ∀ v σ H Q, t' v σ H Q → t v σ H Q) : PGs X tg t' := ⟨fun pins s σ H v u Q I r q => h.run pins s σ H v u Q I r (i v σ H Q q)⟩
theorem sg_nm {i : Nat} {x : Str} (hN : X.N.Nodup) (hi : X.N[i]? = some x) (hx : Loc X.env.scope x) (hf : X.fn x = true ∨ X.env.scope.names.lookup x = some .local := by first | exact .inl rfl | exact .inr rfl | assumption) : SG X (.Name x pos) (gNm i) :=
  PG.imp (pg_name hN hi hx hf) fun v σv H Q ⟨B, F, σ, d, σ', r, dv, e, k⟩ => by
    have e := Option.some.inj e
    subst e
    exact k _ (r.set dv)
theorem sgs_no : SGs X [] gNo := PGs.imp pgs_nil fun vs σv H Q ⟨B, F, σ, ds, σ', r, dv, e, k⟩ => by
  cases dv with
  | nil =>
    have e := Option.some.inj e
    subst e
    exact ⟨rfl, k _ r⟩
  | cons _ _ => cases e
theorem sgs_co {e : Expr} {es : List Expr} {g : G} {gs : Gs} (h1 : SG X e g) (h2 : SGs X es gs) (hs : (assignEach (e :: es) X.env).map (·.2) = assign e X.env :: (assignEach es X.env).map (·.2) := by rfl) : SGs X (e :: es) (gCo g gs) :=
  PGs.imp (pgs_cons h1 h2 hs) fun vs σv H Q ⟨B, F, σ, ds, σ', r, dv, e, k⟩ => by
    cases dv with
    | nil => cases e
    | @cons v vr d dr a b =>
      have e : (g d σ).bind (fun s => gs dr s) = some σ' := e
      cases e1 : g d σ with
      | none =>
        rw [e1] at e
        cases e
      | some s =>
        rw [e1] at e
        exact ⟨v, vr, rfl, B, F, σ, d, s, r, a, e1, fun σv1 r1 => ⟨B, F, s, dr, σ', r1, b, e, k⟩⟩
theorem sg_tu {es : List Expr} {kx : Nat} {gs : Gs} {n : Nat} (hc : X.calm = true) (h : SGs X es gs) (hn : (assignEach es X.env).length = n := by rfl) (hst : (assignEach es X.env).findIdx? (·.1) = none := by rfl) : SG X (.Tuple es kx pos) (gTu n gs) := by
  refine ⟨fun pins s σ H v u Q I r hw => ?_⟩
  obtain ⟨B, F, σ0, d, σ', rel, dv, e, k⟩ := hw
  unfold gTu at e
  cases dv with
  | @lst a vs ds g1 g2 =>
    by_cases hl : ds.length = n
    · have e : gs ds σ0 = some σ' := by
        rw [← e]
        show _ = (if ds.length = n then gs ds σ0 else none)
        rw [if_pos hl]
      exact (pg_lst hc h hn hst).run pins s σ H _ u Q I r ⟨a, vs, rfl, g1.sq, by rw [g2.length]; exact hl, B, F, σ0, ds, σ', rel, g2, e, k⟩
    · have e : (if ds.length = n then gs ds σ0 else none) = some σ' := e
      rw [if_neg hl] at e
      cases e
  | @tup a vs ds g1 g2 =>
    by_cases hl : ds.length = n
    · have e : gs ds σ0 = some σ' := by
        rw [← e]
        show _ = (if ds.length = n then gs ds σ0 else none)
        rw [if_pos hl]
      exact (pg_tup hc h hn hst).run pins s σ H _ u Q I r ⟨a, vs, rfl, g1, by rw [g2.length]; exact hl, B, F, σ0, ds, σ', rel, g2, e, k⟩
    · have e : (if ds.length = n then gs ds σ0 else none) = some σ' := e
      rw [if_neg hl] at e
      cases e
  | non => cases e
  | bl b => cases e
  | int i => cases e
  | str x => cases e
  | gl h => cases e
end

/-! ### statements -/
section
variable {X : Cx} {st : Stmt} {sts sts2 : List Stmt} {e a c : Expr} {ma mj : M D} {ml : M (List D)} {mc : M Bool} {m1 m2 : MS} {g : G} {pos : Pos} {B : Ent} {F : Addr → Prop} {σ : DSt} {σv : L2.St} {H : Hp} {p : Par} {W : WX}
theorem sss_nil : SSs X [] mNx := fun W _ => PSs.imp pss_nil fun D σv H ⟨B, F, σ, r, h⟩ => h σv F H r Ext.refl
theorem sss_cons (h1 : SS X st m1) (h2 : SSs X sts m2) : SSs X (st :: sts) (mSeq m1 m2) := fun W tk => PSs.imp (pss_cons (h1 W tk) (h2 W tk)) fun D σv H ⟨B, F, σ, r, h⟩ => by
  refine ⟨B, F, σ, r, ?_⟩
  unfold mSeq at h
  cases e1 : m1 σ with
  | nx s =>
    rw [e1] at h
    exact fun σv' F' H' r' x' => ⟨B, F', s, r', coreS.mono x' h⟩
  | brk s =>
    rw [e1] at h
    exact h
  | cont s =>
    rw [e1] at h
    exact h
  | ret d s =>
    rw [e1] at h
    exact h
  | err c fs s =>
    rw [e1] at h
    exact h
  | bad =>
    rw [e1] at h
    exact h
theorem sss_one (h1 : SS X st m1) : SSs X [st] m1 := fun W tk => pss_one (h1 W tk)
theorem ss_brk : SS X (.Break pos) mBrk := fun W _ => PS.imp ps_break fun D σv H ⟨B, F, σ, r, h⟩ => h σv F H r Ext.refl
theorem ss_cont : SS X (.Continue pos) mCont := fun W _ => PS.imp ps_continue fun D σv H ⟨B, F, σ, r, h⟩ => h σv F H r Ext.refl
theorem ss_pass : SS X (.Pass pos) mNx := fun W _ => PS.imp ps_pass fun D σv H ⟨B, F, σ, r, h⟩ => h σv F H r Ext.refl
theorem ss_ret (h : SE X e ma) : SS X (.Return (some e) pos) (mRet ma) := fun W tk => PS.imp (ps_ret (h W tk)) fun D σv H ⟨B, F, σ, r, h⟩ => (rd1S (P := tD (Cx.par X)) r h).imp fun v H1 ⟨F1, s1, d, r1, e1, v1, h1⟩ => h1 v σv F1 H1 r1 Ext.refl v1
theorem ss_retL (h : SL X e ml) : SS X (.Return (some e) pos) (mRetL ml) := fun W tk => PS.imp (ps_ret (h W tk)) fun D σv H ⟨B, F, σ, r, h⟩ => (rd1S (P := tL (Cx.par X)) r h).imp fun v H1 ⟨F1, s1, d, r1, e1, v1, h1⟩ => h1 v σv F1 H1 r1 Ext.refl v1
theorem ss_drop (h : SE X e ma) (hs : swapsWith e none pos.line X.env = pure false := by rfl) : SS X (.Expr e pos) (mDrop ma) := fun W tk => PS.imp (ps_expr (h W tk) hs) fun D σv H ⟨B, F, σ, r, h⟩ => (rd1S (P := tD (Cx.par X)) r h).imp fun v H1 ⟨F1, s1, d, r1, e1, v1, h1⟩ => h1 σv F1 H1 r1 Ext.refl
theorem ss_set {tg : Expr} (he : SE X e ma) (hg : SG X tg g) (hs : swapsWithSole [tg] e pos.line X.env = pure false := by rfl) (hw : swappedStores [tg] e X.env = pure none := by rfl)
    (h1 : (assignEach [tg] X.env).map (·.2) = [assign tg X.env] := by rfl) : SS X (.Assign [tg] e pos) (mSet ma g) :=
  fun W tk => PS.imp (ps_asg (he W tk) hg hs hw h1) fun D σv H ⟨B, F, σ, r, h⟩ => (rd1S (P := tD (Cx.par X)) r h).imp fun v H1 ⟨F1, s1, d, r1, e1, v1, h1⟩ => by
    cases eg : g d s1 with
    | none =>
      rw [eg] at h1
      exact h1.elim
    | some s2 =>
      rw [eg] at h1
      exact ⟨B, F1, s1, d, s2, r1, v1, eg, fun σv' r' => h1 σv' F1 H1 r' Ext.refl⟩
theorem ss_own {i : Nat} {x : Str} {pos' : Pos} (hN : X.N.Nodup) (hi : X.N[i]? = some x) (hx : Loc X.env.scope x) (hl : SL X e ml) (hs : swapsWith e (some (.Name x pos')) pos.line X.env = pure false := by rfl) (hf : X.fn x = true ∨ X.env.scope.names.lookup x = some .local := by first | exact .inl rfl | exact .inr rfl | assumption) :
    SS X (.Assign [.Name x pos'] e pos) (mOwn i ml) :=
  fun W tk => PS.imp (ps_set hN hi hx (hl W tk) hs hf) fun D σv H ⟨B, F, σ, r, h⟩ => (rd1S (P := tL (Cx.par X)) r h).imp fun v H1 ⟨F1, s1, d, r1, e1, v1, h1⟩ => by
    obtain ⟨q, ev, f⟩ := v1
    subst ev
    exact h1 _ F1 H1 (r1.setOwn f) Ext.refl
theorem ss_if (hc : ST X c mc) (h1 : SSs X sts m1) (h2 : SSs X sts2 m2) : SS X (.If c sts sts2 pos) (mIfS mc m1 m2) :=
  fun W tk => PS.imp (ps_if (hc W tk) (h1 W tk) (h2 W tk)) fun D σv H ⟨B, F, σ, r, h⟩ => (rd1S (P := tB) r h).imp fun k H1 ⟨F1, s1, d, r1, e1, v1, h1⟩ => by
    have v1 : k = d := v1
    subst v1
    cases k with
    | true =>
      rw [if_pos rfl]
      exact ⟨B, F1, s1, r1, h1⟩
    | false =>
      rw [if_neg Bool.false_ne_true]
      exact ⟨B, F1, s1, r1, h1⟩
/-- the list that a slot owns -/
theorem own_at {i : Nat} {b : Bool} {xs : List D} (r : Rel p B F σv H σ) (h : σ[i]? = some (Sl.own b xs)) : ∃ a vs, σv[i]? = some (some (.ref a)) ∧ H a = some (.lst vs) ∧ DVs p F H vs xs ∧ ¬ F a := by
  obtain ⟨a, vs, h1, h2, h3, h4, _⟩ := r.lst h
  exact ⟨a, vs, h1, h2, h3, h4⟩
end
end DL
end

section
set_option Elab.async false
set_option linter.all false
set_option maxRecDepth 100000
set_option maxHeartbeats 2000000
set_option autoImplicit false
/-! DLz: enumerate(zip(t, u)) over tuples, at the library's level. -/
namespace DLz
open PySem
/-- a zip of two iterators, whatever it keeps in its first two fields -/
abbrev ZO (h : Heap) (zp TI TO : Addr) (f0 : Value) (b : Bool) : Prop :=
  h.get? zp = some { cls := .type "zip", dict := none, data := .fields #[f0, .bool b, .bool false, .ref TI, .ref TO], slots := #[] }
def Held (f0 : Value) : Prop := f0 = .none ∨ ∃ T : Addr, f0 = rawInt T
section
variable {prog : Program} {w : World} {A : Around} {E : Value → Shared → Prop} {s : Shared} {zp TI TO j1 j2 : Addr} {fp1 fp2 : List Addr} {n1 n2 i : Nat} {P1 P2 : Nat → Value → Prop} {St1 St2 : Nat → Heap → Prop} {a1 a2 f0 : Value} {fl : Bool}
theorem alive_any {M : Model} {a : Addr} {Q : Option Obj → Shared → Prop} (h : Q (s.heap.get? a) s) : wpAny M A (loadIfAlive a) Q E s := fun _ _ _ => h
theorem free_any {Q : Bool → Shared → Prop} (Z : ZO s.heap zp TI TO f0 fl) (hf : Held f0)
    (k : ∀ h' c g, ZO h' zp TI TO f0 g → Heap.SameBut zp s.heap h' → Q c { s with heap := h' }) : wpAny (model prog w) A (Builtin.SmallTypes.ownedTupleIsFree (.ref zp)) Q E s := by
  unfold Builtin.SmallTypes.ownedTupleIsFree
  rcases hf with e | ⟨T, e⟩
  · subst e
    exact wpAny_bind (wpAny_field Z rfl (x := .none) rfl (wpAny_pure (k s.heap true fl Z (Heap.SameBut.refl _ _))))
  · subst e
    refine wpAny_bind (wpAny_field Z rfl (x := rawInt T) rfl ?_)
    show wpAny _ _ (loadIfAlive ((T : Int).toNat) >>= _) _ _ s
    rw [Int.toNat_natCast]
    refine wpAny_bind (alive_any ?_)
    cases s.heap.get? T with
    | none =>
      simp only [Option.isNone_none, if_true]
      exact wpAny_pure (k s.heap true fl Z (Heap.SameBut.refl _ _))
    | some o =>
      simp only [Option.isNone_some, Bool.false_eq_true, if_false]
      refine wpAny_bind (wpAny_field Z rfl (x := .bool fl) rfl ?_)
      cases fl with
      | true =>
        rw [if_neg (show ¬ ((Value.bool true != Value.bool true) = true) by decide)]
        exact wpAny_pure (k s.heap false true Z (Heap.SameBut.refl _ _))
      | false =>
        rw [if_pos (show (Value.bool false != Value.bool true) = true by decide)]
        exact wpAny_bind (wpAny_setField_rec Z (by simp) fun h1 z1 b1 => wpAny_pure (k h1 false true z1 b1))
/-- the next pair -/
theorem zip_item {Q : Value → Shared → Prop} (S : ZipSep2 zp TI TO j1 j2 fp1 fp2) (D1 : Draws prog w A j1 fp1 n1 P1 St1) (D2 : Draws prog w A j2 fp2 n2 P2 St2)
    (Z : ZO s.heap zp TI TO f0 fl) (hf : Held f0) (tI : IsTupOf2 s.heap TI (.ref j1) (.ref j2)) (tO : IsTupOf2 s.heap TO a1 a2) (c1 : St1 i s.heap) (c2 : St2 i s.heap) (l1 : i < n1) (l2 : i < n2)
    (k : ∀ x1 x2 h' tk f g b1 b2, P1 i x1 → P2 i x2 → ZO h' zp TI TO f g → Held f → IsTupOf2 h' TO b1 b2 → St1 (i + 1) h' → St2 (i + 1) h' → IsTupOf2 h' s.heap.objs.size x1 x2 → h'.objs.size = s.heap.objs.size + 1 →
      (∀ c o, c ≠ zp → c ≠ TO → c ≠ j1 → c ≠ j2 → s.heap.get? c = some o → h'.get? c = some o) → Q (.ref s.heap.objs.size) { s with heap := h', toks := tk }) :
    wpAny (model prog w) A (Builtin.«zip.__next__» ⟨[.ref zp], []⟩) (fun fin s' => ∃ v, fin = .done (.ret v) ∧ Q v s') E s := by
  obtain ⟨hp, ga, dr, t0, os⟩ := s
  show wpAny _ _ (field (.ref zp) 2 >>= _) _ _ ⟨hp, ga, dr, t0, os⟩
  refine wpAny_bind (wpAny_field Z rfl (x := .bool false) rfl ?_)
  show wpAny _ _ (field (.ref zp) 3 >>= _) _ _ ⟨hp, ga, dr, t0, os⟩
  refine wpAny_bind (wpAny_field Z rfl (x := .ref TI) rfl ?_)
  refine wpAny_bind (wpAny_seqItems tI rfl ?_)
  refine wpAny_bind (free_any Z hf fun hx c g Zx bx => ?_)
  replace bx : Heap.SameBut zp hp hx := bx
  replace Zx : ZO hx zp TI TO f0 g := Zx
  have tOx : IsTupOf2 hx TO a1 a2 := bx.extBut _ _ S.TOz tO
  cases c with
  | true =>
    simp only [if_true]
    refine wpAny_bind (wpAny_rule ?_)
    refine wpAny_bind (wpAny_field (s := ⟨hx, ga, dr, t0, os⟩) Zx rfl (x := .ref TO) rfl ?_)
    refine wpAny_bind (wpAny_setField_rec (s := ⟨hx, ga, dr, t0, os⟩) Zx (by simp) fun y0 z0 b0 => ?_)
    replace z0 : ZO y0 zp TI TO .ellipsis g := z0
    replace b0 : Heap.SameBut zp hx y0 := b0
    refine wpAny_bind ?_
    simp only [List.zipIdx_cons, List.zipIdx_nil, List.forIn_cons, List.forIn_nil]
    refine wpAny_bind (wpAny_bind (wpAny_onRaise ?_))
    show wpAny _ _ (Builtin.SmallTypes.nextOf (.ref j1) >>= _) _ _ ⟨y0, ga, dr, t0, os⟩
    refine wpAny_bind (D1.item i _ _ _ l1 (D1.over (D1.over c1 bx S.zf1) b0 S.zf1) fun x1 q1 t1 hx1 d1 e1 => wpAny_pure ?_)
    replace e1 : Heap.SameBut j1 y0 q1 := e1
    have u1 : IsTupOf2 q1 TO a1 a2 := e1.extBut _ _ S.Ti1 (b0.extBut _ _ S.TOz tOx)
    refine wpAny_bind (wpAny_seqItems (s := ⟨q1, ga, dr, t1, os⟩) u1 rfl ?_)
    refine wpAny_bind (updateSeq_IsTupOf2 (s := ⟨q1, ga, dr, t1, os⟩) u1 fun y1 v1 b1 => ?_)
    replace v1 : IsTupOf2 y1 TO x1 a2 := v1
    replace b1 : Heap.SameBut TO q1 y1 := b1
    refine wpAny_bind (wpAny_letGo (wpAny_pure ?_))
    refine wpAny_bind (wpAny_bind (wpAny_onRaise ?_))
    show wpAny _ _ (Builtin.SmallTypes.nextOf (.ref j2) >>= _) _ _ ⟨y1, ga, dr, t1, os⟩
    refine wpAny_bind (D2.item i _ _ _ l2 (D2.over (D2.over (D2.over (D2.over c2 bx S.zf2) b0 S.zf2) e1 S.sep1_2) b1 S.Tf2) fun x2 q2 t2 hx2 d2 e2 => wpAny_pure ?_)
    replace e2 : Heap.SameBut j2 y1 q2 := e2
    have u2 : IsTupOf2 q2 TO x1 a2 := e2.extBut _ _ S.Ti2 v1
    refine wpAny_bind (wpAny_seqItems (s := ⟨q2, ga, dr, t2, os⟩) u2 rfl ?_)
    refine wpAny_bind (updateSeq_IsTupOf2 (s := ⟨q2, ga, dr, t2, os⟩) u2 fun y2 v2 b2 => ?_)
    replace v2 : IsTupOf2 y2 TO x1 x2 := v2
    replace b2 : Heap.SameBut TO q2 y2 := b2
    refine wpAny_bind (wpAny_letGo (wpAny_pure (wpAny_pure ?_)))
    refine wpAny_bind (wpAny_seqItems (s := ⟨y2, ga, dr, t2, os⟩) v2 rfl ?_)
    refine wpAny_bind (wpAny_newTuple ?_)
    have sz : y2.objs.size = hp.objs.size := by rw [b2.1, e2.1, b1.1, e1.1, b0.1, bx.1]
    have zz : ZO y2 zp TI TO .ellipsis g := b2.extBut _ _ S.TOz.symm (e2.extBut _ _ S.zi2 (b1.extBut _ _ S.TOz.symm (e1.extBut _ _ S.zi1 z0)))
    have kk : ∀ c o, c ≠ zp → c ≠ TO → c ≠ j1 → c ≠ j2 → hp.get? c = some o → y2.get? c = some o := fun c o m1 m2 m3 m4 e =>
      b2.extBut _ _ m2 (e2.extBut _ _ m4 (b1.extBut _ _ m2 (e1.extBut _ _ m3 (b0.extBut _ _ m1 (bx.extBut _ _ m1 e)))))
    have g1 : St1 (i + 1) y2 := D1.over (D1.over (D1.over d1 b1 S.Tf1) e2 S.sep2_1) b2 S.Tf1
    have g2 : St2 (i + 1) y2 := D2.over d2 b2 S.Tf2
    have zlt : zp < y2.objs.size := Heap.lt_size zz
    show wpAny _ _ (Builtin.SmallTypes.ownedTupleHandOut (.ref zp) (.ref y2.objs.size) >>= _) _ _ ⟨y2.push { cls := .type "tuple", data := .seq #[x1, x2] }, ga, dr, t2, os⟩
    refine wpAny_bind ?_
    unfold Builtin.SmallTypes.ownedTupleHandOut
    have z6 : ZO (y2.push { cls := .type "tuple", data := .seq #[x1, x2] }) zp TI TO .ellipsis g := Heap.get?_push_of_some _ zz
    refine wpAny_bind (wpAny_setField_rec z6 (by simp) fun h7 z7 b7 => ?_)
    replace z7 : ZO h7 zp TI TO (rawInt y2.objs.size) g := z7
    refine wpAny_setField_rec z7 (by simp) fun h8 z8 b8 => ?_
    replace z8 : ZO h8 zp TI TO (rawInt y2.objs.size) false := z8
    replace b7 : Heap.SameBut zp (y2.push { cls := .type "tuple", data := .seq #[x1, x2] }) h7 := b7
    replace b8 : Heap.SameBut zp h7 h8 := b8
    have up : ∀ c o, c ≠ zp → y2.get? c = some o → h8.get? c = some o := fun c o m e => b8.extBut _ _ m (b7.extBut _ _ m (Heap.get?_push_of_some _ e))
    have t8 : IsTupOf2 h8 y2.objs.size x1 x2 := b8.extBut _ _ (Nat.ne_of_gt zlt) (b7.extBut _ _ (Nat.ne_of_gt zlt) (Heap.get?_push_size _ rfl))
    have s8 : h8.objs.size = y2.objs.size + 1 := by rw [b8.1, b7.1, Heap.size_push]
    rw [sz] at t8 s8
    refine wpAny_pure ⟨_, rfl, ?_⟩
    show Q (.ref y2.objs.size) ⟨h8, ga, dr, t2, os⟩
    rw [sz]
    exact k x1 x2 h8 t2 _ _ _ _ hx1 hx2 z8 (.inr ⟨_, rfl⟩) (up _ _ S.TOz v2) (D1.frame _ _ _ g1 fun b hb o e => up b o (fun q => S.zf1 (q ▸ hb)) e) (D2.frame _ _ _ g2 fun b hb o e => up b o (fun q => S.zf2 (q ▸ hb)) e) t8 s8
      fun c o m1 m2 m3 m4 e => up c o m1 (kk c o m1 m2 m3 m4 e)
  | false =>
    simp only [Bool.false_eq_true, if_false]
    refine wpAny_bind ?_
    rw [← Array.forIn_toList]
    simp only [List.forIn_cons, List.forIn_nil]
    refine wpAny_bind (wpAny_bind (wpAny_holding ?_))
    show wpAny _ _ (Builtin.SmallTypes.nextOf (.ref j1) >>= _) _ _ ⟨hx, ga, dr, t0, os⟩
    refine wpAny_bind (D1.item i _ _ _ l1 (D1.over c1 bx S.zf1) fun x1 q1 t1 hx1 d1 e1 => wpAny_pure ?_)
    replace e1 : Heap.SameBut j1 hx q1 := e1
    refine wpAny_pure ?_
    refine wpAny_bind (wpAny_bind (wpAny_holding ?_))
    show wpAny _ _ (Builtin.SmallTypes.nextOf (.ref j2) >>= _) _ _ ⟨q1, ga, dr, t1, os⟩
    refine wpAny_bind (D2.item i _ _ _ l2 (D2.over (D2.over c2 bx S.zf2) e1 S.sep1_2) fun x2 q2 t2 hx2 d2 e2 => wpAny_pure ?_)
    replace e2 : Heap.SameBut j2 q1 q2 := e2
    refine wpAny_pure (wpAny_pure ?_)
    show wpAny _ _ (newTuple [x1, x2] >>= _) _ _ ⟨q2, ga, dr, t2, os⟩
    refine wpAny_bind (wpAny_newTuple ?_)
    have sz : q2.objs.size = hp.objs.size := by rw [e2.1, e1.1, bx.1]
    have zz : ZO q2 zp TI TO f0 g := e2.extBut _ _ S.zi2 (e1.extBut _ _ S.zi1 Zx)
    have tt : IsTupOf2 q2 TO a1 a2 := e2.extBut _ _ S.Ti2 (e1.extBut _ _ S.Ti1 tOx)
    have kk : ∀ c o, c ≠ zp → c ≠ TO → c ≠ j1 → c ≠ j2 → hp.get? c = some o → q2.get? c = some o := fun c o m1 m2 m3 m4 e => e2.extBut _ _ m4 (e1.extBut _ _ m3 (bx.extBut _ _ m1 e))
    have g1 : St1 (i + 1) q2 := D1.over d1 e2 S.sep2_1
    refine wpAny_pure ⟨_, rfl, ?_⟩
    show Q (.ref q2.objs.size) ⟨q2.push { cls := .type "tuple", data := .seq #[x1, x2] }, ga, dr, t2, os⟩
    have t8 : IsTupOf2 (q2.push { cls := .type "tuple", data := .seq #[x1, x2] }) q2.objs.size x1 x2 := Heap.get?_push_size _ rfl
    have s8 : (q2.push { cls := .type "tuple", data := .seq #[x1, x2] }).objs.size = q2.objs.size + 1 := Heap.size_push ..
    have up : ∀ c o, q2.get? c = some o → (q2.push { cls := .type "tuple", data := .seq #[x1, x2] }).get? c = some o := fun c o e => Heap.get?_push_of_some _ e
    rw [sz] at t8 s8 ⊢
    exact k x1 x2 _ t2 _ _ _ _ hx1 hx2 (up _ _ zz) hf (up _ _ tt) (D1.frame _ _ _ g1 fun b hb o e => up b o e) (D2.frame _ _ _ d2 fun b hb o e => up b o e) t8 s8 fun c o m1 m2 m3 m4 e => up c o (kk c o m1 m2 m3 m4 e)
/-- no pair left -/
theorem zip_end {Q : Fin → Shared → Prop} (S : ZipSep2 zp TI TO j1 j2 fp1 fp2) (D1 : Draws prog w A j1 fp1 n1 P1 St1) (D2 : Draws prog w A j2 fp2 n2 P2 St2)
    (Z : ZO s.heap zp TI TO f0 fl) (hf : Held f0) (tI : IsTupOf2 s.heap TI (.ref j1) (.ref j2)) (tO : IsTupOf2 s.heap TO a1 a2) (c1 : St1 i s.heap) (c2 : St2 i s.heap) (l1 : i ≤ n1) (l2 : i ≤ n2) (hend : i = n1 ∨ i = n2)
    (k : ∀ h' tk e, (∀ c o, c ≠ zp → c ≠ TO → c ≠ j1 → c ≠ j2 → s.heap.get? c = some o → h'.get? c = some o) → (∃ o, h'.get? e = some o ∧ o.cls = .type "StopIteration") → E (.ref e) { s with heap := h', toks := tk }) :
    wpAny (model prog w) A (Builtin.«zip.__next__» ⟨[.ref zp], []⟩) Q E s := by
  obtain ⟨hp, ga, dr, t0, os⟩ := s
  show wpAny _ _ (field (.ref zp) 2 >>= _) _ _ ⟨hp, ga, dr, t0, os⟩
  refine wpAny_bind (wpAny_field Z rfl (x := .bool false) rfl ?_)
  show wpAny _ _ (field (.ref zp) 3 >>= _) _ _ ⟨hp, ga, dr, t0, os⟩
  refine wpAny_bind (wpAny_field Z rfl (x := .ref TI) rfl ?_)
  refine wpAny_bind (wpAny_seqItems tI rfl ?_)
  refine wpAny_bind (free_any Z hf fun hx c g Zx bx => ?_)
  replace bx : Heap.SameBut zp hp hx := bx
  replace Zx : ZO hx zp TI TO f0 g := Zx
  have tOx : IsTupOf2 hx TO a1 a2 := bx.extBut _ _ S.TOz tO
  cases c with
  | true =>
    simp only [if_true]
    refine wpAny_bind (wpAny_rule ?_)
    refine wpAny_bind (wpAny_field (s := ⟨hx, ga, dr, t0, os⟩) Zx rfl (x := .ref TO) rfl ?_)
    refine wpAny_bind (wpAny_setField_rec (s := ⟨hx, ga, dr, t0, os⟩) Zx (by simp) fun y0 z0 b0 => ?_)
    replace z0 : ZO y0 zp TI TO .ellipsis g := z0
    replace b0 : Heap.SameBut zp hx y0 := b0
    refine wpAny_bind ?_
    simp only [List.zipIdx_cons, List.zipIdx_nil, List.forIn_cons, List.forIn_nil]
    refine wpAny_bind (wpAny_bind (wpAny_onRaise ?_))
    show wpAny _ _ (Builtin.SmallTypes.nextOf (.ref j1) >>= _) _ _ ⟨y0, ga, dr, t0, os⟩
    have last : ∀ {q : Heap} {t e : Nat}, ZO q zp TI TO .ellipsis g → (∃ o, q.get? e = some o ∧ o.cls = .type "StopIteration") → (∀ c o, c ≠ zp → c ≠ TO → c ≠ j1 → c ≠ j2 → hp.get? c = some o → q.get? c = some o) →
        wpAny (model prog w) A (setField (.ref zp) 0 .none) (fun _ s' => E (.ref e) s') E ⟨q, ga, dr, t, os⟩ := fun {q t e} zq he kq => by
      obtain ⟨oe, hoe, hce⟩ := he
      have ne : e ≠ zp := fun x => by subst x; rw [zq] at hoe; cases hoe; simp at hce
      refine wpAny_setField_rec (s := ⟨q, ga, dr, t, os⟩) zq (by simp) fun q' _ bq => ?_
      replace bq : Heap.SameBut zp q q' := bq
      exact k q' t e (fun c o m1 m2 m3 m4 x => bq.extBut _ _ m1 (kq c o m1 m2 m3 m4 x)) ⟨oe, bq.extBut _ _ ne hoe, hce⟩
    by_cases m1 : i < n1
    · refine wpAny_bind (D1.item i _ _ _ m1 (D1.over (D1.over c1 bx S.zf1) b0 S.zf1) fun x1 q1 t1 hx1 d1 e1 => wpAny_pure ?_)
      replace e1 : Heap.SameBut j1 y0 q1 := e1
      have u1 : IsTupOf2 q1 TO a1 a2 := e1.extBut _ _ S.Ti1 (b0.extBut _ _ S.TOz tOx)
      refine wpAny_bind (wpAny_seqItems (s := ⟨q1, ga, dr, t1, os⟩) u1 rfl ?_)
      refine wpAny_bind (updateSeq_IsTupOf2 (s := ⟨q1, ga, dr, t1, os⟩) u1 fun y1 v1 b1 => ?_)
      replace v1 : IsTupOf2 y1 TO x1 a2 := v1
      replace b1 : Heap.SameBut TO q1 y1 := b1
      refine wpAny_bind (wpAny_letGo (wpAny_pure ?_))
      have e2 : i = n2 := by omega
      refine wpAny_bind (wpAny_bind (wpAny_onRaise ?_))
      show wpAny _ _ (Builtin.SmallTypes.nextOf (.ref j2) >>= _) _ _ ⟨y1, ga, dr, t1, os⟩
      refine wpAny_bind (D2.done ⟨y1, ga, dr, t1, os⟩ _ _ (by rw [← e2]; exact D2.over (D2.over (D2.over (D2.over c2 bx S.zf2) b0 S.zf2) e1 S.sep1_2) b1 S.Tf2) fun q e hq he => ?_)
      replace hq : Heap.ExtBut j2 y1 q := hq
      exact last (hq _ _ S.zi2 (b1.extBut _ _ S.TOz.symm (e1.extBut _ _ S.zi1 z0))) he fun c o m1 m2 m3 m4 x => hq _ _ m4 (b1.extBut _ _ m2 (e1.extBut _ _ m3 (b0.extBut _ _ m1 (bx.extBut _ _ m1 x))))
    · have e2 : i = n1 := by omega
      refine wpAny_bind (D1.done ⟨y0, ga, dr, t0, os⟩ _ _ (by rw [← e2]; exact D1.over (D1.over c1 bx S.zf1) b0 S.zf1) fun q e hq he => ?_)
      replace hq : Heap.ExtBut j1 y0 q := hq
      exact last (hq _ _ S.zi1 z0) he fun c o m1 m2 m3 m4 x => hq _ _ m3 (b0.extBut _ _ m1 (bx.extBut _ _ m1 x))
  | false =>
    simp only [Bool.false_eq_true, if_false]
    refine wpAny_bind ?_
    rw [← Array.forIn_toList]
    simp only [List.forIn_cons, List.forIn_nil]
    refine wpAny_bind (wpAny_bind (wpAny_holding ?_))
    show wpAny _ _ (Builtin.SmallTypes.nextOf (.ref j1) >>= _) _ _ ⟨hx, ga, dr, t0, os⟩
    by_cases m1 : i < n1
    · refine wpAny_bind (D1.item i _ _ _ m1 (D1.over c1 bx S.zf1) fun x1 q1 t1 hx1 d1 e1 => wpAny_pure ?_)
      replace e1 : Heap.SameBut j1 hx q1 := e1
      refine wpAny_pure ?_
      have e2 : i = n2 := by omega
      refine wpAny_bind (wpAny_bind (wpAny_holding ?_))
      show wpAny _ _ (Builtin.SmallTypes.nextOf (.ref j2) >>= _) _ _ ⟨q1, ga, dr, t1, os⟩
      refine wpAny_bind (D2.done ⟨q1, ga, dr, t1, os⟩ _ _ (by rw [← e2]; exact D2.over (D2.over c2 bx S.zf2) e1 S.sep1_2) fun q e hq he => ?_)
      replace hq : Heap.ExtBut j2 q1 q := hq
      exact k q t1 e (fun c o m1 m2 m3 m4 x => hq _ _ m4 (e1.extBut _ _ m3 (bx.extBut _ _ m1 x))) he
    · have e2 : i = n1 := by omega
      refine wpAny_bind (D1.done ⟨hx, ga, dr, t0, os⟩ _ _ (by rw [← e2]; exact D1.over c1 bx S.zf1) fun q e hq he => ?_)
      replace hq : Heap.ExtBut j1 hx q := hq
      exact k q t0 e (fun c o m1 m2 m3 m4 x => hq _ _ m3 (bx.extBut _ _ m1 x)) he
/-- the next pair, through nextOf -/
theorem zip_nextOf {Q : Value → Shared → Prop} (hz : ∃ f g, ZO s.heap zp TI TO f g) (h : wpAny (model prog w) A.in1 (Builtin.«zip.__next__» ⟨[.ref zp], []⟩) (fun fin s' => ∃ v, fin = .done (.ret v) ∧ Q v s') E s) :
    wpAny (model prog w) A (Builtin.SmallTypes.nextOf (.ref zp)) Q E s := by
  obtain ⟨f, g, Z⟩ := hz
  have hT : s.TypeIs (.ref zp) "zip" := ⟨_, Z, rfl⟩
  unfold Builtin.SmallTypes.nextOf
  refine wpAny_bind (wpAny_callSpecial?_slot (name := Str.ofString "__next__") hT F.slot_zip_next (wpAny_call_entry F.slot_zip_next hT F.entry_zip_next ?_ (F.args_zip_next_1 _)))
  refine wpAny_mono h (fun fin s' ⟨v, e, q⟩ => ⟨v, e, wpAny_pure q⟩) fun _ _ x => x
end
/-- enumerate's next, over any inner next -/
theorem enum_item {prog : Program} {w : World} {A : Around} {E : Value → Shared → Prop} {s : Shared} {e it : Addr} {c : Int} {old : Value} {Q : Value → Shared → Prop} (he : IsEnum s.heap e it c old)
    (hin : wpAny (model prog w) A (Builtin.SmallTypes.nextOf (.ref it)) (fun x s1 => IsEnum s1.heap e it c old ∧ ∀ h' tk, IsEnumOut h' e it (c + 1) x s1.heap.objs.size →
      h'.get? s1.heap.objs.size = some { cls := .type "tuple", data := .seq #[.int c tk, x] } → h'.objs.size = s1.heap.objs.size + 1 → (∀ b o, b ≠ e → s1.heap.get? b = some o → h'.get? b = some o) →
        Q (.ref s1.heap.objs.size) { s1 with heap := h', toks := tk + 1 }) E s) :
    wpAny (model prog w) A (Builtin.«enumerate.__next__» ⟨[.ref e], []⟩) (fun fin s' => ∃ v, fin = .done (.ret v) ∧ Q v s') E s := by
  show wpAny _ _ (field (.ref e) 2 >>= _) _ _ s
  refine wpAny_bind (wpAny_field he rfl (x := .ref it) rfl ?_)
  refine wpAny_bind (wpAny_mono hin (fun x s1 hx => ?_) fun _ _ z => z)
  obtain ⟨h1, k⟩ := hx
  obtain ⟨hp, ga, dr, tk, os⟩ := s1
  replace h1 : IsEnum hp e it c old := h1
  show wpAny _ _ (field (.ref e) 3 >>= _) _ _ ⟨hp, ga, dr, tk, os⟩
  refine wpAny_bind (wpAny_field h1 rfl (x := rawInt c) rfl ?_)
  show wpAny _ _ (field (.ref e) 4 >>= _) _ _ ⟨hp, ga, dr, tk, os⟩
  refine wpAny_bind (wpAny_field h1 rfl (x := .none) rfl ?_)
  show wpAny _ _ (mkInt c >>= _) _ _ ⟨hp, ga, dr, tk, os⟩
  refine wpAny_bind (wpAny_mkInt ?_)
  show wpAny _ _ (setField (.ref e) 3 (rawInt (c + 1)) >>= _) _ _ ⟨hp, ga, dr, tk + 1, os⟩
  refine wpAny_bind (wpAny_setField_rec h1 (by simp) fun y2 i2 b2 => ?_)
  replace b2 : Heap.SameBut e hp y2 := b2
  replace i2 : IsEnum y2 e it (c + 1) old := i2
  show wpAny _ _ (setField (.ref e) 4 .none >>= _) _ _ ⟨y2, ga, dr, tk + 1, os⟩
  refine wpAny_bind (wpAny_setField_rec i2 (by simp) fun y3 i3 b3 => ?_)
  replace b3 : Heap.SameBut e y2 y3 := b3
  replace i3 : IsEnum y3 e it (c + 1) old := i3
  show wpAny _ _ (newTuple [.int c tk, x] >>= _) _ _ ⟨y3, ga, dr, tk + 1, os⟩
  refine wpAny_bind (wpAny_newTuple ?_)
  have sz : y3.objs.size = hp.objs.size := by rw [b3.1, b2.1]
  have el : e < hp.objs.size := Heap.lt_size h1
  have i4 : IsEnum (y3.push { cls := .type "tuple", data := .seq #[.int c tk, x] }) e it (c + 1) old := Heap.get?_push_of_some _ i3
  have t4 : (y3.push { cls := .type "tuple", data := .seq #[.int c tk, x] }).get? hp.objs.size = some { cls := .type "tuple", data := .seq #[.int c tk, x] } := by
    rw [← sz]
    exact Heap.get?_push_size _ rfl
  have s4 : (y3.push { cls := .type "tuple", data := .seq #[.int c tk, x] }).objs.size = hp.objs.size + 1 := by rw [Heap.size_push, sz]
  have k4 : ∀ b o, b ≠ e → hp.get? b = some o → (y3.push { cls := .type "tuple", data := .seq #[.int c tk, x] }).get? b = some o := fun b o m q => Heap.get?_push_of_some _ (b3.extBut b o m (b2.extBut b o m q))
  generalize y3.push { cls := .type "tuple", data := .seq #[.int c tk, x] } = y4 at i4 t4 s4 k4
  show wpAny _ _ (Builtin.SmallTypes.ownedTupleIsFree (.ref e) >>= _) _ _ ⟨y4, ga, dr, tk + 1, os⟩
  rw [sz]
  refine wpAny_bind ?_
  unfold Builtin.SmallTypes.ownedTupleIsFree
  refine wpAny_bind (wpAny_field i4 rfl (x := .none) rfl (wpAny_pure ?_))
  simp only [if_true]
  refine wpAny_bind (wpAny_rule ?_)
  refine wpAny_bind (wpAny_field i4 rfl (x := old) rfl ?_)
  refine wpAny_bind (wpAny_setField_rec i4 (by simp) fun y5 i5 b5 => ?_)
  replace b5 : Heap.SameBut e y4 y5 := b5
  replace i5 : IsEnum y5 e it (c + 1) x := i5
  show wpAny _ _ (Builtin.SmallTypes.ownedTupleHandOut (.ref e) (.ref hp.objs.size) >>= _) _ _ ⟨y5, ga, dr, tk + 1, os⟩
  refine wpAny_bind ?_
  unfold Builtin.SmallTypes.ownedTupleHandOut
  refine wpAny_bind (wpAny_setField_rec i5 (by simp) fun y6 i6 b6 => ?_)
  replace b6 : Heap.SameBut e y5 y6 := b6
  replace i6 : IsEnumOut y6 e it (c + 1) x hp.objs.size := i6
  refine wpAny_setField_rec i6 (by simp) fun y7 i7 b7 => ?_
  replace b7 : Heap.SameBut e y6 y7 := b7
  replace i7 : IsEnumOut y7 e it (c + 1) x hp.objs.size := i7
  have up : ∀ b o, b ≠ e → y4.get? b = some o → y7.get? b = some o := fun b o m q => b7.extBut b o m (b6.extBut b o m (b5.extBut b o m q))
  exact wpAny_bind (wpAny_letGo (wpAny_pure ⟨_, rfl, k y7 tk i7 (up _ _ (Nat.ne_of_gt el) t4) (by rw [b7.1, b6.1, b5.1]; exact s4) fun b o m q => up b o m (k4 b o m q)⟩))

/-! ### the walk: enumerate(zip(t, u)), t and u tuples -/
open PySem.AutoSeq1 in
theorem meets_enum_zip (z TI TO : Addr) :
    Meets (Builtin.«enumerate.__new__» ⟨[.type "enumerate", .ref z], []⟩) (fun _ R s => IsZip s.heap z TI TO .none ∧
      R (.ok (.ret (.ref s.heap.objs.size))) { s with heap := s.heap.push { cls := .type "enumerate", data := .fields #[.none, .bool false, .ref z, rawInt 0, .none, .none] } }) :=
  .of_wp fun prog w A R s h => by
    obtain ⟨hp, g, d, tk, os⟩ := s
    obtain ⟨hl, h⟩ := h
    have hsub := sub_enumerate
    have hL : IsZip (Shared.heap ⟨hp, g, d, tk, os⟩) z TI TO .none := hl
    wp_walk using wpAny_loadPart' hl
    refine wpAny_stack_any fun st => wpAny_pure ?_
    split
    · rename_i c _ _ _ _ _
      cases (c == Value.type "enumerate")
      · wp_walk using wpAny_loadPart' hl, wpAny_pyIter_zip hL
        exact ⟨_, rfl, h⟩
      · wp_walk using wpAny_loadPart' hl, wpAny_pyIter_zip hL
        exact ⟨_, rfl, h⟩
    · wp_walk using wpAny_loadPart' hl, wpAny_pyIter_zip hL
      exact ⟨_, rfl, h⟩
theorem call_enum_zip {prog : Program} {w : World} {A : Around} {E : Value → Shared → Prop} {s : Shared} {z TI TO : Addr} {Q : Value → Shared → Prop} (hz : IsZip s.heap z TI TO .none)
    (h : ∀ h', IsEnum h' s.heap.objs.size z 0 .none → h'.objs.size = s.heap.objs.size + 1 → (∀ b o, s.heap.get? b = some o → h'.get? b = some o) → Q (.ref s.heap.objs.size) { s with heap := h' }) :
    wpAny (model prog w) A (call (.type "enumerate") [.ref z]) Q E s := by
  refine callType_new F.called_enumerate (by decide) (F.typeCall_enumerate_1 _) (F.newCall_enumerate_1 _) (fun obj => F.args_object_init_2 obj _) F.entry_enumerate_new (meets_enum_zip z TI TO) ⟨hz, ?_⟩
  have he : IsEnum (s.heap.push { cls := .type "enumerate", data := .fields #[.none, .bool false, .ref z, rawInt 0, .none, .none] }) s.heap.objs.size z 0 .none := Heap.get?_push_size _ rfl
  exact ⟨⟨_, he, rfl⟩, h _ he (Heap.size_push ..) fun b o x => Heap.get?_push_of_some _ x⟩
end DLz
namespace DLz
open PySem L2
/-- the tuples at a and b, item by item, with the number -/
def Itez (K : PySem.W.Frag) (a b : Addr) : It :=
  ⟨fun i H => ∃ xs ys x y, SqT K H a xs ∧ SqT K H b ys ∧ xs[i]? = some x ∧ ys[i]? = some y,
   fun i H v H' => ∃ T p x y, v = .ref T ∧ H p = none ∧ (upd H p (.tup [x, y])) T = none ∧ H' = upd (upd H p (.tup [x, y])) T (.tup [.int (i : Nat), .ref p]) ∧ (∀ xs, SqT K H a xs → xs[i]? = some x) ∧ (∀ ys, SqT K H b ys → ys[i]? = some y),
   fun i H => ∃ xs ys, SqT K H a xs ∧ SqT K H b ys ∧ i ≤ xs.length ∧ i ≤ ys.length ∧ (i = xs.length ∨ i = ys.length)⟩
theorem ap_nat {n a b : Nat} (ha : a < n) (hb : b < n) : a ≠ n ∧ a ≠ n + 1 ∧ a ≠ n + 2 ∧ a ≠ n + 3 ∧ a ≠ n + 4 ∧ a ≠ n + 5 ∧ b ≠ n ∧ b ≠ n + 1 ∧ b ≠ n + 2 ∧ b ≠ n + 3 ∧ b ≠ n + 4 ∧ b ≠ n + 5 := by omega
theorem sep_nat (n : Nat) : n + 2 ≠ n + 4 ∧ n + 3 ≠ n + 4 ∧ n + 2 ≠ n + 3 ∧ n + 2 ≠ n ∧ n + 2 ≠ n + 1 ∧ n + 4 ≠ n ∧ n + 4 ≠ n + 1 ∧ n + 3 ≠ n ∧ n + 3 ≠ n + 1 ∧ n ≠ n + 1 ∧ n + 5 ≠ n ∧ n + 5 ≠ n + 1 ∧ n + 5 ≠ n + 2 ∧ n + 5 ≠ n + 3 ∧ n + 5 ≠ n + 4 := by omega
theorem sep2 {n a b : Nat} (ha : a < n) (hb : b < n) : ZipSep2 (n + 4) (n + 2) (n + 3) n (n + 1) [n, a] [n + 1, b] := by
  have A := ap_nat ha hb
  have S := sep_nat n
  refine ⟨S.1, S.2.1, S.2.2.1, S.2.2.2.1, by simp, ?_, ?_, S.2.2.2.2.1, by simp, ?_, ?_, ?_, ?_⟩ <;> (simp only [List.mem_cons, List.not_mem_nil, or_false, not_or])
  · exact ⟨S.2.2.2.2.2.1, A.2.2.2.2.1.symm⟩
  · exact ⟨S.2.2.2.2.2.2.2.1, A.2.2.2.1.symm⟩
  · exact ⟨S.2.2.2.2.2.2.1, A.2.2.2.2.2.2.2.2.2.2.1.symm⟩
  · exact ⟨S.2.2.2.2.2.2.2.2.1, A.2.2.2.2.2.2.2.2.2.1.symm⟩
  · exact ⟨S.2.2.2.2.2.2.2.2.2.1, A.2.2.2.2.2.2.1.symm⟩
  · exact ⟨S.2.2.2.2.2.2.2.2.2.1.symm, A.2.1.symm⟩
def Ez (a b n : Addr) (i : Nat) (h : Heap) : Prop := (∃ old, IsEnum h (n + 5) (n + 4) ((i : Nat) : Int) old) ∧ (∃ f g, ZO h (n + 4) (n + 2) (n + 3) f g ∧ Held f) ∧ IsTupOf2 h (n + 2) (.ref n) (.ref (n + 1)) ∧ (∃ a1 a2, IsTupOf2 h (n + 3) a1 a2) ∧
  h.IsTupleIter n a i ∧ h.IsTupleIter (n + 1) b i
theorem mem6 {n b : Nat} : b ∈ [n + 5, n + 4, n + 2, n + 3, n, n + 1] ↔ b = n + 5 ∨ b = n + 4 ∨ b = n + 2 ∨ b = n + 3 ∨ b = n ∨ b = n + 1 := by simp
theorem turn_ez {P : Program} {w : World} {K : PySem.W.Frag} {elts : List Expr} {kk : Nat} {tpos : Pos} {a b n : Addr} (ha : a < n) (hb : b < n) :
    Turn P w K (.Tuple elts kk tpos) (Itez K a b) [n + 5, n + 4, n + 2, n + 3, n, n + 1] (n + 5) (Ez a b n) where
  mem := by simp
  obj := fun i h st c hc => by
    obtain ⟨⟨old, he⟩, ⟨f, g, hz, _⟩, t1, ⟨a1, a2, t2⟩, ⟨o1, e1, _, d1⟩, ⟨o2, e2, _, d2⟩⟩ := st
    rcases mem6.mp hc with z | z | z | z | z | z <;> subst z
    · exact ⟨_, he, fun v q => nomatch q⟩
    · exact ⟨_, hz, fun v q => nomatch q⟩
    · exact ⟨_, t1, fun v q => nomatch q⟩
    · exact ⟨_, t2, fun v q => nomatch q⟩
    · exact ⟨_, e1, fun v q => by rw [d1] at q; cases q⟩
    · exact ⟨_, e2, fun v q => by rw [d2] at q; cases q⟩
  keep := fun i h h' st k => by
    obtain ⟨⟨old, he⟩, ⟨f, g, hz, hf⟩, t1, ⟨a1, a2, t2⟩, i1, i2⟩ := st
    exact ⟨⟨old, k _ (by simp) _ he⟩, ⟨f, g, k _ (by simp) _ hz, hf⟩, k _ (by simp) _ t1, ⟨a1, a2, k _ (by simp) _ t2⟩, i1.at fun o q => k _ (by simp) o q, i2.at fun o q => k _ (by simp) o q⟩
  item := by
    intro X hP hw hK hc i pins s σ H E I hf st hg
    subst hP hw hK
    obtain ⟨⟨old, he⟩, ⟨f, g, hz, hfl⟩, t1, ⟨a1, a2, t2⟩, i1, i2⟩ := st
    obtain ⟨xs, ys, x, y, hx, hy, ex, ey⟩ := hg
    obtain ⟨its, rv, pa, _⟩ := I.tuple hx
    obtain ⟨jts, rw', pb, _⟩ := I.tuple hy
    obtain ⟨u, hu, ru⟩ := rv.get ex
    obtain ⟨v, hv, rv2⟩ := rw'.get ey
    have hh := I.ok.hd hc
    have S := sep2 (n := n) ha hb
    have N := sep_nat n
    have D1 := Draws.tuple (prog := X.prog) (w := X.w) (A := X.A.in1.in1) hh n a (Nat.ne_of_lt ha) its.toArray
    have D2 := Draws.tuple (prog := X.prog) (w := X.w) (A := X.A.in1.in1) hh (n + 1) b (Nat.ne_of_lt (Nat.lt_succ_of_lt hb)) jts.toArray
    have el1 : i < its.toArray.size := by rw [List.size_toArray]; exact (List.getElem?_eq_some_iff.mp hu).1
    have el2 : i < jts.toArray.size := by rw [List.size_toArray]; exact (List.getElem?_eq_some_iff.mp hv).1
    have hT : s.TypeIs (.ref (n + 5)) "enumerate" := ⟨_, he, rfl⟩
    unfold pyNext
    refine wpAny_bind (wpAny_attempt (wpAny_callSpecial?_slot (name := Str.ofString "__next__") hT F.slot_enumerate_next (wpAny_call_entry F.slot_enumerate_next hT F.entry_enumerate_next ?_ (F.args_enumerate_next_1 _))))
    refine wpAny_mono (enum_item (Q := fun v s' => ∃ T p x' y', v = .ref T ∧ x' = x ∧ y' = y ∧ H p = none ∧ (upd H p (.tup [x', y'])) T = none ∧ Inv X pins σ (upd (upd H p (.tup [x', y'])) T (.tup [.int (i : Nat), .ref p])) s' ∧
        (∃ item, IsEnumOut s'.heap (n + 5) (n + 4) ((i : Int) + 1) item T) ∧ (∃ f g, ZO s'.heap (n + 4) (n + 2) (n + 3) f g ∧ Held f) ∧ IsTupOf2 s'.heap (n + 2) (.ref n) (.ref (n + 1)) ∧ (∃ a1 a2, IsTupOf2 s'.heap (n + 3) a1 a2) ∧
        s'.heap.IsTupleIter n a (i + 1) ∧ s'.heap.IsTupleIter (n + 1) b (i + 1) ∧ (∀ c ∈ [n + 5, n + 4, n + 2, n + 3, n, n + 1], (upd (upd H p (.tup [x', y'])) T (.tup [.int (i : Nat), .ref p])) c = none)) he ?_) (fun fin s' hq => ?_) fun _ _ z => z
    · refine zip_nextOf ⟨f, g, hz⟩ (zip_item S D1 D2 hz hfl t1 t2 ⟨i1, pa⟩ ⟨i2, pb⟩ el1 el2 fun x1 x2 h1 tk1 f1 g1 c1 c2 p1 p2 z1 hf1 o1 s1 s2 tp sz kp => ⟨?_, fun h2 tk2 eo tp2 sz2 kp2 => ?_⟩)
      · have hne : n + 5 ≠ n + 4 := N.2.2.2.2.2.2.2.2.2.2.2.2.2.2
        exact kp _ _ hne N.2.2.2.2.2.2.2.2.2.2.2.2.2.1 N.2.2.2.2.2.2.2.2.2.2.1 N.2.2.2.2.2.2.2.2.2.2.2.1 he
      · have e1 : x1 = u := by
          have q : its.toArray[i]? = some x1 := p1
          rw [List.getElem?_toArray, hu] at q
          exact (Option.some.inj q).symm
        have e2 : x2 = v := by
          have q : jts.toArray[i]? = some x2 := p2
          rw [List.getElem?_toArray, hv] at q
          exact (Option.some.inj q).symm
        subst e1 e2
        have new1 : ObjOk X.prog X.w (upd H s.heap.objs.size (.tup [x, y])) h1 s.heap.objs.size (.tup [x, y]) := ⟨by show 2 ≤ sizeLine; decide, [x1, x2], .cons ru (.cons rv2 .nil), ⟨_, tp, rfl, _, rfl⟩⟩
        have I1 : Inv X pins σ (upd H s.heap.objs.size (.tup [x, y])) { s with heap := h1, toks := tk1 } :=
          I.turnedNew (ch := [n + 5, n + 4, n + 2, n + 3, n, n + 1]) (fun c o hcn q => kp c o (fun z => hcn (by simp [z])) (fun z => hcn (by simp [z])) (fun z => hcn (by simp [z])) (fun z => hcn (by simp [z])) q) hf (Nat.le_refl _) new1
        have low : ∀ {c}, c ∈ [n + 5, n + 4, n + 2, n + 3, n, n + 1] → c < s.heap.objs.size := fun {c} hcm => by
          rcases mem6.mp hcm with z | z | z | z | z | z <;> subst z
          · exact Heap.lt_size he
          · exact Heap.lt_size hz
          · exact Heap.lt_size t1
          · exact Heap.lt_size t2
          · obtain ⟨_, q, _⟩ := i1
            exact Heap.lt_size q
          · obtain ⟨_, q, _⟩ := i2
            exact Heap.lt_size q
        have none1 : ∀ c ∈ [n + 5, n + 4, n + 2, n + 3, n, n + 1], (upd H s.heap.objs.size (.tup [x, y])) c = none := fun c hcm => by
          rw [upd_ne (Nat.ne_of_lt (low hcm))]
          exact (hf c hcm).1
        have hf2 : ∀ c ∈ [n + 5, n + 4, n + 2, n + 3, n, n + 1], FpOk X pins (upd H s.heap.objs.size (.tup [x, y])) c := fun c hcm => ⟨none1 c hcm, (hf c hcm).2⟩
        have q1 : (upd H s.heap.objs.size (.tup [x, y])) h1.objs.size = none := I1.hok.fresh (Nat.le_refl _)
        have new2 : ObjOk X.prog X.w (upd (upd H s.heap.objs.size (.tup [x, y])) h1.objs.size (.tup [.int (i : Nat), .ref s.heap.objs.size])) h2 h1.objs.size (.tup [.int (i : Nat), .ref s.heap.objs.size]) :=
          ⟨by show 2 ≤ sizeLine; decide, [.int i tk2, .ref s.heap.objs.size], .cons ⟨_, rfl⟩ (.cons rfl .nil), ⟨_, tp2, rfl, _, rfl⟩⟩
        have I2 : Inv X pins σ (upd (upd H s.heap.objs.size (.tup [x, y])) h1.objs.size (.tup [.int (i : Nat), .ref s.heap.objs.size])) { s with heap := h2, toks := tk2 + 1 } :=
          I1.turnedNew (ch := [n + 5, n + 4, n + 2, n + 3, n, n + 1]) (fun c o hcn q => kp2 c o (fun z => hcn (by simp [z])) q) hf2 (Nat.le_refl _) new2
        refine ⟨h1.objs.size, s.heap.objs.size, x, y, rfl, rfl, rfl, I.hok.fresh (Nat.le_refl _), q1, I2, ⟨_, eo⟩, ⟨f1, g1, kp2 _ _ N.2.2.2.2.2.2.2.2.2.2.2.2.2.2.symm z1, hf1⟩, ?_, ⟨c1, c2, kp2 _ _ N.2.2.2.2.2.2.2.2.2.2.2.2.2.1.symm o1⟩, s1.1.at fun o q => kp2 _ o N.2.2.2.2.2.2.2.2.2.2.1.symm q, s2.1.at fun o q => kp2 _ o N.2.2.2.2.2.2.2.2.2.2.2.1.symm q, fun c hcm => ?_⟩
        · exact kp2 _ _ N.2.2.2.2.2.2.2.2.2.2.2.2.1.symm (kp _ _ N.1 N.2.2.1 N.2.2.2.1 N.2.2.2.2.1 t1)
        · rw [upd_ne (fun z => by
            have := low hcm
            rw [z, sz] at this
            exact absurd this (Nat.not_lt.mpr (Nat.le_succ _)))]
          exact none1 c hcm
    · obtain ⟨v', e', T, p, x', y', ev, e1, e2, hp, hTn, I', ⟨item, eo⟩, zz, tI, tO, s1, s2, nn⟩ := hq
      subst ev e1 e2
      refine ⟨_, e', wpAny_pure ⟨_, rfl, ?_⟩⟩
      refine wpAny_letOwnedTupleGo_enum eo fun h'' he'' sb => ?_
      have fpk : ∀ c ∈ [n + 5, n + 4, n + 2, n + 3, n, n + 1], FpOk X pins (upd (upd H p (.tup [x', y'])) T (.tup [.int (i : Nat), .ref p])) c := fun c hcm => ⟨nn c hcm, (hf c hcm).2⟩
      obtain ⟨f0, f1, f2, f3, f4, f5⟩ := fpk (n + 5) (by simp)
      have I3 : Inv X pins σ (upd (upd H p (.tup [x', y'])) T (.tup [.int (i : Nat), .ref p])) { s' with heap := h'' } := I'.turned (t' := s'.toks) (fun c o hcn q => (sb.2 c hcn).trans q) f0 f1 f3 f4 f5
      have ot : ∀ {c : Addr} {o : Obj}, c ≠ n + 5 → s'.heap.get? c = some o → h''.get? c = some o := fun {c o} hcn q => (sb.2 c hcn).trans q
      obtain ⟨f, g, zz, hfz⟩ := zz
      obtain ⟨b1, b2, tO⟩ := tO
      refine ⟨.ref T, _, I3, rfl, ⟨T, p, x', y', rfl, hp, hTn, rfl, fun ws hws => by rw [I.tuple_inj hws hx]; exact ex, fun ws hws => by rw [I.tuple_inj hws hy]; exact ey⟩,
        ⟨⟨item, ?_⟩, ⟨f, g, ot N.2.2.2.2.2.2.2.2.2.2.2.2.2.2.symm zz, hfz⟩, ot N.2.2.2.2.2.2.2.2.2.2.2.2.1.symm tI, ⟨b1, b2, ot N.2.2.2.2.2.2.2.2.2.2.2.2.2.1.symm tO⟩, s1.at fun o q => ot N.2.2.2.2.2.2.2.2.2.2.1.symm q, s2.at fun o q => ot N.2.2.2.2.2.2.2.2.2.2.2.1.symm q⟩, nn⟩
      have e1 : ((i + 1 : Nat) : Int) = (i : Int) + 1 := by omega
      rw [e1]
      exact he''
  done := by
    intro X hP hw hK hc i pins s σ H E I hf st hg
    subst hP hw hK
    obtain ⟨⟨old, he⟩, ⟨f, g, hz, hfl⟩, t1, ⟨a1, a2, t2⟩, i1, i2⟩ := st
    obtain ⟨xs, ys, hx, hy, l1, l2, l3⟩ := hg
    obtain ⟨its, rv, pa, _⟩ := I.tuple hx
    obtain ⟨jts, rw', pb, _⟩ := I.tuple hy
    have hh := I.ok.hd hc
    have S := sep2 (n := n) ha hb
    have D1 := Draws.tuple (prog := X.prog) (w := X.w) (A := X.A.in1.in1) hh n a (Nat.ne_of_lt ha) its.toArray
    have D2 := Draws.tuple (prog := X.prog) (w := X.w) (A := X.A.in1.in1) hh (n + 1) b (Nat.ne_of_lt (Nat.lt_succ_of_lt hb)) jts.toArray
    have z1 : its.toArray.size = xs.length := by rw [List.size_toArray]; exact rv.length.symm
    have z2 : jts.toArray.size = ys.length := by rw [List.size_toArray]; exact rw'.length.symm
    have hT : s.TypeIs (.ref (n + 5)) "enumerate" := ⟨_, he, rfl⟩
    unfold pyNext
    refine wpAny_bind (wpAny_attempt (wpAny_callSpecial?_slot (name := Str.ofString "__next__") hT F.slot_enumerate_next (wpAny_call_entry F.slot_enumerate_next hT F.entry_enumerate_next ?_ (F.args_enumerate_next_1 _))))
    show wpAny _ _ (field (.ref (n + 5)) 2 >>= _) _ _ s
    refine wpAny_bind (wpAny_field he rfl (x := .ref (n + 4)) rfl ?_)
    have hT2 : s.TypeIs (.ref (n + 4)) "zip" := ⟨_, hz, rfl⟩
    unfold Builtin.SmallTypes.nextOf
    refine wpAny_bind (wpAny_bind (wpAny_callSpecial?_slot (name := Str.ofString "__next__") hT2 F.slot_zip_next (wpAny_call_entry F.slot_zip_next hT2 F.entry_zip_next ?_ (F.args_zip_next_1 _))))
    refine zip_end S D1 D2 hz hfl t1 t2 ⟨i1, pa⟩ ⟨i2, pb⟩ (by rw [z1]; exact l1) (by rw [z2]; exact l2) (by rw [z1, z2]; exact l3) fun h' tk e' kp hex => ?_
    obtain ⟨o, ho, hcl⟩ := hex
    refine wpAny_bind (wpAny_isInstance (T := "StopIteration") (b := true) ⟨o, ho, hcl⟩ isSubtype_stop ?_)
    exact wpAny_pure ⟨rfl, I.turnedL (t' := tk) (ch := [n + 5, n + 4, n + 2, n + 3, n, n + 1]) (fun c o hcn q => kp c o (fun z => hcn (by simp [z])) (fun z => hcn (by simp [z])) (fun z => hcn (by simp [z])) (fun z => hcn (by simp [z])) q) hf⟩
  self := fun A i s Q E st h => by
    obtain ⟨⟨_, he⟩, _⟩ := st
    exact wpAny_pyIter_enum he h
def iEz (K : PySem.W.Frag) (ta : TA) : TI := fun σ H R => ta σ H fun vs H1 => ∃ a b xs ys, vs = [.ref a, .ref b] ∧ SqT K H1 a xs ∧ SqT K H1 b ys ∧ R (Itez K a b) H1
theorem pi_ez {X : Cx} {e1 e2 : Expr} {ta : TA} {q1 q2 r1 r2 tpos : Pos} {elts : List Expr} {kk : Nat} (hg : Gl X "enumerate") (hm : X.mg "enumerate" = none) (hgz : Gl X "zip") (hmz : X.mg "zip" = none) (ha : PA X [e1, e2] ta)
    (na : starEach [.Call (.Name "zip" q1) [e1, e2] [] q2] X.env = (false, eval (.Call (.Name "zip" q1) [e1, e2] [] q2) X.env) :: starEach [] X.env := by rfl)
    (hs : starEach [e1, e2] X.env = (false, eval e1 X.env) :: starEach [e2] X.env := by rfl) (hpl : (backTo q2 (starEach [e2] X.env)).any (·.1) = false := by rfl) :
    PI X (.Tuple elts kk tpos) (.Call (.Name "enumerate" r1) [.Call (.Name "zip" q1) [e1, e2] [] q2] [] r2) (iEz X.K ta) := by
  refine ⟨fun pins s σ H R I h => ?_⟩
  refine PyProof.Rows.Call_ (ld_blt I hg hm PyProof.Rows.boot_enumerate (PyProof.Rows.callWith_type1 (PyProof.Rows.args_cons ?_ na) na))
  refine PyProof.Rows.Call_ (ld_blt I hgz hmz PyProof.Rows.boot_zip (PyProof.Rows.callWith_type1 (thn (ha.run q2 pins s σ H _ I h) fun us s1 ⟨vs, H1, I1, rv, q⟩ => ?_) hs hpl))
  obtain ⟨a, b, xs, ys, ev, hx, hy, q⟩ := q
  subst ev
  cases rv with
  | cons g1 g2 =>
    cases g2 with
    | cons g2 g3 =>
      cases g3
      cases g1
      cases g2
      obtain ⟨its, rx, pa, _⟩ := I1.tuple hx
      obtain ⟨jts, ry, pb, _⟩ := I1.tuple hy
      refine zip_begins2 (begins_tuple a its.toArray) (begins_tuple b jts.toArray) pa pb fun h1 hz hTI hTO o1 o2 sz1 k1 => ?_
      refine PyProof.Rows.args_nil ?_
      refine call_enum_zip (s := { s1 with heap := h1 }) hz fun h2 he sz2 k2 => ?_
      replace he : IsEnum h2 h1.objs.size (s1.heap.objs.size + 4) 0 .none := he
      replace k2 : ∀ c o, h1.get? c = some o → h2.get? c = some o := k2
      rw [sz1] at he ⊢
      refine wpAny_pyIter_enum he ?_
      have I2 : Inv X pins σ H1 { s1 with heap := h2 } := I1.kept (t' := s1.toks) fun c o e => k2 _ _ (k1 _ _ e)
      have la : a < s1.heap.objs.size := by
        obtain ⟨_, e, _⟩ := id pa
        exact Heap.lt_size e
      have lb : b < s1.heap.objs.size := by
        obtain ⟨_, e, _⟩ := id pb
        exact Heap.lt_size e
      refine ⟨s1.heap.objs.size + 5, [s1.heap.objs.size + 5, s1.heap.objs.size + 4, s1.heap.objs.size + 2, s1.heap.objs.size + 3, s1.heap.objs.size, s1.heap.objs.size + 1], _, Itez X.K a b, H1, rfl, I2, turn_ez la lb,
        ⟨⟨.none, he⟩, ⟨.none, false, k2 _ _ hz, .inl rfl⟩, k2 _ _ hTI, ⟨_, _, k2 _ _ hTO⟩, ⟨_, k2 _ _ o1, rfl, rfl⟩, ⟨_, k2 _ _ o2, rfl, rfl⟩⟩, fun c hc => ?_, q⟩
      have hle : s1.heap.objs.size ≤ c := by
        rcases mem6.mp hc with z | z | z | z | z | z <;> rw [z]
        · exact Nat.le_add_right _ _
        · exact Nat.le_add_right _ _
        · exact Nat.le_add_right _ _
        · exact Nat.le_add_right _ _
        · exact Nat.le_refl _
        · exact Nat.le_add_right _ _
      exact I1.fpOk hle (I1.hok.fresh hle)
end DLz
end

section
set_option Elab.async false
set_option linter.all false
set_option maxRecDepth 100000
set_option maxHeartbeats 1000000
set_option autoImplicit false
/-! DL6: lists of the frame's own changed; parallel targets; for loops. -/
namespace DL
open PySem L2
theorem isOwn_of {i : Nat} {σ : DSt} (h : isOwn i σ = true) : ∃ b xs, σ[i]? = some (Sl.own b xs) := by
  unfold isOwn at h
  cases e : σ[i]? with
  | none =>
    rw [e] at h
    cases h
  | some s =>
    rw [e] at h
    cases s with
    | no => cases h
    | val d => cases h
    | own b xs => exact ⟨b, xs, rfl⟩
def mAppO (i : Nat) (ma : M D) : MS := fun σ => if isOwn i σ = true then mApp i ma σ else .bad
section
variable {X : Cx} {e a c : Expr} {ma mj : M D} {ml : M (List D)} {pos pos' : Pos} {B : Ent} {F F' : Addr → Prop} {σ σ' : DSt} {σv : L2.St} {H H' : Hp} {p : Par} {W : WX}
theorem own_same {i : Nat} {b : Bool} {xs : List D} {a : Addr} (r : Rel p B F σv H σ) (h : σ[i]? = some (Sl.own b xs)) (hv : σv[i]? = some (some (.ref a))) : ∃ vs, H a = some (.lst vs) ∧ DVs p F H vs xs ∧ ¬ F a := by
  obtain ⟨a', vs, h1, h2, h3, h4, _⟩ := r.lst h
  rw [h1] at hv
  injection hv with hv
  injection hv with hv
  injection hv with hv
  subst hv
  exact ⟨vs, h2, h3, h4⟩
/-- xs.append(e) -/
theorem ss_app {i : Nat} {x : Str} {p1 p2 p3 p4 : Pos} (hN : X.N[i]? = some x) (hv : Vis X.env.scope x) (ha : SE X e ma) (hs : swapsWith (.Call (.Attribute (.Name x p1) "append" p2) [e] [] p3) none p4.line X.env = pure false)
    (hbase : attributeBase (.Name x p1) "append" X.env (eval (.Name x p1) X.env) = eval (.Name x p1) X.env)
    (hfew : ((backTo p3 (starEach [e] X.env)).all (fun x => !x.1) && (backToKw p3 (keywordEach [] X.env)).all (fun x => x.1.isSome)
      && decide ([e].length + ([] : List Keyword).length + (if ([] : List Keyword).isEmpty then 0 else 1) < 30)) = true)
    (hline : (p2.endLine == p3.line) = true) (hst : starEach [e] X.env = (false, eval e X.env) :: starEach [] X.env) (hpl : (backTo p3 (starEach [] X.env)).any (·.1) = false)
    (hd : (x == ("__debug__" : Str)) = false := by decide) (hcd : (x == ("__classdict__" : Str)) = false := by decide) :
    SS X (.Expr (.Call (.Attribute (.Name x p1) "append" p2) [e] [] p3) p4) (mAppO i ma) :=
  fun W tk => PS.imp (ps_expr (pe_bm PySem.F.plainAttrs_list PySem.F.slot_list_append PySem.F.type_list_append mt_append (pe_var hN hv hd hcd) (pa_cons (ha W tk) pa_nil hst) hbase hfew hline hst hpl) hs) fun D σv H ⟨B, F, σ, r, h⟩ => by
    unfold mAppO at h
    by_cases ho : isOwn i σ = true
    · rw [if_pos ho] at h
      obtain ⟨b0, xs0, h0⟩ := isOwn_of ho
      obtain ⟨a, vs0, ev, e0, d0, f0, _⟩ := r.lst h0
      refine ⟨.ref a, ev, .inl ⟨rfl, vs0, .inl (.inl e0)⟩, ?_⟩
      refine (rd1S (P := tD (Cx.par X)) r h).imp fun v H1 ⟨F1, s1, d, r1, e1, v1, h1⟩ => ?_
      cases hs1 : s1[i]? with
      | none =>
        rw [hs1] at h1
        exact h1.elim
      | some s =>
        rw [hs1] at h1
        cases s with
        | no => exact h1.elim
        | val d => exact h1.elim
        | own b xs =>
          obtain ⟨vs, g1, g2, g3⟩ := own_same r1 hs1 ev
          by_cases hl : xs.length < sizeLine
          · have h1 : coreS (Cx.par X) W D B F1 σv H1 (if xs.length < sizeLine then SO.nx (s1.set i (Sl.own b (xs ++ [d]))) else SO.bad) := h1
            rw [if_pos hl] at h1
            refine ⟨a, vs, v, rfl, rfl, g1, by rw [g2.length]; exact hl, ?_⟩
            have n : NewB a F1 H1 F1 (upd H1 a (.lst (vs ++ [v]))) := NewB.upd r1.dom g3
            have ext := n.ext r1.dom g1 g3
            exact h1 σv F1 _ (r1.turn hs1 ev n upd_same ((g2.append (.cons v1 .nil)).ext ext)) ext
          · have h1 : coreS (Cx.par X) W D B F1 σv H1 (if xs.length < sizeLine then SO.nx (s1.set i (Sl.own b (xs ++ [d]))) else SO.bad) := h1
            rw [if_neg hl] at h1
            exact h1.elim
    · rw [if_neg ho] at h
      exact h.elim
/-- xs.pop() -/
theorem se_pop {i : Nat} {x : Str} {p1 p2 p3 : Pos} (hN : X.N[i]? = some x) (hv : Vis X.env.scope x)
    (hbase : attributeBase (.Name x p1) "pop" X.env (eval (.Name x p1) X.env) = eval (.Name x p1) X.env) (hline : (p2.endLine == p3.line) = true)
    (hd : (x == ("__debug__" : Str)) = false := by decide) (hcd : (x == ("__classdict__" : Str)) = false := by decide) : SE X (.Call (.Attribute (.Name x p1) "pop" p2) [] [] p3) (mPop i) :=
  fun W tk => PE.imp (pe_bm0 PySem.F.plainAttrs_list PySem.F.slot_list_pop PySem.F.type_list_pop mt_pop (pe_var hN hv hd hcd) hbase hline) fun σv H Q ⟨B, F, σ, r, h⟩ => by
    unfold mPop at h
    cases hs1 : σ[i]? with
    | none =>
      rw [hs1] at h
      exact h.elim
    | some s =>
      rw [hs1] at h
      cases s with
      | no => exact h.elim
      | val d => exact h.elim
      | own b xs =>
        obtain ⟨a, vs, ev, g1, g2, g3, _⟩ := r.lst hs1
        cases hl : xs.getLast? with
        | none =>
          have h : core (Cx.par X) W (tD (Cx.par X)) B F σv H (match xs.getLast? with | some d => R.ok d (σ.set i (Sl.own b xs.dropLast)) | none => R.bad) Q := h
          rw [hl] at h
          exact h.elim
        | some d =>
          have h : core (Cx.par X) W (tD (Cx.par X)) B F σv H (match xs.getLast? with | some d => R.ok d (σ.set i (Sl.own b xs.dropLast)) | none => R.bad) Q := h
          rw [hl] at h
          rw [List.getLast?_eq_getElem?] at hl
          obtain ⟨v, e1, dv⟩ := g2.get hl
          have n : NewB a F H F (upd H a (.lst vs.dropLast)) := NewB.upd r.dom g3
          have ext := n.ext r.dom g1 g3
          refine ⟨.ref a, ev, .inl ⟨rfl, vs, .inl (.inl g1)⟩, a, vs, v, rfl, rfl, g1, by rw [g2.length]; exact e1, ?_⟩
          exact h v F _ (r.turn hs1 ev n upd_same (g2.dropLast.ext ext)) ext (dv.ext ext)
/-- xs[j] = e, xs the frame's own -/
theorem ss_put {i : Nat} {x : Str} {p1 p2 : Pos} (hN : X.N[i]? = some x) (hv : Vis X.env.scope x) (ha : SE X e ma) (hj : SE X c mj)
    (hsub : ∀ v, assign (.Subscript (.Name x p1) c p2) X.env v = (do
      let ov ← holding [v] (eval (.Name x p1) X.env)
      let iv ← holding [v, ov] (eval c X.env)
      standAt p2
      holding [v, ov, iv] (setItem ov iv v)
      release [v, ov, iv] []))
    (hs : swapsWithSole [.Subscript (.Name x p1) c p2] e pos.line X.env = pure false) (hw : swappedStores [.Subscript (.Name x p1) c p2] e X.env = pure none)
    (h1 : (assignEach [.Subscript (.Name x p1) c p2] X.env).map (·.2) = [assign (.Subscript (.Name x p1) c p2) X.env])
    (hd : (x == ("__debug__" : Str)) = false := by decide) (hcd : (x == ("__classdict__" : Str)) = false := by decide) : SS X (.Assign [.Subscript (.Name x p1) c p2] e pos) (mPut i ma mj) :=
  fun W tk => PS.imp (ps_asg (ha W tk) (pg_sub (pe_var hN hv hd hcd) (hj W tk) set_list hsub) hs hw h1) fun D σv H ⟨B, F, σ, r, h⟩ => by
    refine (rd1S (P := tD (Cx.par X)) r h).imp fun v H1 ⟨F1, s1, d, r1, e1, v1, h1⟩ => ?_
    by_cases ho : isOwn i s1 = true
    · rw [if_pos ho] at h1
      obtain ⟨b0, xs0, h0⟩ := isOwn_of ho
      obtain ⟨q, vs0, ev, e0, d0, f0, _⟩ := r1.lst h0
      refine ⟨.ref q, ev, ?_⟩
      refine (rd1S (P := tD (Cx.par X)) r1 h1).imp fun z H2 ⟨F2, s2, k, r2, e2, v2, h2⟩ => ?_
      cases k with
      | int k =>
        cases v2
        cases hs2 : s2[i]? with
        | none =>
          have h2 : coreS (Cx.par X) W D B F2 σv H2 (match s2[i]? with | some (Sl.own b xs) => (match ixN xs.length k with | some j => SO.nx (s2.set i (Sl.own b (xs.set j d))) | none => SO.bad) | _ => SO.bad) := h2
          rw [hs2] at h2
          exact h2.elim
        | some s =>
          have h2 : coreS (Cx.par X) W D B F2 σv H2 (match s2[i]? with | some (Sl.own b xs) => (match ixN xs.length k with | some j => SO.nx (s2.set i (Sl.own b (xs.set j d))) | none => SO.bad) | _ => SO.bad) := h2
          rw [hs2] at h2
          cases s with
          | no => exact h2.elim
          | val d => exact h2.elim
          | own b xs =>
            have h2 : coreS (Cx.par X) W D B F2 σv H2 (match ixN xs.length k with | some j => SO.nx (s2.set i (Sl.own b (xs.set j d))) | none => SO.bad) := h2
            cases hj : ixN xs.length k with
            | none =>
              rw [hj] at h2
              exact h2.elim
            | some j =>
              rw [hj] at h2
              obtain ⟨vs, g1, g2, g3⟩ := own_same r2 hs2 ev
              have n : NewB q F2 H2 F2 (upd H2 q (.lst (vs.set j v))) := NewB.upd r2.dom g3
              have ext := n.ext r2.dom g1 g3
              exact ⟨q, vs, k, j, rfl, rfl, g1, by rw [g2.length]; exact hj, h2 σv F2 _ (r2.turn hs2 ev n upd_same ((g2.set j (v1.ext e2)).ext ext)) ext⟩
      | non => exact h2.elim
      | bl i => exact h2.elim
      | str x => exact h2.elim
      | lst xs => exact h2.elim
      | tup xs => exact h2.elim
      | gl x => exact h2.elim
    · rw [if_neg ho] at h1
      exact h1.elim
/-- len(xs), xs the frame's own -/
theorem se_lenO {i : Nat} {x f : Str} {p1 p2 : Pos} (hN : X.N[i]? = some x) (hv : Vis X.env.scope x) (hg : Gl X "len") (hm : X.mg "len" = none)
    (he : starEach [.Name x p1] X.env = (false, eval (.Name x p1) X.env) :: starEach [] X.env) (hpl : (backTo pos (starEach [] X.env)).any (·.1) = false)
    (hd : (x == ("__debug__" : Str)) = false := by decide) (hcd : (x == ("__classdict__" : Str)) = false := by decide) : SE X (.Call (.Name "len" p2) [.Name x p1] [] pos) (mLenO i) :=
  fun W tk => PE.imp (pe_callB call_len_seq hg hm PySem.boot_len (pa_cons (pe_var hN hv hd hcd) pa_nil he) (by decide) (by decide) he hpl) fun σv H Q ⟨B, F, σ, r, h⟩ => by
    unfold mLenO at h
    cases hs : σ[i]? with
    | none =>
      rw [hs] at h
      exact h.elim
    | some s =>
      rw [hs] at h
      cases s with
      | no => exact h.elim
      | val d => exact h.elim
      | own b xs =>
        obtain ⟨a, vs, ev, g1, g2, g3, _⟩ := r.lst hs
        refine ⟨.ref a, ev, a, vs, rfl, .inl (.inl (.inl g1)), ?_⟩
        rw [g2.length]
        exact core_ok (P := tD (Cx.par X)) r h (.int _)
/-- xs[j], xs the frame's own -/
theorem se_ixO {i : Nat} {x : Str} {p1 : Pos} (hN : X.N[i]? = some x) (hv : Vis X.env.scope x) (hj : SE X c mj) (hs : PlainIx c)
    (hd : (x == ("__debug__" : Str)) = false := by decide) (hcd : (x == ("__classdict__" : Str)) = false := by decide) : SE X (.Subscript (.Name x p1) c pos) (mIxO i mj) :=
  fun W tk => PE.imp (pe_ix ix_list (pe_var hN hv hd hcd) (hj W tk) hs) fun σv H Q ⟨B, F, σ, r, h⟩ => by
    unfold mIxO at h
    by_cases ho : isOwn i σ = true
    · rw [if_pos ho] at h
      obtain ⟨b0, xs0, h0⟩ := isOwn_of ho
      obtain ⟨a, vs0, ev, e0, d0, f0, _⟩ := r.lst h0
      refine ⟨.ref a, ev, (rd1 (P := tD (Cx.par X)) r h).imp fun z H1 ⟨F1, s1, k, r1, e1, v1, h1⟩ => ?_⟩
      cases k with
      | int k =>
        cases v1
        have h1 : core (Cx.par X) W (tD (Cx.par X)) B F1 σv H1 (match s1[i]? with | some (Sl.own _ xs) => R.opt (atI xs k) s1 | _ => R.bad) Q := h1
        cases hs1 : s1[i]? with
        | none =>
          rw [hs1] at h1
          exact h1.elim
        | some s =>
          rw [hs1] at h1
          cases s with
          | no => exact h1.elim
          | val d => exact h1.elim
          | own b xs =>
            obtain ⟨vs, g1, g2, g3⟩ := own_same r1 hs1 ev
            obtain ⟨d, hd', h1⟩ := core_opt (P := tD (Cx.par X)) h1
            obtain ⟨v, e2, dv⟩ := atI_get g2 hd'
            exact ⟨a, vs, k, v, rfl, rfl, .inl (.inl g1), e2, core_ok (P := tD (Cx.par X)) r1 h1 dv⟩
      | non => exact h1.elim
      | bl i => exact h1.elim
      | str x => exact h1.elim
      | lst xs => exact h1.elim
      | tup xs => exact h1.elim
      | gl x => exact h1.elim
    · rw [if_neg ho] at h
      exact h.elim
end
end DL
end

section
set_option Elab.async false
set_option linter.all false
set_option maxRecDepth 100000
set_option maxHeartbeats 1000000
set_option autoImplicit false
/-! DL7: parallel targets; for loops and what they walk. -/
namespace DL
open PySem L2
/-! ### items, each a value or a new list -/
inductive Tells (p : Par) (B : Ent) (F : Addr → Prop) (σv : L2.St) (H : Hp) (σ : DSt) : List V → List Sl → Prop
  | nil : Tells p B F σv H σ [] []
  | val {v : V} {vs : List V} {d : D} {ss : List Sl} : DV p F H v d → Tells p B F σv H σ vs ss → Tells p B F σv H σ (v :: vs) (Sl.val d :: ss)
  | own {q : Addr} {vs : List V} {xs : List D} {ss : List Sl} : Free p B F σv H σ q xs → (∀ (k : Nat) (ys : List D), ss[k]? = some (Sl.own false ys) → vs[k]? ≠ some (.ref q)) → Tells p B F σv H σ vs ss → Tells p B F σv H σ (.ref q :: vs) (Sl.own false xs :: ss)
abbrev tM (p : Par) : Tel (List Sl) (List V) := fun B F σv H σ vs ss => Tells p B F σv H σ vs ss
def SM (X : Cx) (es : List Expr) (m : M (List Sl)) : Prop := ∀ W, Takes X W → PA X es (rdX (Cx.par X) W (tM (Cx.par X)) m)
section
variable {X : Cx} {e : Expr} {es : List Expr} {ma : M D} {ml : M (List D)} {ms : M (List Sl)} {pos : Pos} {B : Ent} {F F' : Addr → Prop} {σ σ' : DSt} {σv : L2.St} {H H' : Hp} {p : Par} {W : WX} {q : Addr} {xs : List D}
theorem sm_nil : SM X [] mMn := fun W _ => PA.imp pa_nil fun σv H Q ⟨B, F, σ, r, h⟩ => h [] F H r Ext.refl .nil
theorem sm_val (ha : SE X e ma) (hs : SM X es ms) (hst : starEach (e :: es) X.env = (false, eval e X.env) :: starEach es X.env := by rfl) : SM X (e :: es) (mMv ma ms) :=
  fun W tk => PA.imp (pa_cons (ha W tk) (hs W tk) hst) fun σv H Q ⟨B, F, σ, r0, h⟩ => (rd1 (P := tD (Cx.par X)) r0 h).imp fun x H1 ⟨F1, s1, dx, r1, e1, v1, h1⟩ => (rd1 (P := tM (Cx.par X)) r1 h1).imp fun xs H2 ⟨F2, s2, ds, r2, e2, v2, h2⟩ =>
    core_ok (P := tM (Cx.par X)) r2 h2 (.val (v1.ext e2) v2)
theorem sm_own (ha : SL X e ml) (hs : SM X es ms) (hst : starEach (e :: es) X.env = (false, eval e X.env) :: starEach es X.env := by rfl) : SM X (e :: es) (mMl ml ms) :=
  fun W tk => PA.imp (pa_cons (ha W tk) (hs W tk) hst) fun σv H Q ⟨B, F, σ, r0, h⟩ => (rd1 (P := tL (Cx.par X)) r0 h).imp fun x H1 ⟨F1, s1, dx, r1, e1, v1, h1⟩ => by
    obtain ⟨q, ev, f⟩ := v1
    subst ev
    obtain ⟨vs, hq, dv, rh⟩ := r1.hold f
    have nB : ¬ B.F q := fun z => f.nf (r1.f0 q z)
    have nw : B.w ≠ some q := fun z => by
      obtain ⟨ys, ez⟩ := r1.bw q z
      rw [f.nb] at ez
      cases ez
    refine ⟨B.hold q (.lst vs), F1, s1, rh, ?_⟩
    cases em : ms s1 with
    | bad =>
      rw [em] at h1
      exact h1.elim
    | err c fs t =>
      rw [em] at h1
      exact fun s G K dx C rr ex => h1 s G K dx C (Rel.unhold rr f.nb nB nw).1 ex
    | ok ss t =>
      rw [em] at h1
      intro ws F2 H2 r2 e2 tt
      obtain ⟨r3, hq3, nF, ns⟩ := Rel.unhold r2 f.nb nB nw
      have f3 : Free (Cx.par X) B F2 σv H2 t q dx := ⟨⟨vs, hq3, dv.ext e2⟩, nF, f.nb, ns⟩
      -- the others are new: none is q
      have go : ∀ {ws : List V} {ss : List Sl}, Tells (Cx.par X) (B.hold q (.lst vs)) F2 σv H2 t ws ss → Tells (Cx.par X) B F2 σv H2 t ws ss ∧ ∀ (k : Nat) (ys : List D), ss[k]? = some (Sl.own false ys) → ws[k]? ≠ some (.ref q) := by
        intro ws ss tl
        induction tl with
        | nil => exact ⟨.nil, fun k ys z => by simp at z⟩
        | val d1 _ ih =>
          refine ⟨.val d1 ih.1, fun k ys z => ?_⟩
          cases k with
          | zero => cases z
          | succ k => exact ih.2 k ys z
        | @own q' vs' xs' ss' f' hne _ ih =>
          have hn := hold_none f'.nb
          refine ⟨.own ⟨f'.at_, f'.nf, hn.1, f'.ns⟩ hne ih.1, fun k ys z y => ?_⟩
          cases k with
          | zero =>
            injection y with y
            injection y with y
            exact hn.2 y
          | succ k => exact ih.2 k ys z y
      obtain ⟨t3, no⟩ := go tt
      exact h1 _ F2 H2 r3 e2 (.own f3 no t3)
theorem Free.setVal {i : Nat} {o : Option V} {d : D} (f : Free p B F σv H σ q xs) : Free p B F (σv.set i o) H (σ.set i (.val d)) q xs := by
  refine ⟨f.at_, f.nf, f.nb, fun k b ys e => ?_⟩
  by_cases hk : i = k
  · subst hk
    rw [List.getElem?_set] at e
    simp only [if_true] at e
    split at e <;> cases e
  · rw [List.getElem?_set_ne hk] at e
    rw [List.getElem?_set_ne hk]
    exact f.ns k b ys e
theorem Free.setOwn {i : Nat} {q' : Addr} {zs : List D} (f : Free p B F σv H σ q xs) (hne : q' ≠ q) : Free p B F (σv.set i (some (.ref q'))) H (σ.set i (Sl.own false zs)) q xs := by
  refine ⟨f.at_, f.nf, f.nb, fun k b ys e z => ?_⟩
  by_cases hk : i = k
  · subst hk
    rw [List.getElem?_set] at z
    simp only [if_true] at z
    split at z
    · injection z with z
      injection z with z
      injection z with z
      exact hne z
    · cases z
  · rw [List.getElem?_set_ne hk] at e
    rw [List.getElem?_set_ne hk] at z
    exact f.ns k b ys e z
theorem Tells.setVal {i : Nat} {o : Option V} {d : D} {vs : List V} {ss : List Sl} (t : Tells p B F σv H σ vs ss) : Tells p B F (σv.set i o) H (σ.set i (.val d)) vs ss := by
  induction t with
  | nil => exact .nil
  | val h _ ih => exact .val h ih
  | own f n _ ih => exact .own f.setVal n ih
theorem Tells.setOwn {i : Nat} {q' : Addr} {zs : List D} {vs : List V} {ss : List Sl} (t : Tells p B F σv H σ vs ss) (hne : ∀ (k : Nat) (ys : List D), ss[k]? = some (Sl.own false ys) → vs[k]? ≠ some (.ref q')) :
    Tells p B F (σv.set i (some (.ref q'))) H (σ.set i (Sl.own false zs)) vs ss := by
  induction t with
  | nil => exact .nil
  | val h _ ih => exact .val h (ih fun k ys e => hne (k + 1) ys e)
  | own f n _ ih => exact .own (f.setOwn fun z => hne 0 _ rfl (by rw [z]; rfl)) n (ih fun k ys e => hne (k + 1) ys e)
/-- the first item goes into its slot -/
theorem Tells.step {i : Nat} {v : V} {vs : List V} {s : Sl} {ss : List Sl} (r : Rel p B F σv H σ) (t : Tells p B F σv H σ (v :: vs) (s :: ss)) : Rel p B F (σv.set i (some v)) H (σ.set i s) ∧ Tells p B F (σv.set i (some v)) H (σ.set i s) vs ss := by
  cases t with
  | val h t => exact ⟨r.set h, t.setVal⟩
  | own f n t => exact ⟨r.setOwn f, t.setOwn n⟩
theorem Tells.len {vs : List V} {ss : List Sl} (t : Tells p B F σv H σ vs ss) : vs.length = ss.length := by
  induction t with
  | nil => rfl
  | val _ _ ih => exact congrArg (· + 1) ih
  | own _ _ _ ih => exact congrArg (· + 1) ih
theorem ss_par2 {i j : Nat} {x y : Str} {a b : Expr} {px py pt : Pos} {kt k2 : Nat} {pt2 : Pos} (hc : X.calm = true) (hN : X.N.Nodup) (hi : X.N[i]? = some x) (hj : X.N[j]? = some y) (hij : i ≠ j)
    (hx : X.env.scope.names.lookup x = some .local) (hy : X.env.scope.names.lookup y = some .local) (ha : SM X [a, b] ms)
    (hw : swappedStores [.Tuple [.Name x px, .Name y py] kt pt] (.Tuple [a, b] k2 pt2) X.env = pure (some [x, y]))
    (hs : swapsWithSole [.Tuple [.Name x px, .Name y py] kt pt] (.Tuple [a, b] k2 pt2) pos.line X.env = pure false := by rfl) :
    SS X (.Assign [.Tuple [.Name x px, .Name y py] kt pt] (.Tuple [a, b] k2 pt2) pos) (mPar2 i j ms) :=
  fun W tk => PS.imp (ps_par hc hN hi hj hij hx hy (ha W tk) hw hs) fun D σv H ⟨B, F, σ, r, h⟩ => (rd1S (P := tM (Cx.par X)) r h).imp fun vs H1 ⟨F1, s1, d, r1, e1, v1, h1⟩ => by
    match d, v1 with
    | [], _ => exact h1.elim
    | [_], _ => exact h1.elim
    | [s, t], v1 =>
      match vs, v1 with
      | [], v1 => exact absurd v1.len (by simp)
      | [_], v1 => exact absurd v1.len (by simp)
      | _ :: _ :: _ :: _, v1 => exact absurd v1.len (by simp)
      | [v, z], v1 =>
        obtain ⟨r2, t2⟩ := Tells.step (i := i) r1 v1
        obtain ⟨r3, _⟩ := Tells.step (i := j) r2 t2
        exact ⟨v, z, rfl, h1 _ F1 H1 r3 Ext.refl⟩
    | _ :: _ :: _ :: _, _ => exact h1.elim
theorem ss_par3 {i j l : Nat} {x y z : Str} {a b c : Expr} {px py pz pt : Pos} {kt k2 : Nat} {pt2 : Pos} (hc : X.calm = true) (hN : X.N.Nodup) (hi : X.N[i]? = some x) (hj : X.N[j]? = some y) (hl : X.N[l]? = some z) (hij : i ≠ j) (hil : i ≠ l) (hjl : j ≠ l)
    (hx : X.env.scope.names.lookup x = some .local) (hy : X.env.scope.names.lookup y = some .local) (hz : X.env.scope.names.lookup z = some .local) (ha : SM X [a, b, c] ms)
    (hw : swappedStores [.Tuple [.Name x px, .Name y py, .Name z pz] kt pt] (.Tuple [a, b, c] k2 pt2) X.env = pure (some [x, y, z]))
    (hs : swapsWithSole [.Tuple [.Name x px, .Name y py, .Name z pz] kt pt] (.Tuple [a, b, c] k2 pt2) pos.line X.env = pure false := by rfl) :
    SS X (.Assign [.Tuple [.Name x px, .Name y py, .Name z pz] kt pt] (.Tuple [a, b, c] k2 pt2) pos) (mPar3 i j l ms) :=
  fun W tk => PS.imp (ps_par3 hc hN hi hj hl hij hil hjl hx hy hz (ha W tk) hw hs) fun D σv H ⟨B, F, σ, r, h⟩ => (rd1S (P := tM (Cx.par X)) r h).imp fun vs H1 ⟨F1, s1, d, r1, e1, v1, h1⟩ => by
    match d, v1 with
    | [], _ => exact h1.elim
    | [_], _ => exact h1.elim
    | [_, _], _ => exact h1.elim
    | [s, t, u], v1 =>
      match vs, v1 with
      | [], v1 => exact absurd v1.len (by simp)
      | [_], v1 => exact absurd v1.len (by simp)
      | [_, _], v1 => exact absurd v1.len (by simp)
      | _ :: _ :: _ :: _ :: _, v1 => exact absurd v1.len (by simp)
      | [v, w, z], v1 =>
        obtain ⟨r2, t2⟩ := Tells.step (i := i) r1 v1
        obtain ⟨r3, t3⟩ := Tells.step (i := j) r2 t2
        obtain ⟨r4, _⟩ := Tells.step (i := l) r3 t3
        exact ⟨v, w, z, rfl, h1 _ F1 H1 r4 Ext.refl⟩
    | _ :: _ :: _ :: _ :: _, _ => exact h1.elim
end
/-! ### what is walked -/
/-- the walk J yields just these data, as long as what it walks stays -/
def Yld (p : Par) (F : Addr → Prop) (H : Hp) (J : It) (ds : List D) : Prop := ∀ F1 H1, Ext F H F1 H1 → Dom F1 H1 → ∀ i,
  (∀ d, ds[i]? = some d → J.go i H1 ∧ ∀ x H2, J.yld i H1 x H2 → ∃ F2, New F1 H1 F2 H2 ∧ DV p F2 H2 x d) ∧ (i = ds.length → J.stop i H1)
abbrev tI (p : Par) : Tel (List D) It := fun _ F _ H _ J ds => Yld p F H J ds
def SI (X : Cx) (tg iter : Expr) (m : M (List D)) : Prop := ∀ W, Takes X W → PI X tg iter (rdX (Cx.par X) W (tI (Cx.par X)) m)
theorem PI.imp {X : Cx} {tg e : Expr} {t t' : TI} (h : PI X tg e t) (i : ∀ σ H Q, t' σ H Q → t σ H Q) : PI X tg e t' := ⟨fun pins s σ H Q I q => h.run pins s σ H Q I (i σ H Q q)⟩
def mItems' (ma : M D) : M (List D) := fun σ => (ma σ).bind fun x s => R.opt (items? x) s
section
variable {X : Cx} {tg e a b : Expr} {body : List Stmt} {ma mb : M D} {mi ms : M (List D)} {g : G} {m1 : MS} {pos : Pos} {B : Ent} {F F' : Addr → Prop} {σ σ' : DSt} {σv : L2.St} {H H' : Hp} {p : Par} {W : WX} {q : Addr} {xs : List D}
theorem iter_lst {pins : List (Addr × Obj)} {s1 : Shared} {v : Addr} {vs : List V} {R : It → Hp → Prop} (J : Inv X pins σv H s1) (h : SqL X.K H v vs) (k : R (Itl X.K v) H) : wpAny (model X.prog X.w) X.A (pyIter (.ref v)) (PIE X pins σv tg R) X.xe s1 := by
  obtain ⟨us, ru, pu, _⟩ := J.list h
  refine wpAny_pyIter_list pu.isList ⟨s1.heap.objs.size, [s1.heap.objs.size], _, Itl X.K v, H, rfl, ?_, turn_list v _, ⟨_, Heap.get?_push_size _ rfl, rfl, rfl⟩, fun c hc => ?_, k⟩
  · exact J.kept (t' := s1.toks) fun c o e => Heap.get?_push_of_some _ e
  · rw [List.mem_singleton.mp hc]
    exact J.fpOk (Nat.le_refl _) (J.hok.fresh (Nat.le_refl _))
theorem iter_tup {pins : List (Addr × Obj)} {s1 : Shared} {v : Addr} {vs : List V} {R : It → Hp → Prop} (J : Inv X pins σv H s1) (h : SqT X.K H v vs) (k : R (Itt X.K v) H) : wpAny (model X.prog X.w) X.A (pyIter (.ref v)) (PIE X pins σv tg R) X.xe s1 := by
  obtain ⟨us, ru, pu, _⟩ := J.tuple h
  refine wpAny_pyIter_tuple pu ⟨s1.heap.objs.size, [s1.heap.objs.size], _, Itt X.K v, H, rfl, ?_, turn_tuple v _, ⟨_, Heap.get?_push_size _ rfl, rfl, rfl⟩, fun c hc => ?_, k⟩
  · exact J.kept (t' := s1.toks) fun c o e => Heap.get?_push_of_some _ e
  · rw [List.mem_singleton.mp hc]
    exact J.fpOk (Nat.le_refl _) (J.hok.fresh (Nat.le_refl _))
theorem yld_lst {a : Addr} {vs : List V} {ds : List D} (g1 : LR p.K F H a vs) (g2 : DVs p F H vs ds) : Yld p F H (Itl p.K a) ds := fun F2 H2 x2 d2 i => by
  refine ⟨fun d e => ?_, fun e => ?_⟩
  · obtain ⟨v, ev, dv⟩ := g2.get e
    refine ⟨⟨vs, v, (g1.ext x2).sq, ev⟩, fun x H3 ⟨eh, y⟩ => ⟨F2, by rw [eh]; exact New.refl d2, ?_⟩⟩
    subst eh
    have z := y vs (g1.ext x2).sq
    rw [ev] at z
    cases z
    exact dv.ext x2
  · exact ⟨vs, (g1.ext x2).sq, by rw [e, g2.length]; exact Nat.le_refl _⟩
theorem yld_tup {a : Addr} {vs : List V} {ds : List D} (g1 : SqT p.K H a vs) (g2 : DVs p F H vs ds) : Yld p F H (Itt p.K a) ds := fun F2 H2 x2 d2 i => by
  refine ⟨fun d e => ?_, fun e => ?_⟩
  · obtain ⟨v, ev, dv⟩ := g2.get e
    refine ⟨⟨vs, v, sqT_ext x2 g1, ev⟩, fun x H3 ⟨eh, y⟩ => ⟨F2, by rw [eh]; exact New.refl d2, ?_⟩⟩
    subst eh
    have z := y vs (sqT_ext x2 g1)
    rw [ev] at z
    cases z
    exact dv.ext x2
  · exact ⟨vs, sqT_ext x2 g1, by rw [e, g2.length]; exact Nat.le_refl _⟩
/-- a list or a tuple -/
theorem si_seq (he : SE X e ma) : SI X tg e (mItems' ma) := fun W tk => by
  refine ⟨fun pins s σv H R I ⟨B, F, σ, r0, h⟩ => ?_⟩
  refine thn ((he W tk).run pins s σv H (fun v H1 => ∃ a, v = .ref a ∧ ((∃ vs, SqL X.K H1 a vs ∧ R (Itl X.K a) H1) ∨ (∃ vs, SqT X.K H1 a vs ∧ R (Itt X.K a) H1))) I ?_) fun v s1 hv => ?_
  · refine (rd1 (P := tD (Cx.par X)) r0 h).imp fun v H1 ⟨F1, s1, d, r1, e1, v1, h1⟩ => ?_
    obtain ⟨ds, hd, h1⟩ := core_opt (P := tI (Cx.par X)) h1
    cases v1 with
    | @lst a vs ds' g1 g2 =>
      cases hd
      exact ⟨a, rfl, .inl ⟨vs, g1.sq, core_ok (P := tI (Cx.par X)) r1 h1 (yld_lst g1 g2)⟩⟩
    | @tup a vs ds' g1 g2 =>
      cases hd
      exact ⟨a, rfl, .inr ⟨vs, g1, core_ok (P := tI (Cx.par X)) r1 h1 (yld_tup g1 g2)⟩⟩
    | non => cases hd
    | bl b => cases hd
    | int i => cases hd
    | str x => cases hd
    | gl h => cases hd
  · obtain ⟨x, H1, I1, r1, a, ev, q⟩ := hv
    subst ev
    cases r1
    rcases q with ⟨vs, hs, hR⟩ | ⟨vs, hs, hR⟩
    · exact iter_lst I1 hs hR
    · exact iter_tup I1 hs hR
/-! ranges -/
def rngs (a b : Int) : List D := (List.range (b - a).toNat).map fun (i : Nat) => D.int (a + i)
def okR (a b : Int) : Prop := -(2 ^ 62) ≤ a ∧ a < 2 ^ 62 ∧ -(2 ^ 62) ≤ b ∧ b < 2 ^ 62
noncomputable instance (a b : Int) : Decidable (okR a b) := Classical.propDecidable _
noncomputable def rng1? : List D → Option (List D)
  | [.int n] => if okR 0 n then some (rngs 0 n) else none
  | _ => none
noncomputable def rng2? : List D → Option (List D)
  | [.int a, .int b] => if okR a b then some (rngs a b) else none
  | _ => none
def mIt (f : List D → Option (List D)) (ms : M (List D)) : M (List D) := fun σ => (ms σ).bind fun ds s => R.opt (f ds) s
theorem rngs_get {a b : Int} {i : Nat} : (rngs a b)[i]? = if i < (b - a).toNat then some (D.int (a + i)) else none := by
  unfold rngs
  rw [List.getElem?_map]
  by_cases h : i < (b - a).toNat
  · rw [if_pos h, List.getElem?_range h]
    rfl
  · rw [if_neg h, List.getElem?_eq_none (by rw [List.length_range]; omega)]
    rfl
theorem yld_rng {a b : Int} : Yld p F H (Itr a (b - a).toNat) (rngs a b) := fun F2 H2 x2 d2 i => by
  rw [rngs_get]
  refine ⟨fun d e => ?_, fun e => ?_⟩
  · by_cases h : i < (b - a).toNat
    · rw [if_pos h] at e
      cases e
      exact ⟨h, fun x H3 ⟨eh, y⟩ => ⟨F2, by rw [eh]; exact New.refl d2, by rw [y, eh]; exact .int _⟩⟩
    · rw [if_neg h] at e
      cases e
  · have : (rngs a b).length = (b - a).toNat := by unfold rngs; rw [List.length_map, List.length_range]
    show (b - a).toNat ≤ i
    omega
theorem si_rng1 {q1 : Pos} (hg : Gl X "range") (hm : X.mg "range" = none) (ha : SA X [a] ms) (hs : starEach [a] X.env = [(false, eval a X.env)] := by rfl) : SI X tg (.Call (.Name "range" q1) [a] [] pos) (mIt rng1? ms) :=
  fun W tk => PI.imp (pi_range1 hg hm (ha W tk) hs) fun σv H R ⟨B, F, σ, r0, h⟩ => (rd1 (P := tA (Cx.par X)) r0 h).imp fun vs H1 ⟨F1, s1, ds, r1, e1, v1, h1⟩ => by
    obtain ⟨xs, hx, h1⟩ := core_opt (P := tI (Cx.par X)) h1
    unfold rng1? at hx
    split at hx
    · split at hx
      · rename_i n hn
        cases hx
        cases v1 with
        | cons g1 g2 =>
          cases g2
          cases g1
          refine ⟨n, rfl, hn.2.2.1, hn.2.2.2, ?_⟩
          have z := core_ok (P := tI (Cx.par X)) r1 h1 (yld_rng (p := Cx.par X) (F := F1) (H := H1) (a := 0) (b := n))
          rw [Int.sub_zero] at z
          exact z
      · cases hx
    · cases hx
theorem si_rng2 {q1 : Pos} (hg : Gl X "range") (hm : X.mg "range" = none) (ha : SA X [a, b] ms) (hs : starEach [a, b] X.env = [(false, eval a X.env), (false, eval b X.env)] := by rfl) (hs2 : starEach [b] X.env = [(false, eval b X.env)] := by rfl) :
    SI X tg (.Call (.Name "range" q1) [a, b] [] pos) (mIt rng2? ms) :=
  fun W tk => PI.imp (pi_range2 hg hm (ha W tk) hs hs2) fun σv H R ⟨B, F, σ, r0, h⟩ => (rd1 (P := tA (Cx.par X)) r0 h).imp fun vs H1 ⟨F1, s1, ds, r1, e1, v1, h1⟩ => by
    obtain ⟨xs, hx, h1⟩ := core_opt (P := tI (Cx.par X)) h1
    unfold rng2? at hx
    split at hx
    · split at hx
      · rename_i n m hn
        cases hx
        cases v1 with
        | cons g1 g2 =>
          cases g2 with
          | cons g2 g3 =>
            cases g3
            cases g1
            cases g2
            exact ⟨n, m, rfl, hn, core_ok (P := tI (Cx.par X)) r1 h1 yld_rng⟩
      · cases hx
    · cases hx
/-! enumerate of a list; enumerate(zip(..)) of tuples -/
def enums (ds : List D) : List D := ds.zipIdx.map fun (d, (i : Nat)) => D.tup [.int i, d]
def enum? : List D → Option (List D)
  | [.lst xs] => some (enums xs)
  | _ => none
theorem enums_get {ds : List D} {i : Nat} : (enums ds)[i]? = (ds[i]?).map fun d => D.tup [.int i, d] := by
  unfold enums
  rw [List.getElem?_map, List.getElem?_zipIdx]
  cases ds[i]? with
  | none => rfl
  | some d =>
    show some (D.tup [.int ((0 + i : Nat) : Int), d]) = some (D.tup [.int (i : Int), d])
    rw [Nat.zero_add]
theorem enums_length {ds : List D} : (enums ds).length = ds.length := by
  unfold enums
  rw [List.length_map, List.length_zipIdx]
theorem yld_enum {a : Addr} {vs : List V} {ds : List D} (g1 : LR p.K F H a vs) (g2 : DVs p F H vs ds) : Yld p F H (Ite p.K a) (enums ds) := fun F2 H2 x2 d2 i => by
  rw [enums_get, enums_length]
  refine ⟨fun d e => ?_, fun e => ?_⟩
  · obtain ⟨d0, e0, e1⟩ := Option.map_eq_some_iff.mp e
    subst e1
    obtain ⟨v, ev, dv⟩ := g2.get e0
    refine ⟨⟨vs, v, (g1.ext x2).sq, ev⟩, fun x H3 y => ?_⟩
    obtain ⟨T, x1, e3, hT, e4, e5⟩ := y
    subst e3
    have z := e5 vs (g1.ext x2).sq
    rw [ev] at z
    cases z
    have n : New F2 H2 F2 (upd H2 T (.tup [.int (i : Nat), v])) := New.tup d2 hT
    refine ⟨F2, by rw [e4]; exact n, ?_⟩
    rw [e4]
    exact .tup (.inl (.inl upd_same)) (.cons (.int _) (.cons ((dv.ext x2).ext (n.ext d2)) .nil))
  · exact ⟨vs, (g1.ext x2).sq, by rw [e, g2.length]; exact Nat.le_refl _⟩
theorem si_enum {es : List Expr} {kk : Nat} {q1 tpos : Pos} (hg : Gl X "enumerate") (hm : X.mg "enumerate" = none) (ha : SA X [a] ms) (hs : starEach [a] X.env = [(false, eval a X.env)] := by rfl) :
    SI X (.Tuple es kk tpos) (.Call (.Name "enumerate" q1) [a] [] pos) (mIt enum? ms) :=
  fun W tk => PI.imp (pi_enum hg hm (ha W tk) hs) fun σv H R ⟨B, F, σ, r0, h⟩ => (rd1 (P := tA (Cx.par X)) r0 h).imp fun vs H1 ⟨F1, s1, ds, r1, e1, v1, h1⟩ => by
    obtain ⟨xs, hx, h1⟩ := core_opt (P := tI (Cx.par X)) h1
    unfold enum? at hx
    split at hx
    · cases hx
      cases v1 with
      | cons g1 g2 =>
        cases g2
        cases g1 with
        | @lst q vs' _ g3 g4 => exact ⟨q, vs', rfl, g3.sq, core_ok (P := tI (Cx.par X)) r1 h1 (yld_enum g3 g4)⟩
    · cases hx
def ezs (xs ys : List D) : List D := (xs.zip ys).zipIdx.map fun ((x, y), (i : Nat)) => D.tup [.int i, .tup [x, y]]
def ez? : List D → Option (List D)
  | [.tup xs, .tup ys] => some (ezs xs ys)
  | _ => none
theorem ezs_get {xs ys : List D} {i : Nat} : (ezs xs ys)[i]? = ((xs.zip ys)[i]?).map fun (x, y) => D.tup [.int i, .tup [x, y]] := by
  unfold ezs
  rw [List.getElem?_map, List.getElem?_zipIdx]
  cases (xs.zip ys)[i]? with
  | none => rfl
  | some d =>
    obtain ⟨x, y⟩ := d
    show some (D.tup [.int ((0 + i : Nat) : Int), .tup [x, y]]) = some (D.tup [.int (i : Int), .tup [x, y]])
    rw [Nat.zero_add]
theorem ezs_length {xs ys : List D} : (ezs xs ys).length = min xs.length ys.length := by
  unfold ezs
  rw [List.length_map, List.length_zipIdx, List.length_zip]
theorem yld_ez {a b : Addr} {vs ws : List V} {xs ys : List D} (g1 : SqT p.K H a vs) (g2 : DVs p F H vs xs) (g3 : SqT p.K H b ws) (g4 : DVs p F H ws ys) : Yld p F H (DLz.Itez p.K a b) (ezs xs ys) := fun F2 H2 x2 d2 i => by
  rw [ezs_get, ezs_length]
  refine ⟨fun d e => ?_, fun e => ?_⟩
  · obtain ⟨⟨x, y⟩, e0, e1⟩ := Option.map_eq_some_iff.mp e
    subst e1
    rw [List.getElem?_zip_eq_some] at e0
    obtain ⟨v, ev, dv⟩ := g2.get e0.1
    obtain ⟨u, eu, du⟩ := g4.get e0.2
    refine ⟨⟨vs, ws, v, u, sqT_ext x2 g1, sqT_ext x2 g3, ev, eu⟩, fun x' H3 y' => ?_⟩
    obtain ⟨T, q, a1, a2, e3, hq, hT, e4, e5, e6⟩ := y'
    subst e3
    have z1 := e5 vs (sqT_ext x2 g1)
    rw [ev] at z1
    cases z1
    have z2 := e6 ws (sqT_ext x2 g3)
    rw [eu] at z2
    cases z2
    have n1 : New F2 H2 F2 (upd H2 q (.tup [v, u])) := New.tup d2 hq
    have n2 : New F2 (upd H2 q (.tup [v, u])) F2 (upd (upd H2 q (.tup [v, u])) T (.tup [.int (i : Nat), .ref q])) := New.tup n1.dom hT
    have n := n1.trans n2
    refine ⟨F2, by rw [e4]; exact n, ?_⟩
    rw [e4]
    refine .tup (.inl (.inl upd_same)) (.cons (.int _) (.cons (.tup (.inl (.inl ?_)) (.cons ((dv.ext x2).ext (n.ext d2)) (.cons ((du.ext x2).ext (n.ext d2)) .nil))) .nil))
    exact n2.keep _ _ upd_same
  · have l1 := g2.length
    have l2 := g4.length
    refine ⟨vs, ws, sqT_ext x2 g1, sqT_ext x2 g3, ?_, ?_, ?_⟩ <;> omega
theorem si_ez {es : List Expr} {kk : Nat} {q1 q2 r1 r2 tpos : Pos} (hg : Gl X "enumerate") (hm : X.mg "enumerate" = none) (hgz : Gl X "zip") (hmz : X.mg "zip" = none) (ha : SA X [a, b] ms)
    (na : starEach [.Call (.Name "zip" q1) [a, b] [] q2] X.env = (false, eval (.Call (.Name "zip" q1) [a, b] [] q2) X.env) :: starEach [] X.env := by rfl)
    (hs : starEach [a, b] X.env = (false, eval a X.env) :: starEach [b] X.env := by rfl) (hpl : (backTo q2 (starEach [b] X.env)).any (·.1) = false := by rfl) :
    SI X (.Tuple es kk tpos) (.Call (.Name "enumerate" r1) [.Call (.Name "zip" q1) [a, b] [] q2] [] r2) (mIt ez? ms) :=
  fun W tk => PI.imp (DLz.pi_ez hg hm hgz hmz (ha W tk) na hs hpl) fun σv H R ⟨B, F, σ, r0, h⟩ => (rd1 (P := tA (Cx.par X)) r0 h).imp fun vs H1 ⟨F1, s1, ds, r1, e1, v1, h1⟩ => by
    obtain ⟨xs, hx, h1⟩ := core_opt (P := tI (Cx.par X)) h1
    unfold ez? at hx
    split at hx
    · cases hx
      cases v1 with
      | cons g1 g2 =>
        cases g2 with
        | cons g2 g3 =>
          cases g3
          cases g1 with
          | @tup q1 vs1 _ g3 g4 =>
            cases g2 with
            | @tup q2 vs2 _ g5 g6 => exact ⟨q1, q2, vs1, vs2, rfl, g3, g5, core_ok (P := tI (Cx.par X)) r1 h1 (yld_ez g3 g4 g5 g6)⟩
    · cases hx
/-! the loop -/
theorem ss_for (hp : PassesOwn (model X.prog X.w) X.A X.env X.xe) (hc : X.calm = true) (hi : SI X tg e mi) (hg : SG X tg g) (hb : SSs X body m1) (hs : ∀ x, foldedSetIterable e X.env x = pure x := by intro _; rfl) :
    SS X (.For tg e body [] pos) (mFor mi g m1) :=
  fun W tk => PS.imp (ps_for hp hc (hi W tk) hg (hb W tk) hs) fun D σv H ⟨B, F, σ, r0, h⟩ => (rd1S (P := tI (Cx.par X)) r0 h).imp fun J H1 ⟨F1, s1, ds, r1, e1, v1, h1⟩ => by
    refine ⟨fun i m σv' H' => m = ds.length - i ∧ i ≤ ds.length ∧ ∃ F' σ', Rel (Cx.par X) B F' σv' H' σ' ∧ Ext F1 H1 F' H' ∧ coreS (Cx.par X) W D B F' σv' H' (forM' g m1 (ds.drop i) σ'), ⟨ds.length, (Nat.sub_zero _).symm, Nat.zero_le _, F1, s1, r1, Ext.refl, h1⟩, ?_⟩
    rintro i m σv' H' ⟨hm, hle, F', σ', r', x', h'⟩
    have yl := v1 F' H' x' r'.dom i
    by_cases hlt : i < ds.length
    · have ed : ds[i]? = some ds[i] := List.getElem?_eq_getElem hlt
      obtain ⟨go, yld⟩ := yl.1 _ ed
      have edr : ds.drop i = ds[i] :: ds.drop (i + 1) := List.drop_eq_getElem_cons hlt
      rw [edr] at h'
      refine .inr ⟨go, fun σ2 H2 => ∃ F2 s2, Rel (Cx.par X) B F2 σ2 H2 s2 ∧ Ext F1 H1 F2 H2 ∧ coreS (Cx.par X) W D B F2 σ2 H2 (forM' g m1 (ds.drop (i + 1)) s2), fun σ2 H2 q => ⟨ds.length - (i + 1), by omega, rfl, hlt, q⟩, fun x H2 y => ?_⟩
      obtain ⟨F2, n2, dv⟩ := yld x H2 y
      have r2 := r'.new n2
      have x2 := n2.ext r'.dom
      have h2 := coreS.mono (σv' := σv') x2 h'
      unfold forM' at h2
      cases eg : g ds[i] σ' with
      | none =>
        rw [eg] at h2
        exact h2.elim
      | some s2 =>
        rw [eg] at h2
        refine ⟨B, F2, σ', ds[i], s2, r2, dv, eg, fun σv3 r3 => ⟨B, F2, s2, r3, ?_⟩⟩
        have h2 : coreS (Cx.par X) W D B F2 σv' H2 (match m1 s2 with | .nx t => forM' g m1 (ds.drop (i + 1)) t | .cont t => forM' g m1 (ds.drop (i + 1)) t | .brk t => .nx t | .ret r t => .ret r t | .err c fs t => .err c fs t | .bad => .bad) := h2
        have xx := x'.trans x2
        cases eb : m1 s2 with
        | nx t =>
          rw [eb] at h2
          exact fun σv4 F4 H4 r4 x4 => ⟨F4, t, r4, xx.trans x4, coreS.mono x4 h2⟩
        | cont t =>
          rw [eb] at h2
          exact fun σv4 F4 H4 r4 x4 => ⟨F4, t, r4, xx.trans x4, coreS.mono x4 h2⟩
        | brk t =>
          rw [eb] at h2
          exact fun σv4 F4 H4 r4 x4 => h2 σv4 F4 H4 r4 x4
        | ret d t =>
          rw [eb] at h2
          exact fun v σv4 F4 H4 r4 x4 q4 => h2 v σv4 F4 H4 r4 x4 q4
        | err c fs t =>
          rw [eb] at h2
          exact h2
        | bad =>
          rw [eb] at h2
          exact h2.elim
    · have ei : i = ds.length := by omega
      refine .inl ⟨yl.2 ei, ?_⟩
      rw [ei, List.drop_length] at h'
      exact h' σv' F' H' r' Ext.refl
end
end DL
end

section
set_option Elab.async false
set_option linter.all false
set_option maxRecDepth 100000
set_option maxHeartbeats 1000000
set_option autoImplicit false
/-! DL8: defs: what they promise, their calls. -/
namespace DL
open PySem L2
/-! ### a def that wants no guard around (repr asks for it) -/
structure FnG (P : Program) (w : World) (K : PySem.W.Frag) (mg : Str → Option Value) (base : Heap) (k : Nat) (f : Addr) (fd : FuncData) (ps : List Str) (sp : Sp) : Prop where
  len : ∀ vs H Q E, sp vs H Q E → vs.length = ps.length
  run : ∀ (A : Around) (outer : List Env) (s : Shared) (H : Hp) (args : Args) (us : List Value) (vs : List V) (Q : VK) (E : XK), Room k A → A.guards = some [] → Env0 P w K mg base A outer s H → BindsTo s fd args (ps.zip us) → Vals vs us → sp vs H Q E →
    codeAny (model P w) A (.call (.ref f) args) (CR (L2.CX P w) outer P w H s Q E) s
section
variable {P : Program} {w : World} {K : PySem.W.Frag} {mg : Str → Option Value} {base : Heap} {k : Nat} {f : Addr} {fd : FuncData} {ps N : List Str} {sp : Sp}
theorem FnG.mono {j : Nat} (F : FnG P w K mg base j f fd ps sp) (h : j ≤ k) : FnG P w K mg base k f fd ps sp := ⟨F.len, fun A outer s H args us vs Q E hr => F.run A outer s H args us vs Q E (hr.mono h)⟩
theorem FnG.of (F : FnOk P w K mg base (L2.CX P w) k f fd ps sp) : FnG P w K mg base k f fd ps sp := ⟨F.len, fun A outer s H args us vs Q E hr _ => F.run A outer s H args us vs Q E hr⟩
/-- a def by its body -/
theorem fng_of {name qual : Str} {params : Arguments} {body : List Stmt} {scope : Scope} {dV kV doc pm cdv ct oc : Value} {an od : Option Addr} {osl : Array (Option Value)}
    (lk : K.lookup f = some ⟨oc, od, .func (PySem.W.fnOf name qual params body scope dV kV doc pm an cdv ct), osl⟩) (hcd : PySem.W.codeIn K cdv qual = true) (S : FnScope N ps scope) (len : ∀ vs H Q E, sp vs H Q E → vs.length = ps.length)
    (hb : ∀ (A : Around) (outer : List Env) (s : Shared) (H : Hp) (vs : List V) (Q : VK) (E : XK), Room k (A.deeper (PyProof.Rows.envOfC qual scope s.heap.objs.size f cdv)) → A.guards = some [] → sp vs H Q E →
      ∃ t, PSs (cxOf (L2.CX P w) P w K mg base N qual scope f cdv A outer s H E) body t ∧ t { nx := fun _ H' => Q .non H', rt := Q } (L2.start N vs) H) :
    FnG P w K mg base (k + 1) f (PySem.W.fnOf name qual params body scope dV kV doc pm an cdv ct) ps sp := by
  refine ⟨len, fun A outer st H args us vs Q E room gd ent bt rel want => ?_⟩
  have hlen := len vs H Q E want
  have KI : K.In st.heap := ent.mod.kin.keeps fun b o q => (ent.bs b o q).1
  have lim : st.heap.NoLimit := ent.mod.nolimit.keeps fun b o q => (ent.bs b o q).1
  have kinds : ∀ y ∈ ps.zip us, scope.names.lookup y.1 = some .local ∨ (scope.names.lookup y.1 = some .cell ∧ ((cellsFrom (st.heap.objs.size + 1) scope.names []).lookup y.1).isSome = true) := fun y hy =>
    (S.par y.1 (List.of_mem_zip (a := y.1) (b := y.2) hy).1).imp id fun q => ⟨q, PySem.W.cellsFrom_some _ _ _ (.inl q)⟩
  refine codeAny_call_function room.depth (KI _ _ lk) rfl S.co S.gen rfl (PySem.W.codeRec_of KI hcd) (bt _ _ _ _ (wpAny_newFunctionEnv_cells S.kind kinds fun env he s1 ic => ?_))
  subst he
  refine ⟨lim.keeps ic.toInCall.keep, codeAny_func ?_⟩
  obtain ⟨t, der, hold⟩ := hb A outer st H vs Q E (room.deeper _) gd want
  have J : Inv (cxOf (L2.CX P w) P w K mg base N qual scope f cdv A outer st H E) [] (L2.start N vs) H s1 := inv_start S room.hd ent hlen rel ic
  refine wpAny_mono (der.run [] s1 (L2.start N vs) H _ J hold) (fun fl s2 q => ?_) fun _ _ q => q
  cases fl with
  | ret u =>
    obtain ⟨v, _, H', J2, rv, q⟩ := q
    exact ⟨v, H', J2.os, J2.bare, J2.base, J2.hok, rv, q⟩
  | next =>
    obtain ⟨_, H', J2, q⟩ := q
    exact ⟨.non, H', J2.os, J2.bare, J2.base, J2.hok, rfl, q⟩
  | brk =>
    obtain ⟨_, _, _, q⟩ := q
    exact q.elim
  | cont =>
    obtain ⟨_, _, _, q⟩ := q
    exact q.elim
end
section
variable {X : Cx} {k : Nat} {f : Addr} {fd : FuncData} {ps ks : List Str} {sp : Sp} {dvs : List V} {ds : List Value} {E : St → XK} {x : Str} {q pos : Pos} {e : Expr} {es : List Expr} {kws : List Keyword} {t tk : TA} {g : List Value → List Value → List Value} {gV : List V → List V → List V}
theorem runG {pins : List (Addr × Obj)} {σ : L2.St} {H : Hp} {s : Shared} {Q : VK} {us : List Value} {vs : List V} {args : Args} (F : FnG X.prog X.w X.K X.mg X.base k f fd ps sp) (hr : Room k X.A) (hgd : X.A.guards = some []) (hx : PassesAt (L2.CX X.prog X.w) X σ (E σ))
    (I : Inv X pins σ H s) (hb : BindsTo s fd args (ps.zip us)) (r : Vals vs us) (h : sp vs H Q (E σ)) : codeAny (model X.prog X.w) X.A (.call (.ref f) args) (fun r s' => match r with | .ok (.ret u) => EP X pins σ Q u s' | .ok _ => False | .error e => X.xe e s') s := by
  refine codeAny_mono (F.run X.A X.stack s H args us vs Q (E σ) hr hgd I.env0 hb r h) fun r s' hq => ?_
  cases r with
  | error er => exact hx pins H s er s' I hq
  | ok fl =>
    cases fl with
    | ret u => exact I.after hq
    | next => exact hq
    | brk => exact hq
    | cont => exact hq
theorem pe_callG (F : FnG X.prog X.w X.K X.mg X.base k f fd ps sp) (hr : Room k X.A) (hgd : X.A.guards = some []) (hg : Gl X x) (hm : X.mg x = some (.ref f)) (hk : PySem.W.keepIn X.K (.ref f) = true) (hb : Binds X.K fd ps ds) (hd : Vals dvs ds)
    (hx : ∀ σ, PassesAt (L2.CX X.prog X.w) X σ (E σ)) (ha : PA X (e :: es) t) (hdb : (x == ("__debug__" : Str)) = false := by decide) (he : starEach (e :: es) X.env = (false, eval e X.env) :: starEach es X.env := by rfl) (hpl : (backTo pos (starEach es X.env)).any (·.1) = false := by rfl) :
    PE X (.Call (.Name x q) (e :: es) [] pos) (tCallSD sp dvs E t) := by
  refine ⟨fun pins s σ H Q I h => wpAny_Call_Name_kw (ld_glob I hg hm ?_ hdb)⟩
  refine PySem.W.callWith_K (h₀ := X.base) I.ok.mod.kin hk (thn (ha.run pos pins s σ H _ I h) fun us s1 hv => ?_) he hpl
  obtain ⟨vs, H1, I1, r, w⟩ := hv
  have r2 : Vals (vs ++ dvs) (us ++ ds) := r.append hd
  refine ⟨I1.kIn, wpAny_call (codeAny_mono (runG F hr hgd (hx σ) I1 (hb s1 us I1.kIn (by rw [← r2.length]; exact F.len _ _ _ _ w)) r2 w) fun r s2 hq => ?_)⟩
  cases r with
  | error er => exact hq
  | ok fl => cases fl <;> exact hq
theorem pe_callG0 (F : FnG X.prog X.w X.K X.mg X.base k f fd ps sp) (hr : Room k X.A) (hgd : X.A.guards = some []) (hg : Gl X x) (hm : X.mg x = some (.ref f)) (hk : PySem.W.keepIn X.K (.ref f) = true) (hb : Binds X.K fd ps ds) (hd : Vals dvs ds)
    (hx : ∀ σ, PassesAt (L2.CX X.prog X.w) X σ (E σ)) (hdb : (x == ("__debug__" : Str)) = false := by decide) : PE X (.Call (.Name x q) [] [] pos) (tCallSD sp dvs E tNil) := by
  refine ⟨fun pins s σ H Q I h => wpAny_Call_Name_kw (ld_glob I hg hm (PySem.W.callWith_K0 I.kIn hk ?_) hdb)⟩
  have w : sp ([] ++ dvs) H Q (E σ) := h
  have r2 : Vals ([] ++ dvs) ([] ++ ds) := hd
  refine wpAny_call (codeAny_mono (runG F hr hgd (hx σ) I (hb s [] I.kIn (by rw [← r2.length]; exact F.len _ _ _ _ w)) r2 w) fun r s2 hq => ?_)
  cases r with
  | error er => exact hq
  | ok fl => cases fl <;> exact hq
end
/-! ### promises in data -/
/-- what is handed back, against the heap at the entry -/
def RtR (p : Par) (H : Hp) (F' : Addr → Prop) (H' : Hp) (v : V) : Rt → Prop
  | .v d => DV p F' H' v d
  | .l xs => ∃ q ws, v = .ref q ∧ H q = none ∧ H' q = some (.lst ws) ∧ DVs p F' H' ws xs ∧ ¬ F' q
def FSp (p : Par) (f : List D → R0 Rt) : Sp := fun vs H Q E => ∃ F ds, Dom F H ∧ DVs p F H vs ds ∧ match f ds with
  | .ok r => ∀ v F' H', New F H F' H' → RtR p H F' H' v r → Q v H'
  | .err c fs => ∀ F' H' dx C, New F H F' H' → p.mg c = some (.ref C) → XdR p F' H' dx fs → E (.ref C) (some dx) H'
  | .bad => False
/-- .. whose first argument is a list that it changes -/
def FSpB (p : Par) (f : List D → List D → R0 (Rt × List D)) : Sp := fun vs H Q _ => ∃ F a vr ws xs ds, vs = .ref a :: vr ∧ Dom F H ∧ H a = some (.lst ws) ∧ ¬ F a ∧ DVs p F H ws xs ∧ DVs p F H vr ds ∧ match f xs ds with
  | .ok (r, xs') => ∀ v F' H' ws', NewB a F H F' H' → H' a = some (.lst ws') → DVs p F' H' ws' xs' → ¬ F' a → RtR p H F' H' v r → Q v H'
  | _ => False
/-- a body's meaning as the def's: n parameters, l slots -/
def fbody (n l : Nat) (m : MS) (ds : List D) : R0 Rt := if ds.length = n then match m (ds.map Sl.val ++ List.replicate (l - n) Sl.no) with
  | .ret r _ => .ok r
  | .nx _ => .ok (.v .non)
  | .err c fs _ => .err c fs
  | _ => .bad else .bad
def own0? : DSt → Option (List D)
  | Sl.own true xs :: _ => some xs
  | _ => none
def fbodyB (n l : Nat) (m : MS) (xs ds : List D) : R0 (Rt × List D) := if ds.length + 1 = n then match m (Sl.own true xs :: ds.map Sl.val ++ List.replicate (l - n) Sl.no) with
  | .ret r σ => match own0? σ with
    | some xs' => .ok (r, xs')
    | none => .bad
  | .nx σ => match own0? σ with
    | some xs' => .ok (.v .non, xs')
    | none => .bad
  | _ => .bad else .bad
section
variable {p : Par} {B : Ent} {F F' : Addr → Prop} {σv : L2.St} {H H' : Hp} {σ : DSt}
theorem rel_start {N : List Str} {vs : List V} {ds : List D} (hd : Dom F H) (h : DVs p F H vs ds) : Rel p ⟨F, H, none⟩ F (L2.start N vs) H (ds.map Sl.val ++ List.replicate (N.length - ds.length) Sl.no) where
  len := by unfold L2.start; rw [List.length_append, List.length_append, List.length_map, List.length_map, List.length_replicate, List.length_replicate, h.length]
  dom := hd
  f0 := fun _ h => h
  nw := fun _ h => .inl h
  keep := fun _ _ h _ => h
  bw := fun a h => nomatch h
  wl := fun a h => nomatch h
  sl := fun i s e => by
    unfold L2.start
    by_cases hi : i < ds.length
    · rw [List.getElem?_append_left (by rw [List.length_map]; exact hi), List.getElem?_map] at e
      rw [List.getElem?_append_left (by rw [List.length_map, h.length]; exact hi), List.getElem?_map]
      obtain ⟨d, e1, e2⟩ := Option.map_eq_some_iff.mp e
      subst e2
      obtain ⟨v, e3, dv⟩ := h.get e1
      exact ⟨some v, by rw [e3]; rfl, v, rfl, dv⟩
    · rw [List.getElem?_append_right (by rw [List.length_map]; omega), List.getElem?_replicate] at e
      rw [List.getElem?_append_right (by rw [List.length_map, h.length]; omega), List.getElem?_replicate]
      rw [List.length_map] at e
      rw [List.length_map, h.length]
      split at e
      · rw [if_pos (by assumption)]
        cases e
        exact ⟨none, rfl, trivial⟩
      · cases e
  sep := fun i j b c xs ys _ h1 _ => by
    have : ∀ (i : Nat) (b : Bool) (xs : List D), (ds.map Sl.val ++ List.replicate (N.length - ds.length) Sl.no)[i]? ≠ some (Sl.own b xs) := fun i b xs e => by
      have hm := List.mem_of_getElem? e
      rcases List.mem_append.mp hm with z | z
      · obtain ⟨d, _, z⟩ := List.mem_map.mp z
        cases z
      · cases (List.mem_replicate.mp z).2
    exact absurd h1 (this i b xs)
theorem rel_startB {N : List Str} {a : Addr} {vs ws : List V} {xs ds : List D} (hd : Dom F H) (h : DVs p F H vs ds) (ha : H a = some (.lst ws)) (hf : ¬ F a) (hx : DVs p F H ws xs) :
    Rel p ⟨F, H, some a⟩ F (L2.start N (.ref a :: vs)) H (Sl.own true xs :: ds.map Sl.val ++ List.replicate (N.length - (ds.length + 1)) Sl.no) where
  len := by
    unfold L2.start
    simp only [List.length_append, List.length_map, List.length_replicate, List.length_cons, h.length]
  dom := hd
  f0 := fun _ h => h
  nw := fun _ h => .inl h
  keep := fun _ _ h _ => h
  bw := fun b h => by
    cases h
    exact ⟨ws, ha⟩
  wl := fun b h => by
    cases h
    exact ⟨⟨ws, ha⟩, hf⟩
  sl := fun i s e => by
    unfold L2.start
    cases i with
    | zero =>
      cases e
      exact ⟨_, rfl, a, ws, rfl, ha, hx, hf, rfl⟩
    | succ i =>
      rw [List.cons_append, List.getElem?_cons_succ] at e
      rw [List.map_cons, List.cons_append, List.getElem?_cons_succ]
      by_cases hi : i < ds.length
      · rw [List.getElem?_append_left (by rw [List.length_map]; exact hi), List.getElem?_map] at e
        rw [List.getElem?_append_left (by rw [List.length_map, h.length]; exact hi), List.getElem?_map]
        obtain ⟨d, e1, e2⟩ := Option.map_eq_some_iff.mp e
        subst e2
        obtain ⟨v, e3, dv⟩ := h.get e1
        exact ⟨some v, by rw [e3]; rfl, v, rfl, dv⟩
      · rw [List.getElem?_append_right (by rw [List.length_map]; omega), List.getElem?_replicate] at e
        rw [List.getElem?_append_right (by rw [List.length_map, h.length]; omega), List.getElem?_replicate]
        rw [List.length_map] at e
        rw [List.length_map, List.length_cons, h.length]
        split at e
        · rw [if_pos (by assumption)]
          cases e
          exact ⟨none, rfl, trivial⟩
        · cases e
  sep := fun i j b c ys zs hne h1 h2 => by
    have no : ∀ (i : Nat) (b : Bool) (ys : List D), (Sl.own true xs :: ds.map Sl.val ++ List.replicate (N.length - (ds.length + 1)) Sl.no)[i]? = some (Sl.own b ys) → i = 0 := fun i b ys e => by
      cases i with
      | zero => rfl
      | succ i =>
        rw [List.cons_append, List.getElem?_cons_succ] at e
        have hm := List.mem_of_getElem? e
        rcases List.mem_append.mp hm with z | z
        · obtain ⟨d, _, z⟩ := List.mem_map.mp z
          cases z
        · cases (List.mem_replicate.mp z).2
    exact absurd ((no i b ys h1).trans (no j c zs h2).symm) hne
/-- at the end: only new objects came -/
theorem Rel.ends (r : Rel p ⟨F, H, none⟩ F' σv H' σ) : New F H F' H' := ⟨fun a o h => r.keep a o h (fun z => nomatch z), r.f0, r.nw, r.dom⟩
theorem Rel.endsB {a : Addr} (r : Rel p ⟨F, H, some a⟩ F' σv H' σ) : NewB a F H F' H' := ⟨fun b o hb h => r.keep b o h (fun z => hb (by injection z with z; exact z.symm)), r.f0, r.nw, r.dom⟩
end
/-! ### a def by its body's meaning -/
section
variable {P : Program} {w : World} {K : PySem.W.Frag} {mg : Str → Option Value} {base : Heap} {k : Nat} {f : Addr} {fd : FuncData} {ps N : List Str}
theorem fnd {name qual : Str} {params : Arguments} {body : List Stmt} {scope : Scope} {dV kV doc pm cdv ct oc : Value} {an od : Option Addr} {osl : Array (Option Value)} {m : MS}
    (lk : K.lookup f = some ⟨oc, od, .func (PySem.W.fnOf name qual params body scope dV kV doc pm an cdv ct), osl⟩) (hcd : PySem.W.codeIn K cdv qual = true) (S : FnScope N ps scope)
    (hb : ∀ (A : Around) (outer : List Env) (s : Shared) (H : Hp) (E : XK), Room k (A.deeper (PyProof.Rows.envOfC qual scope s.heap.objs.size f cdv)) → A.guards = some [] → SSs (cxOf (L2.CX P w) P w K mg base N qual scope f cdv A outer s H E) body m) :
    FnG P w K mg base (k + 1) f (PySem.W.fnOf name qual params body scope dV kV doc pm an cdv ct) ps (FSp ⟨K, mg⟩ (fbody ps.length N.length m)) := by
  refine fng_of lk hcd S (fun vs H Q E h => ?_) fun A outer s H vs Q E hr hgd h => ?_
  · obtain ⟨F, ds, hd, dv, h⟩ := h
    unfold fbody at h
    rw [dv.length]
    by_cases hl : ds.length = ps.length
    · exact hl
    · rw [if_neg hl] at h
      exact h.elim
  · obtain ⟨F, ds, hd, dv, h⟩ := h
    unfold fbody at h
    by_cases hl : ds.length = ps.length
    · rw [if_pos hl] at h
      refine ⟨_, hb A outer s H E hr hgd (fun cls d _ H => E cls d H) (takes_of rfl rfl rfl rfl), ⟨F, H, none⟩, F, _, rel_start hd dv, ?_⟩
      rw [← hl] at h
      cases em : m (ds.map Sl.val ++ List.replicate (N.length - ds.length) Sl.no) with
      | nx t =>
        rw [em] at h
        exact fun σv' F' H' r' _ => h .non F' H' r'.ends .non
      | ret r t =>
        rw [em] at h
        refine fun v σv' F' H' r' _ q => h v F' H' r'.ends ?_
        cases r with
        | v d => exact q
        | l xs =>
          obtain ⟨a, ev, fr⟩ := q
          obtain ⟨ws, h1, h2⟩ := fr.at_
          exact ⟨a, ws, ev, fr.nb, h1, h2, fr.nf⟩
      | err c fs t =>
        rw [em] at h
        exact fun σv' F' H' dx C r' _ hc hx => h F' H' dx C r'.ends hc hx
      | brk t =>
        rw [em] at h
        exact h.elim
      | cont t =>
        rw [em] at h
        exact h.elim
      | bad =>
        rw [em] at h
        exact h.elim
    · rw [if_neg hl] at h
      exact h.elim
theorem own0_at {σ : DSt} {xs : List D} (h : own0? σ = some xs) : σ[0]? = some (Sl.own true xs) := by
  unfold own0? at h
  split at h
  · cases h
    rfl
  · cases h
theorem fndB {name qual : Str} {params : Arguments} {body : List Stmt} {scope : Scope} {dV kV doc pm cdv ct oc : Value} {an od : Option Addr} {osl : Array (Option Value)} {m : MS}
    (lk : K.lookup f = some ⟨oc, od, .func (PySem.W.fnOf name qual params body scope dV kV doc pm an cdv ct), osl⟩) (hcd : PySem.W.codeIn K cdv qual = true) (S : FnScope N ps scope)
    (hb : ∀ (A : Around) (outer : List Env) (s : Shared) (H : Hp) (E : XK), Room k (A.deeper (PyProof.Rows.envOfC qual scope s.heap.objs.size f cdv)) → A.guards = some [] → SSs (cxOf (L2.CX P w) P w K mg base N qual scope f cdv A outer s H E) body m) :
    FnG P w K mg base (k + 1) f (PySem.W.fnOf name qual params body scope dV kV doc pm an cdv ct) ps (FSpB ⟨K, mg⟩ (fbodyB ps.length N.length m)) := by
  refine fng_of lk hcd S (fun vs H Q E h => ?_) fun A outer s H vs Q E hr hgd h => ?_
  · obtain ⟨F, a, vr, ws, xs, ds, ev, hd, ha, hf, dx, dv, h⟩ := h
    subst ev
    unfold fbodyB at h
    rw [List.length_cons, dv.length]
    by_cases hl : ds.length + 1 = ps.length
    · exact hl
    · rw [if_neg hl] at h
      exact h.elim
  · obtain ⟨F, a, vr, ws, xs, ds, ev, hd, ha, hf, dx, dv, h⟩ := h
    subst ev
    unfold fbodyB at h
    by_cases hl : ds.length + 1 = ps.length
    · rw [if_pos hl] at h
      refine ⟨_, hb A outer s H E hr hgd (fun cls d _ H => E cls d H) (takes_of rfl rfl rfl rfl), ⟨F, H, some a⟩, F, _, rel_startB hd dv ha hf dx, ?_⟩
      rw [← hl] at h
      have last : ∀ {F' H' σv' t} {xs' : List D}, Rel ⟨K, mg⟩ ⟨F, H, some a⟩ F' σv' H' t → own0? t = some xs' → ∃ ws', H' a = some (.lst ws') ∧ DVs ⟨K, mg⟩ F' H' ws' xs' ∧ ¬ F' a := fun {F' H' σv' t xs'} r' e => by
        obtain ⟨a', ws', _, h2, h3, h4, h5⟩ := r'.lst (own0_at e)
        have h5 : some a = some a' := h5
        injection h5 with h5
        subst h5
        exact ⟨ws', h2, h3, h4⟩
      cases em : m (Sl.own true xs :: ds.map Sl.val ++ List.replicate (N.length - (ds.length + 1)) Sl.no) with
      | nx t =>
        rw [em] at h
        cases eo : own0? t with
        | none =>
          have h : (match (match own0? t with | some xs' => R0.ok (Rt.v .non, xs') | none => R0.bad) with | .ok (r, xs') => _ | _ => False) := h
          rw [eo] at h
          exact h.elim
        | some xs' =>
          simp only [eo] at h
          intro σv' F' H' r' _
          obtain ⟨ws', e1, e2, e3⟩ := last r' eo
          exact h .non F' H' ws' r'.endsB e1 e2 e3 .non
      | ret r t =>
        rw [em] at h
        cases eo : own0? t with
        | none =>
          simp only [eo] at h
        | some xs' =>
          simp only [eo] at h
          intro v σv' F' H' r' _ q
          obtain ⟨ws', e1, e2, e3⟩ := last r' eo
          refine h v F' H' ws' r'.endsB e1 e2 e3 ?_
          cases r with
          | v d => exact q
          | l xs =>
            obtain ⟨a, ev, fr⟩ := q
            obtain ⟨ws, h1, h2⟩ := fr.at_
            exact ⟨a, ws, ev, fr.nb, h1, h2, fr.nf⟩
      | err c fs t =>
        rw [em] at h
        exact h.elim
      | brk t =>
        rw [em] at h
        exact h.elim
      | cont t =>
        rw [em] at h
        exact h.elim
      | bad =>
        rw [em] at h
        exact h.elim
    · rw [if_neg hl] at h
      exact h.elim
end
end DL
end

section
set_option Elab.async false
set_option linter.all false
set_option maxRecDepth 100000
set_option maxHeartbeats 1000000
set_option autoImplicit false
/-! DL9: calls of defs. -/
namespace DL
open PySem L2
/-- a call's meaning, from the def's -/
def R0.at (r : R0 Rt) (σ : DSt) : R D := match r with
  | .ok (.v d) => .ok d σ
  | .ok (.l xs) => .ok (.lst xs) σ
  | .err c fs => .err c fs σ
  | .bad => .bad
def R0.atL (r : R0 Rt) (σ : DSt) : R (List D) := match r with
  | .ok (.v _) => .bad
  | .ok (.l xs) => .ok xs σ
  | .err c fs => .err c fs σ
  | .bad => .bad
def mCall (f : List D → R0 Rt) (dds : List D) (ms : M (List D)) : M D := fun σ => (ms σ).bind fun ds s => (f (ds ++ dds)).at s
def mCallL (f : List D → R0 Rt) (dds : List D) (ms : M (List D)) : M (List D) := fun σ => (ms σ).bind fun ds s => (f (ds ++ dds)).atL s
/-- the slot i's own list is handed in and changed -/
def R0.atB (i : Nat) (r : R0 (Rt × List D)) (σ : DSt) : R D := match r, σ[i]? with
  | .ok (.v d, xs'), some (Sl.own b _) => .ok d (σ.set i (Sl.own b xs'))
  | .ok (.l xs, xs'), some (Sl.own b _) => .ok (.lst xs) (σ.set i (Sl.own b xs'))
  | _, _ => .bad
def ownXs (i : Nat) (σ : DSt) : List D := match σ[i]? with
  | some (Sl.own _ xs) => xs
  | _ => []
def mCallB (i : Nat) (f : List D → List D → R0 (Rt × List D)) (ms : M (List D)) : M D := fun σ => if isOwn i σ = true then (ms σ).bind fun ds s => if isOwn i s = true then R0.atB i (f (ownXs i s) ds) s else .bad else .bad
section
variable {X : Cx} {k i : Nat} {f : Addr} {fd : FuncData} {ps : List Str} {fm : List D → R0 Rt} {fb : List D → List D → R0 (Rt × List D)} {dvs : List V} {dds : List D} {ds : List Value} {x y : Str} {q q1 pos : Pos} {e : Expr} {es : List Expr} {ms : M (List D)} {B : Ent} {F : Addr → Prop} {σ : DSt} {σv : L2.St} {H : Hp} {p : Par} {W : WX}
/-- defaults: scalars -/
def Scal (dvs : List V) (dds : List D) : Prop := ∀ p F H, DVs p F H dvs dds
theorem sc_nil : Scal [] [] := fun _ _ _ => .nil
theorem sc_int {i : Int} (h : Scal dvs dds) : Scal (.int i :: dvs) (.int i :: dds) := fun p F H => .cons (.int i) (h p F H)
theorem sc_non (h : Scal dvs dds) : Scal (.non :: dvs) (.non :: dds) := fun p F H => .cons .non (h p F H)
theorem sc_bl {i : Bool} (h : Scal dvs dds) : Scal (.bl i :: dvs) (.bl i :: dds) := fun p F H => .cons (.bl i) (h p F H)
theorem fsp_at {vs : List V} {ds : List D} {F1 : Addr → Prop} {s1 : DSt} {Q : VK} (r1 : Rel p B F1 σv H s1) (v1 : DVs p F1 H vs ds) (h1 : core p W (tD p) B F1 σv H ((fm ds).at s1) Q) : FSp p fm vs H Q (WE W σv) := by
  refine ⟨F1, ds, r1.dom, v1, ?_⟩
  cases ef : fm ds with
  | bad =>
    rw [ef] at h1
    exact h1.elim
  | err c fs =>
    rw [ef] at h1
    exact fun F' H' dx C n hc hx => h1 σv F' H' dx C (r1.new n) (n.ext r1.dom) hc hx
  | ok r =>
    rw [ef] at h1
    intro v F' H' n hr
    cases r with
    | v d => exact h1 v F' H' (r1.new n) (n.ext r1.dom) hr
    | l xs =>
      obtain ⟨a, ws, ev, hn, ha, hw, hf⟩ := hr
      subst ev
      have r2 := r1.new n
      have fr : Free p B F' σv H' s1 a xs := by
        refine ⟨⟨ws, ha, hw⟩, hf, ?_, fun j b ys e z => ?_⟩
        · cases e : B.H a with
          | none => rfl
          | some o =>
            by_cases hw' : B.w = some a
            · obtain ⟨⟨zs, ez⟩, _⟩ := r1.wl a hw'
              rw [hn] at ez
              cases ez
            · have := r1.keep a o e hw'
              rw [hn] at this
              cases this
        · obtain ⟨a', zs, g1, g2, _⟩ := r1.lst e
          rw [g1] at z
          injection z with z
          injection z with z
          injection z with z
          rw [z, hn] at g2
          cases g2
      exact h1 _ _ _ (r2.freeze fr) ((n.ext r1.dom).trans Ext.one) fr.dv
theorem fsp_atL {vs : List V} {ds : List D} {F1 : Addr → Prop} {s1 : DSt} {Q : VK} (r1 : Rel p B F1 σv H s1) (v1 : DVs p F1 H vs ds) (h1 : core p W (tL p) B F1 σv H ((fm ds).atL s1) Q) : FSp p fm vs H Q (WE W σv) := by
  refine ⟨F1, ds, r1.dom, v1, ?_⟩
  cases ef : fm ds with
  | bad =>
    rw [ef] at h1
    exact h1.elim
  | err c fs =>
    rw [ef] at h1
    exact fun F' H' dx C n hc hx => h1 σv F' H' dx C (r1.new n) (n.ext r1.dom) hc hx
  | ok r =>
    rw [ef] at h1
    intro v F' H' n hr
    cases r with
    | v d => exact h1.elim
    | l xs =>
      obtain ⟨a, ws, ev, hn, ha, hw, hf⟩ := hr
      subst ev
      have r2 := r1.new n
      have fr : Free p B F' σv H' s1 a xs := by
        refine ⟨⟨ws, ha, hw⟩, hf, ?_, fun j b ys e z => ?_⟩
        · cases e : B.H a with
          | none => rfl
          | some o =>
            by_cases hw' : B.w = some a
            · obtain ⟨⟨zs, ez⟩, _⟩ := r1.wl a hw'
              rw [hn] at ez
              cases ez
            · have := r1.keep a o e hw'
              rw [hn] at this
              cases this
        · obtain ⟨a', zs, g1, g2, _⟩ := r1.lst e
          rw [g1] at z
          injection z with z
          injection z with z
          injection z with z
          rw [z, hn] at g2
          cases g2
      exact h1 _ _ _ r2 (n.ext r1.dom) ⟨a, rfl, fr⟩
theorem se_call (F : FnG X.prog X.w X.K X.mg X.base k f fd ps (FSp (Cx.par X) fm)) (hr : Room k X.A) (hgd : X.A.guards = some []) (hg : Gl X x) (hm : X.mg x = some (.ref f)) (hk : PySem.W.keepIn X.K (.ref f) = true) (hb : Binds X.K fd ps ds) (hd : Vals dvs ds) (hs : Scal dvs dds)
    (ha : SA X (e :: es) ms) (hdb : (x == ("__debug__" : Str)) = false := by decide) (he : starEach (e :: es) X.env = (false, eval e X.env) :: starEach es X.env := by rfl) (hpl : (backTo pos (starEach es X.env)).any (·.1) = false := by rfl) :
    SE X (.Call (.Name x q) (e :: es) [] pos) (mCall fm dds ms) :=
  fun W tk => PE.imp (pe_callG F hr hgd hg hm hk hb hd (fun σ => passAt tk σ) (ha W tk) hdb he hpl) fun σv H Q ⟨B, F, σ, r0, h⟩ => (rd1 (P := tA (Cx.par X)) r0 h).imp fun vs H1 ⟨F1, s1, ds, r1, e1, v1, h1⟩ => fsp_at r1 (v1.append (hs _ _ _)) h1
theorem sl_call (F : FnG X.prog X.w X.K X.mg X.base k f fd ps (FSp (Cx.par X) fm)) (hr : Room k X.A) (hgd : X.A.guards = some []) (hg : Gl X x) (hm : X.mg x = some (.ref f)) (hk : PySem.W.keepIn X.K (.ref f) = true) (hb : Binds X.K fd ps ds) (hd : Vals dvs ds) (hs : Scal dvs dds)
    (ha : SA X (e :: es) ms) (hdb : (x == ("__debug__" : Str)) = false := by decide) (he : starEach (e :: es) X.env = (false, eval e X.env) :: starEach es X.env := by rfl) (hpl : (backTo pos (starEach es X.env)).any (·.1) = false := by rfl) :
    SL X (.Call (.Name x q) (e :: es) [] pos) (mCallL fm dds ms) :=
  fun W tk => PE.imp (pe_callG F hr hgd hg hm hk hb hd (fun σ => passAt tk σ) (ha W tk) hdb he hpl) fun σv H Q ⟨B, F, σ, r0, h⟩ => (rd1 (P := tA (Cx.par X)) r0 h).imp fun vs H1 ⟨F1, s1, ds, r1, e1, v1, h1⟩ => fsp_atL r1 (v1.append (hs _ _ _)) h1
/-- f(xs, ..), xs the frame's own, changed there -/
theorem se_callB (F : FnG X.prog X.w X.K X.mg X.base k f fd ps (FSpB (Cx.par X) fb)) (hr : Room k X.A) (hgd : X.A.guards = some []) (hg : Gl X x) (hm : X.mg x = some (.ref f)) (hk : PySem.W.keepIn X.K (.ref f) = true) (hb : Binds X.K fd ps [])
    (hN : X.N[i]? = some y) (hv : Vis X.env.scope y) (ha : SA X es ms) (hdb : (x == ("__debug__" : Str)) = false := by decide) (he : starEach (.Name y q1 :: es) X.env = (false, eval (.Name y q1) X.env) :: starEach es X.env := by rfl) (hpl : (backTo pos (starEach es X.env)).any (·.1) = false := by rfl)
    (hd : (y == ("__debug__" : Str)) = false := by decide) (hcd : (y == ("__classdict__" : Str)) = false := by decide) : SE X (.Call (.Name x q) (.Name y q1 :: es) [] pos) (mCallB i fb ms) :=
  fun W tk => PE.imp (pe_callG (E := WE W) F hr hgd hg hm hk hb .nil (fun σ => passAt tk σ) (pa_cons (pe_var hN hv hd hcd) (ha W tk) he) hdb he hpl) fun σv H Q ⟨B, F, σ, r0, h⟩ => by
    unfold mCallB at h
    by_cases ho : isOwn i σ = true
    · rw [if_pos ho] at h
      obtain ⟨b0, xs0, h0⟩ := isOwn_of ho
      obtain ⟨a, vs0, ev, e0, d0, f0, _⟩ := r0.lst h0
      refine ⟨.ref a, ev, (rd1 (P := tA (Cx.par X)) r0 h).imp fun vs H1 ⟨F1, s1, ds, r1, e1, v1, h1⟩ => ?_⟩
      by_cases ho1 : isOwn i s1 = true
      · rw [if_pos ho1] at h1
        obtain ⟨b, xs, hs⟩ := isOwn_of ho1
        obtain ⟨ws, g1, g2, g3⟩ := own_same r1 hs ev
        have ex : ownXs i s1 = xs := by unfold ownXs; rw [hs]
        rw [ex] at h1
        show FSpB (Cx.par X) fb (V.ref a :: vs ++ []) H1 Q (WE W σv)
        rw [List.append_nil]
        refine ⟨F1, a, vs, ws, xs, ds, rfl, r1.dom, g1, g3, g2, v1, ?_⟩
        cases ef : fb xs ds with
        | bad =>
          rw [ef] at h1
          exact h1.elim
        | err c fs =>
          rw [ef] at h1
          exact h1.elim
        | ok r =>
          obtain ⟨r, xs'⟩ := r
          rw [ef] at h1
          intro v F' H' ws' n ha' hw' hf' hr'
          have ext := n.ext r1.dom g1 g3
          have r2 := r1.turn hs ev n ha' hw'
          unfold R0.atB at h1
          simp only [hs] at h1
          cases r with
          | v d => exact h1 v F' H' r2 ext hr'
          | l zs =>
            obtain ⟨c, us, ec, hn, hc, hu, hfc⟩ := hr'
            subst ec
            have ca : c ≠ a := fun z => by
              rw [z, g1] at hn
              cases hn
            have fr : Free (Cx.par X) B F' σv H' (s1.set i (Sl.own b xs')) c zs := by
              refine ⟨⟨us, hc, hu⟩, hfc, ?_, fun j b ys e z => ?_⟩
              · cases e : B.H c with
                | none => rfl
                | some o =>
                  by_cases hw'' : B.w = some c
                  · obtain ⟨⟨zs, ez⟩, _⟩ := r1.wl c hw''
                    rw [hn] at ez
                    cases ez
                  · have := r1.keep c o e hw''
                    rw [hn] at this
                    cases this
              · by_cases hj : i = j
                · subst hj
                  rw [ev] at z
                  injection z with z
                  injection z with z
                  injection z with z
                  exact ca z.symm
                · rw [List.getElem?_set_ne hj] at e
                  obtain ⟨a', zs, g1, g2, _⟩ := r1.lst e
                  rw [g1] at z
                  injection z with z
                  injection z with z
                  injection z with z
                  rw [z, hn] at g2
                  cases g2
            exact h1 _ _ _ (r2.freeze fr) (ext.trans Ext.one) fr.dv
      · rw [if_neg ho1] at h1
        exact h1.elim
    · rw [if_neg ho] at h
      exact h.elim
end
/-! ### calls with keywords -/
def SK (X : Cx) (kws : List Keyword) (m : M (List D)) : Prop := ∀ W, Takes X W → PK X kws (rdX (Cx.par X) W (tA (Cx.par X)) m)
theorem PK.imp {X : Cx} {kws : List Keyword} {t t' : TA} (h : PK X kws t) (i : ∀ σ H Q, t' σ H Q → t σ H Q) : PK X kws t' := ⟨fun pos pins s σ H Q I q => h.run pos pins s σ H Q I (i σ H Q q)⟩
/-- the parameters' values from those given by place (inl) and those by name (inr) -/
def permG {α : Type} (pm : List (Sum Nat Nat)) (us ws : List α) : List α := pm.filterMap fun c => match c with
  | .inl i => us[i]?
  | .inr j => ws[j]?
def mCallK (f : List D → R0 Rt) (pm : List (Sum Nat Nat)) (n l : Nat) (ms mk : M (List D)) : M D := fun σ => (ms σ).bind fun ds s => (mk s).bind fun es t => if ds.length = n ∧ es.length = l then (f (permG pm ds es)).at t else .bad
theorem perm_vals : ∀ (pm : List (Sum Nat Nat)) {vs zs : List V} {us ws : List Value}, Vals vs us → Vals zs ws → Vals (permG pm vs zs) (permG pm us ws)
  | [], _, _, _, _, _, _ => .nil
  | c :: pm, vs, zs, us, ws, r1, r2 => by
    have ih := perm_vals pm r1 r2
    unfold permG at ih ⊢
    rw [List.filterMap_cons, List.filterMap_cons]
    cases c with
    | inl i =>
      cases e : vs[i]? with
      | none =>
        simp only [e, r1.none_of e]
        exact ih
      | some v =>
        obtain ⟨u, hu, ru⟩ := r1.get e
        simp only [e, hu]
        exact .cons ru ih
    | inr i =>
      cases e : zs[i]? with
      | none =>
        simp only [e, r2.none_of e]
        exact ih
      | some v =>
        obtain ⟨u, hu, ru⟩ := r2.get e
        simp only [e, hu]
        exact .cons ru ih
theorem DVs.none_of {p : Par} {F : Addr → Prop} {H : Hp} {vs : List V} {ds : List D} {i : Nat} (h : DVs p F H vs ds) (e : vs[i]? = none) : ds[i]? = none := by
  rw [List.getElem?_eq_none_iff] at e ⊢
  rw [← h.length]
  exact e
theorem perm_dvs {p : Par} {F : Addr → Prop} {H : Hp} : ∀ (pm : List (Sum Nat Nat)) {vs zs : List V} {us ws : List D}, DVs p F H vs us → DVs p F H zs ws → DVs p F H (permG pm vs zs) (permG pm us ws)
  | [], _, _, _, _, _, _ => .nil
  | c :: pm, vs, zs, us, ws, r1, r2 => by
    have ih := perm_dvs pm r1 r2
    unfold permG at ih ⊢
    rw [List.filterMap_cons, List.filterMap_cons]
    cases c with
    | inl i =>
      cases e : vs[i]? with
      | none =>
        simp only [e, r1.none_of e]
        exact ih
      | some v =>
        obtain ⟨u, hu, ru⟩ := r1.getV e
        simp only [e, hu]
        exact .cons ru ih
    | inr i =>
      cases e : zs[i]? with
      | none =>
        simp only [e, r2.none_of e]
        exact ih
      | some v =>
        obtain ⟨u, hu, ru⟩ := r2.getV e
        simp only [e, hu]
        exact .cons ru ih
section
variable {X : Cx} {k n : Nat} {f : Addr} {fd : FuncData} {ps ks : List Str} {sp : Sp} {E : St → XK} {fm : List D → R0 Rt} {x : Str} {nm : Option Str} {q kp pos : Pos} {e : Expr} {es : List Expr} {kws : List Keyword} {ma : M D} {ms mk : M (List D)} {g : List Value → List Value → List Value} {gV : List V → List V → List V} {t tk : TA} {pm : List (Sum Nat Nat)}
theorem sk_nil : SK X [] mNil := fun W _ => PK.imp pk_nil fun σv H Q ⟨B, F, σ, r, h⟩ => h [] F H r Ext.refl .nil
theorem sk_cons (ha : SE X e ma) (hs : SK X kws mk) : SK X (⟨nm, e, kp⟩ :: kws) (mCons ma mk) :=
  fun W tk => PK.imp (pk_cons (ha W tk) (hs W tk)) fun σv H Q ⟨B, F, σ, r0, h⟩ => (rd1 r0 h).imp fun x H1 ⟨F1, s1, dx, r1, e1, v1, h1⟩ => (rd1 r1 h1).imp fun xs H2 ⟨F2, s2, ds, r2, e2, v2, h2⟩ => core_ok (P := tA (Cx.par X)) r2 h2 (.cons (v1.ext e2) v2)
def tCallNS (n m : Nat) (sp : Sp) (gV : List V → List V → List V) (E : St → XK) (t tk : TA) : TE := fun σ H Q => t σ H fun vs H1 => tk σ H1 fun zs H2 => vs.length = n ∧ zs.length = m ∧ sp (gV vs zs) H2 Q (E σ)
theorem kw_end {pins : List (Addr × Obj)} {σ : L2.St} {H : Hp} {s : Shared} {Q : VK} {us ws : List Value} {vs zs : List V} (F : FnG X.prog X.w X.K X.mg X.base k f fd ps sp) (hr : Room k X.A) (hgd : X.A.guards = some []) (hb : KBn X.K fd ps n ks g gV) (hx : PassesAt (L2.CX X.prog X.w) X σ (E σ))
    (I : Inv X pins σ H s) (r : Vals vs us) (rz : Vals zs ws) (l1 : vs.length = n) (l2 : zs.length = ks.length) (w : sp (gV vs zs) H Q (E σ)) : wpAny (model X.prog X.w) X.A (call (.ref f) us (ks.zip ws)) (EP X pins σ Q) X.xe s := by
  refine wpAny_call (codeAny_mono (runG F hr hgd hx I (hb.to s us ws I.kIn (r.length.symm.trans l1) (rz.length.symm.trans l2)) (hb.rel r rz) w) fun r s2 hq => ?_)
  cases r with
  | error er => exact hq
  | ok fl => cases fl <;> exact hq
theorem pe_callGK (F : FnG X.prog X.w X.K X.mg X.base k f fd ps sp) (hr : Room k X.A) (hgd : X.A.guards = some []) (hg : Gl X x) (hm : X.mg x = some (.ref f)) (hk : PySem.W.keepIn X.K (.ref f) = true) (hb : KBn X.K fd ps n ks g gV) (hx : ∀ σ, PassesAt (L2.CX X.prog X.w) X σ (E σ))
    (ha : PA X (e :: es) t) (hkw : PK X kws tk) (hall : (backToKw pos (keywordEach kws X.env)).all (·.1.isSome) = true) (hks : (backToKw pos (keywordEach kws X.env)).filterMap (·.1) = ks) (hdb : (x == ("__debug__" : Str)) = false := by decide)
    (he : starEach (e :: es) X.env = (false, eval e X.env) :: starEach es X.env) (hpl : ((backTo pos (starEach (e :: es) X.env)).any (·.1) || (backToKw pos (keywordEach kws X.env)).any (·.1.isNone)) = false) :
    PE X (.Call (.Name x q) (e :: es) kws pos) (tCallNS n ks.length sp gV E t tk) := by
  refine ⟨fun pins s σ H Q I h => wpAny_Call_Name_kw (ld_glob I hg hm ?_ hdb)⟩
  refine PySem.W.callWith_KW (h₀ := X.base) I.ok.mod.kin hk hall (thn (ha.run pos pins s σ H _ I h) fun us s1 hv => ?_) hpl he
  obtain ⟨vs, H1, I1, r, w⟩ := hv
  refine thn (hkw.run pos pins s1 σ H1 _ I1 w) fun ws s2 hz => ?_
  obtain ⟨zs, H2, I2, rz, l1, l2, w⟩ := hz
  refine ⟨I2.kIn, ?_⟩
  rw [hks]
  exact kw_end F hr hgd hb (hx σ) I2 r rz l1 l2 w
theorem pe_callGK0 (F : FnG X.prog X.w X.K X.mg X.base k f fd ps sp) (hr : Room k X.A) (hgd : X.A.guards = some []) (hg : Gl X x) (hm : X.mg x = some (.ref f)) (hk : PySem.W.keepIn X.K (.ref f) = true) (hb : KBn X.K fd ps n ks g gV) (hx : ∀ σ, PassesAt (L2.CX X.prog X.w) X σ (E σ))
    (hkw : PK X kws tk) (hall : (backToKw pos (keywordEach kws X.env)).all (·.1.isSome) = true) (hks : (backToKw pos (keywordEach kws X.env)).filterMap (·.1) = ks) (hdb : (x == ("__debug__" : Str)) = false := by decide)
    (hpl : ((backTo pos (starEach [] X.env)).any (·.1) || (backToKw pos (keywordEach kws X.env)).any (·.1.isNone)) = false) :
    PE X (.Call (.Name x q) [] kws pos) (tCallNS n ks.length sp gV E tNil tk) := by
  refine ⟨fun pins s σ H Q I h => wpAny_Call_Name_kw (ld_glob I hg hm ?_ hdb)⟩
  refine PySem.W.callWith_KW0 (h₀ := X.base) I.ok.mod.kin hk hall (thn (hkw.run pos pins s σ H _ I h) fun ws s2 hz => ?_) hpl
  obtain ⟨zs, H2, I2, rz, l1, l2, w⟩ := hz
  refine ⟨I2.kIn, ?_⟩
  rw [hks]
  exact kw_end (us := []) F hr hgd hb (hx σ) I2 .nil rz l1 l2 w
theorem kw_rd {W : WX} (sp' : tCallNS n ks.length (FSp (Cx.par X) fm) (permG pm) (WE W) (rdA (Cx.par X) W ms) (rdX (Cx.par X) W (tA (Cx.par X)) mk) = tCallNS n ks.length (FSp (Cx.par X) fm) (permG pm) (WE W) (rdA (Cx.par X) W ms) (rdX (Cx.par X) W (tA (Cx.par X)) mk)) :
    ∀ σv H Q, rdE (Cx.par X) W (mCallK fm pm n ks.length ms mk) σv H Q → tCallNS n ks.length (FSp (Cx.par X) fm) (permG pm) (WE W) (rdA (Cx.par X) W ms) (rdX (Cx.par X) W (tA (Cx.par X)) mk) σv H Q := fun σv H Q ⟨B, F, σ, r0, h⟩ =>
  (rd1 (P := tA (Cx.par X)) r0 h).imp fun vs H1 ⟨F1, s1, ds, r1, e1, v1, h1⟩ => (rd1 (P := tA (Cx.par X)) r1 h1).imp fun zs H2 ⟨F2, s2, es, r2, e2, v2, h2⟩ => by
    by_cases hl : ds.length = n ∧ es.length = ks.length
    · rw [if_pos hl] at h2
      exact ⟨by rw [v1.length]; exact hl.1, by rw [v2.length]; exact hl.2, fsp_at r2 (perm_dvs pm (v1.ext e2) v2) h2⟩
    · rw [if_neg hl] at h2
      exact h2.elim
theorem se_callK (F : FnG X.prog X.w X.K X.mg X.base k f fd ps (FSp (Cx.par X) fm)) (hr : Room k X.A) (hgd : X.A.guards = some []) (hg : Gl X x) (hm : X.mg x = some (.ref f)) (hk : PySem.W.keepIn X.K (.ref f) = true) (hb : KBn X.K fd ps n ks (permG pm) (permG pm))
    (ha : SA X (e :: es) ms) (hkw : SK X kws mk) (hall : (backToKw pos (keywordEach kws X.env)).all (·.1.isSome) = true := by rfl) (hks : (backToKw pos (keywordEach kws X.env)).filterMap (·.1) = ks := by rfl) (hdb : (x == ("__debug__" : Str)) = false := by decide)
    (he : starEach (e :: es) X.env = (false, eval e X.env) :: starEach es X.env := by rfl) (hpl : ((backTo pos (starEach (e :: es) X.env)).any (·.1) || (backToKw pos (keywordEach kws X.env)).any (·.1.isNone)) = false := by rfl) :
    SE X (.Call (.Name x q) (e :: es) kws pos) (mCallK fm pm n ks.length ms mk) :=
  fun W tk => PE.imp (pe_callGK F hr hgd hg hm hk hb (fun σ => passAt tk σ) (ha W tk) (hkw W tk) hall hks hdb he hpl) (kw_rd rfl)
theorem se_callK0 (F : FnG X.prog X.w X.K X.mg X.base k f fd ps (FSp (Cx.par X) fm)) (hr : Room k X.A) (hgd : X.A.guards = some []) (hg : Gl X x) (hm : X.mg x = some (.ref f)) (hk : PySem.W.keepIn X.K (.ref f) = true) (hb : KBn X.K fd ps n ks (permG pm) (permG pm))
    (hkw : SK X kws mk) (hall : (backToKw pos (keywordEach kws X.env)).all (·.1.isSome) = true := by rfl) (hks : (backToKw pos (keywordEach kws X.env)).filterMap (·.1) = ks := by rfl) (hdb : (x == ("__debug__" : Str)) = false := by decide)
    (hpl : ((backTo pos (starEach [] X.env)).any (·.1) || (backToKw pos (keywordEach kws X.env)).any (·.1.isNone)) = false := by rfl) :
    SE X (.Call (.Name x q) [] kws pos) (mCallK fm pm n ks.length mNil mk) :=
  fun W tk => PE.imp (pe_callGK0 F hr hgd hg hm hk hb (fun σ => passAt tk σ) (hkw W tk) hall hks hdb hpl) fun σv H Q ⟨B, F, σ, r0, h⟩ => (rd1 (P := tA (Cx.par X)) r0 (show core (Cx.par X) W (tD (Cx.par X)) B F σv H ((mk σ).bind fun es t => if ([] : List D).length = n ∧ es.length = ks.length then (fm (permG pm [] es)).at t else .bad) Q from h)).imp fun zs H2 ⟨F2, s2, es, r2, e2, v2, h2⟩ => by
    by_cases hl : ([] : List D).length = n ∧ es.length = ks.length
    · rw [if_pos hl] at h2
      exact ⟨hl.1, by rw [v2.length]; exact hl.2, fsp_at r2 (perm_dvs pm .nil v2) h2⟩
    · rw [if_neg hl] at h2
      exact h2.elim
/-- how keywords bind in a def without defaults -/
theorem kbn_mk {K : PySem.W.Frag} (h : ∀ (us ws : List Value), us.length = n → ws.length = ks.length → bindArgs fd ⟨us, ks.zip ws⟩ = pure (ps.zip (permG pm us ws))) : KBn K fd ps n ks (permG pm) (permG pm) :=
  ⟨fun s us ws _ l1 l2 => .of_eq (h us ws l1 l2), fun r1 r2 => perm_vals pm r1 r2⟩
end
/-! ### a local name that holds one of the module's defs -/
/-- of several defs, by their names -/
structure HeldG (X : Cx) (k : Nat) (x : Str) (fm : List D → R0 Rt) : Prop where
  ex : ∃ f fd ps, X.mg x = some (.ref f) ∧ FnG X.prog X.w X.K X.mg X.base k f fd ps (FSp (Cx.par X) fm) ∧ PySem.W.keepIn X.K (.ref f) = true ∧ Binds X.K fd ps []
/-- the names and what they mean -/
def lookF (tb : List (Str × (List D → R0 Rt))) (x : Str) : Option (List D → R0 Rt) := tb.lookup x
def mCallV (i : Nat) (tb : List (Str × (List D → R0 Rt))) (ms : M (List D)) : M D := fun σ => match σ[i]? with
  | some (.val (.gl x)) => match tb.lookup x with
    | some f => (ms σ).bind fun ds s => (f ds).at s
    | none => .bad
  | _ => .bad
section
variable {X : Cx} {k i : Nat} {x : Str} {q pos : Pos} {e : Expr} {es : List Expr} {ms : M (List D)} {tb : List (Str × (List D → R0 Rt))}
def tCallVS (i : Nat) (X : Cx) (k : Nat) (tb : List (Str × (List D → R0 Rt))) (E : St → XK) (t : TA) : TE := fun σ H Q => ∃ f y fm, σ[i]? = some (some (.ref f)) ∧ X.mg y = some (.ref f) ∧ tb.lookup y = some fm ∧ t σ H fun vs H1 => FSp (Cx.par X) fm vs H1 Q (E σ)
theorem pe_callVG {E : St → XK} {t : TA} (HH : ∀ y fm, tb.lookup y = some fm → HeldG X k y fm) (hr : Room k X.A) (hgd : X.A.guards = some []) (hN : X.N[i]? = some x) (hv : Vis X.env.scope x) (hx : ∀ σ, PassesAt (L2.CX X.prog X.w) X σ (E σ)) (ha : PA X (e :: es) t)
    (hdb : (x == ("__debug__" : Str)) = false := by decide) (hcd : (x == ("__classdict__" : Str)) = false := by decide) (he : starEach (e :: es) X.env = (false, eval e X.env) :: starEach es X.env := by rfl) (hpl : (backTo pos (starEach es X.env)).any (·.1) = false := by rfl) :
    PE X (.Call (.Name x q) (e :: es) [] pos) (tCallVS i X k tb E t) := by
  refine ⟨fun pins s σ H Q I h => ?_⟩
  obtain ⟨f, y, fm, hs, hy, hl, ht⟩ := h
  obtain ⟨f', fd, ps, hm, F, hk, hb⟩ := (HH y fm hl).ex
  rw [hm] at hy
  injection hy with hy
  injection hy with hy
  subst hy
  refine wpAny_Call_Name_kw (thn ((pe_var (pos := q) hN hv hdb hcd).run pins s σ H (fun v H1 => v = .ref f' ∧ H1 = H) I ⟨.ref f', hs, rfl, rfl⟩) fun u s1 hu => ?_)
  obtain ⟨v, H1, I1, r1, q1, q2⟩ := hu
  subst q1 q2
  cases r1
  refine PySem.W.callWith_K (h₀ := X.base) I.ok.mod.kin hk (thn (ha.run pos pins s1 σ _ _ I1 ht) fun us s2 hz => ?_) he hpl
  obtain ⟨vs, H2, I2, r, w⟩ := hz
  refine ⟨I2.kIn, wpAny_call (codeAny_mono (runG F hr hgd (hx σ) I2 (us := us) ?_ r w) fun r s2 hq => ?_)⟩
  · have hl : (us ++ []).length = ps.length := by
      rw [List.append_nil, ← r.length]
      exact F.len _ _ _ _ w
    have z := hb s2 us I2.kIn hl
    rw [List.append_nil] at z
    exact z
  · cases r with
    | error er => exact hq
    | ok fl => cases fl <;> exact hq
theorem se_callV (HH : ∀ y fm, tb.lookup y = some fm → HeldG X k y fm) (hr : Room k X.A) (hgd : X.A.guards = some []) (hN : X.N[i]? = some x) (hv : Vis X.env.scope x) (ha : SA X (e :: es) ms)
    (hdb : (x == ("__debug__" : Str)) = false := by decide) (hcd : (x == ("__classdict__" : Str)) = false := by decide) (he : starEach (e :: es) X.env = (false, eval e X.env) :: starEach es X.env := by rfl) (hpl : (backTo pos (starEach es X.env)).any (·.1) = false := by rfl) :
    SE X (.Call (.Name x q) (e :: es) [] pos) (mCallV i tb ms) :=
  fun W tk => PE.imp (pe_callVG (E := WE W) HH hr hgd hN hv (fun σ => passAt tk σ) (ha W tk) hdb hcd he hpl) fun σv H Q ⟨B, F, σ, r0, h⟩ => by
    unfold mCallV at h
    cases hs : σ[i]? with
    | none =>
      rw [hs] at h
      exact h.elim
    | some s =>
      rw [hs] at h
      cases s with
      | no => exact h.elim
      | own b xs => exact h.elim
      | val d =>
        cases d with
        | gl y =>
          obtain ⟨v, ev, dv⟩ := r0.val hs
          cases dv with
          | @gl a _ hy =>
            cases hl : tb.lookup y with
            | none =>
              simp only [hl] at h
              exact h.elim
            | some fm =>
              simp only [hl] at h
              exact ⟨a, y, fm, ev, hy, hl, (rd1 (P := tA (Cx.par X)) r0 h).imp fun vs H1 ⟨F1, s1, ds, r1, e1, v1, h1⟩ => fsp_at r1 v1 h1⟩
        | non => exact h.elim
        | bl i => exact h.elim
        | int i => exact h.elim
        | str x => exact h.elim
        | lst xs => exact h.elim
        | tup xs => exact h.elim
end
end DL
end

section
set_option Elab.async false
set_option linter.all false
set_option maxRecDepth 100000
set_option maxHeartbeats 1000000
set_option autoImplicit false
/-! DL10: list comprehensions. -/
namespace DL
open PySem L2
/-! ### slots forgotten -/
def wipeD (σ : DSt) : List Nat → DSt
  | [] => σ
  | v :: vs => (wipeD σ vs).set v .no
theorem wipeD_length (σ : DSt) : ∀ vs : List Nat, (wipeD σ vs).length = σ.length
  | [] => rfl
  | v :: vs => by unfold wipeD; rw [List.length_set, wipeD_length σ vs]
theorem wipeD_in {σ : DSt} {i : Nat} {s : Sl} : ∀ {vs : List Nat}, (wipeD σ vs)[i]? = some s → (i ∈ vs → s = .no) ∧ (i ∉ vs → σ[i]? = some s)
  | [], h => ⟨fun z => (List.not_mem_nil z).elim, fun _ => h⟩
  | v :: vs, h => by
    unfold wipeD at h
    by_cases e : v = i
    · subst e
      have hl : v < (wipeD σ vs).length := by
        have := (List.getElem?_eq_some_iff.mp h).1
        rw [List.length_set] at this
        exact this
      rw [List.getElem?_set_self hl] at h
      cases h
      exact ⟨fun _ => rfl, fun z => (z List.mem_cons_self).elim⟩
    · rw [List.getElem?_set_ne e] at h
      obtain ⟨a, b⟩ := wipeD_in (vs := vs) h
      refine ⟨fun z => ?_, fun z => b fun y => z (List.mem_cons_of_mem _ y)⟩
      rcases List.mem_cons.mp z with z | z
      · exact (e z.symm).elim
      · exact a z
theorem wipe_ne {σ : L2.St} {i : Nat} : ∀ {vs : List Nat}, i ∉ vs → (wipe σ vs)[i]? = σ[i]?
  | [], _ => rfl
  | v :: vs, h => by
    unfold wipe
    rw [List.getElem?_set_ne (fun e => h (by rw [e]; exact List.mem_cons_self))]
    exact wipe_ne fun z => h (List.mem_cons_of_mem _ z)
theorem wipe_set {σ : L2.St} {i : Nat} {o : Option V} {vs : List Nat} (h : i ∈ vs) : wipe (σ.set i o) vs = wipe σ vs := by
  induction vs with
  | nil => exact (List.not_mem_nil h).elim
  | cons v vs ih =>
    unfold wipe
    by_cases e : i ∈ vs
    · rw [ih e]
    · have e2 : i = v := by
        rcases List.mem_cons.mp h with z | z
        · exact z
        · exact (e z).elim
      subst e2
      apply List.ext_getElem?
      intro j
      by_cases z : i = j
      · subst z
        rw [List.getElem?_set, List.getElem?_set, wipe_length, wipe_length, List.length_set, if_pos rfl, if_pos rfl]
      · rw [List.getElem?_set_ne z, List.getElem?_set_ne z]
        by_cases y : j ∈ vs
        · clear ih h e
          induction vs with
          | nil => exact (List.not_mem_nil y).elim
          | cons w ws ih2 =>
            unfold wipe
            by_cases x : w = j
            · subst x
              rw [List.getElem?_set, List.getElem?_set, wipe_length, wipe_length, List.length_set, if_pos rfl, if_pos rfl]
            · rw [List.getElem?_set_ne x, List.getElem?_set_ne x]
              rcases List.mem_cons.mp y with y | y
              · exact (x y.symm).elim
              · exact ih2 y
        · rw [wipe_ne y, wipe_ne y, List.getElem?_set_ne z]
theorem wipe_idem {σ : L2.St} {vs : List Nat} : wipe (wipe σ vs) vs = wipe σ vs := by
  have : ∀ ws : List Nat, (∀ i ∈ ws, i ∈ vs) → wipe (wipe σ ws) vs = wipe σ vs := by
    intro ws
    induction ws with
    | nil => intro _; rfl
    | cons w ws ih =>
      intro h
      show wipe ((wipe σ ws).set w none) vs = _
      rw [wipe_set (h w List.mem_cons_self)]
      exact ih fun i z => h i (List.mem_cons_of_mem _ z)
  exact this vs fun _ z => z
section
variable {p : Par} {B : Ent} {F F' : Addr → Prop} {σv σv' : L2.St} {H H' : Hp} {σ σ' : DSt}
/-- slots that are as they were, or forgotten -/
theorem Rel.agree (r : Rel p B F σv H σ) (hl : σ'.length = σv'.length) (h : ∀ (i : Nat) (s : Sl), σ'[i]? = some s → s = .no ∨ (σ[i]? = some s ∧ σv'[i]? = σv[i]?)) : Rel p B F σv' H σ' where
  len := hl
  dom := r.dom
  f0 := r.f0
  nw := r.nw
  keep := r.keep
  bw := r.bw
  wl := r.wl
  sl := fun i s e => by
    rcases h i s e with z | ⟨z, y⟩
    · subst z
      have := (List.getElem?_eq_some_iff.mp e).1
      rw [hl] at this
      exact ⟨σv'[i], List.getElem?_eq_getElem this, trivial⟩
    · rw [y]
      exact r.sl i s z
  sep := fun i j b c xs ys hne h1 h2 => by
    rcases h i _ h1 with z | ⟨z1, y1⟩
    · cases z
    · rcases h j _ h2 with z | ⟨z2, y2⟩
      · cases z
      · rw [y1, y2]
        exact r.sep i j b c xs ys hne z1 z2
theorem Rel.wiped (r : Rel p B F σv H σ) (vs : List Nat) : Rel p B F (wipe σv vs) H (wipeD σ vs) :=
  r.agree (by rw [wipeD_length, wipe_length]; exact r.len) fun i s e => by
    obtain ⟨a, b⟩ := wipeD_in e
    by_cases h : i ∈ vs
    · exact .inl (a h)
    · exact .inr ⟨b h, wipe_ne h⟩
theorem Rel.unwiped {vs : List Nat} (r : Rel p B F (wipe σv vs) H σ) : Rel p B F σv H (wipeD σ vs) :=
  r.agree (by rw [wipeD_length, r.len, wipe_length]) fun i s e => by
    obtain ⟨a, b⟩ := wipeD_in e
    by_cases h : i ∈ vs
    · exact .inl (a h)
    · exact .inr ⟨b h, (wipe_ne h).symm⟩
theorem Rel.rewiped {vs : List Nat} (r : Rel p B F σv' H σ) (e : wipe σv' vs = wipe σv vs) : Rel p B F (wipe σv vs) H (wipeD σ vs) := by
  rw [← e]
  exact r.wiped vs
theorem Free.unwiped {q : Addr} {xs : List D} {vs : List Nat} (f : Free p B F (wipe σv vs) H σ q xs) : Free p B F σv H (wipeD σ vs) q xs :=
  ⟨f.at_, f.nf, f.nb, fun i b ys e => by
    obtain ⟨a, c⟩ := wipeD_in e
    by_cases h : i ∈ vs
    · cases a h
    · rw [← wipe_ne h]
      exact f.ns i b ys (c h)⟩
theorem Free.wiped {q : Addr} {xs : List D} {vs : List Nat} (f : Free p B F σv H σ q xs) : Free p B F (wipe σv vs) H (wipeD σ vs) q xs :=
  ⟨f.at_, f.nf, f.nb, fun i b ys e => by
    obtain ⟨a, c⟩ := wipeD_in e
    by_cases h : i ∈ vs
    · cases a h
    · rw [wipe_ne h]
      exact f.ns i b ys (c h)⟩
/-- the list in hand changes -/
theorem Free.put {q : Addr} {xs : List D} {vs ws : List V} {zs : List D} (r : Rel p B F σv H σ) (f : Free p B F σv H σ q xs) (h : DVs p F H ws zs) : Rel p B F σv (upd H q (.lst ws)) σ ∧ Ext F H F (upd H q (.lst ws)) ∧ Free p B F σv (upd H q (.lst ws)) σ q zs := by
  obtain ⟨us, e0, d0⟩ := f.at_
  have n : NewB q F H F (upd H q (.lst ws)) := NewB.upd (vs := ws) r.dom f.nf
  have ext := n.ext r.dom e0 f.nf
  refine ⟨⟨r.len, n.dom, r.f0, r.nw, fun a o hb hw => n.keep a o (fun z => by rw [z, f.nb] at hb; cases hb) (r.keep a o hb hw), r.bw, fun a hw => ?_, fun i s e => ?_, r.sep⟩, ext, ⟨⟨ws, upd_same, h.ext ext⟩, f.nf, f.nb, f.ns⟩⟩
  · have hne : a ≠ q := fun z => by
      obtain ⟨ys, e⟩ := r.bw a hw
      rw [z, f.nb] at e
      cases e
    obtain ⟨⟨ys, e⟩, h2⟩ := r.wl a hw
    exact ⟨⟨ys, n.keep a _ hne e⟩, h2⟩
  · obtain ⟨o, eo, k⟩ := r.sl i s e
    refine ⟨o, eo, ?_⟩
    cases s with
    | no => trivial
    | val d =>
      obtain ⟨v, e6, h6⟩ := k
      exact ⟨v, e6, h6.ext ext⟩
    | own b ys =>
      obtain ⟨a, ws', f1, f2, f3, f4, f5⟩ := k
      have hne : a ≠ q := fun z => f.ns i b ys e (by rw [eo, f1, z])
      exact ⟨a, ws', f1, n.keep _ _ hne f2, f3.ext ext, f4, f5⟩
end
/-! ### a comprehension's targets -/
def rdGw (p : Par) (vs : List Nat) (g : G) : TG := fun v σv H Q => ∃ B F σ d σ', Rel p B F σv H σ ∧ DV p F H v d ∧ g d σ = some σ' ∧ ∀ σv', Rel p B F σv' H σ' → wipe σv' vs = wipe σv vs → Q σv' H
def rdGws (p : Par) (vs : List Nat) (g : Gs) : TGs := fun us σv H Q => ∃ B F σ ds σ', Rel p B F σv H σ ∧ DVs p F H us ds ∧ g ds σ = some σ' ∧ ∀ σv', Rel p B F σv' H σ' → wipe σv' vs = wipe σv vs → Q σv' H
def WG (X : Cx) (vs : List Nat) (tg : Expr) (g : G) : Prop := PG X tg (rdGw (Cx.par X) vs g)
def WGs (X : Cx) (vs : List Nat) (ts : List Expr) (g : Gs) : Prop := PGs X ts (rdGws (Cx.par X) vs g)
section
variable {X : Cx} {pos : Pos} {vs : List Nat}
theorem wg_nm {i : Nat} {x : Str} (hN : X.N.Nodup) (hi : X.N[i]? = some x) (hx : Loc X.env.scope x) (hm : i ∈ vs) (hf : X.fn x = true ∨ X.env.scope.names.lookup x = some .local := by first | exact .inl rfl | exact .inr rfl | assumption) : WG X vs (.Name x pos) (gNm i) :=
  PG.imp (pg_name hN hi hx hf) fun v σv H Q ⟨B, F, σ, d, σ', r, dv, e, k⟩ => by
    have e := Option.some.inj e
    subst e
    exact k _ (r.set dv) (wipe_set hm)
theorem wgs_no : WGs X vs [] gNo := PGs.imp pgs_nil fun us σv H Q ⟨B, F, σ, ds, σ', r, dv, e, k⟩ => by
  cases dv with
  | nil =>
    have e := Option.some.inj e
    subst e
    exact ⟨rfl, k _ r rfl⟩
  | cons _ _ => cases e
theorem wgs_co {e : Expr} {es : List Expr} {g : G} {gs : Gs} (h1 : WG X vs e g) (h2 : WGs X vs es gs) (hs : (assignEach (e :: es) X.env).map (·.2) = assign e X.env :: (assignEach es X.env).map (·.2) := by rfl) : WGs X vs (e :: es) (gCo g gs) :=
  PGs.imp (pgs_cons h1 h2 hs) fun us σv H Q ⟨B, F, σ, ds, σ', r, dv, e, k⟩ => by
    cases dv with
    | nil => cases e
    | @cons v vr d dr a b =>
      have e : (g d σ).bind (fun s => gs dr s) = some σ' := e
      cases e1 : g d σ with
      | none =>
        rw [e1] at e
        cases e
      | some s =>
        rw [e1] at e
        exact ⟨v, vr, rfl, B, F, σ, d, s, r, a, e1, fun σv1 r1 w1 => ⟨B, F, s, dr, σ', r1, b, e, fun σv2 r2 w2 => k σv2 r2 (w2.trans w1)⟩⟩
theorem wg_tu {es : List Expr} {kx : Nat} {gs : Gs} {n : Nat} (hc : X.calm = true) (h : WGs X vs es gs) (hn : (assignEach es X.env).length = n := by rfl) (hst : (assignEach es X.env).findIdx? (·.1) = none := by rfl) : WG X vs (.Tuple es kx pos) (gTu n gs) := by
  refine ⟨fun pins s σ H v u Q I r hw => ?_⟩
  obtain ⟨B, F, σ0, d, σ', rel, dv, e, k⟩ := hw
  unfold gTu at e
  cases dv with
  | @lst a us ds g1 g2 =>
    by_cases hl : ds.length = n
    · have e : gs ds σ0 = some σ' := by
        rw [← e]
        show _ = (if ds.length = n then gs ds σ0 else none)
        rw [if_pos hl]
      exact (pg_lst hc h hn hst).run pins s σ H _ u Q I r ⟨a, us, rfl, g1.sq, by rw [g2.length]; exact hl, B, F, σ0, ds, σ', rel, g2, e, k⟩
    · have e : (if ds.length = n then gs ds σ0 else none) = some σ' := e
      rw [if_neg hl] at e
      cases e
  | @tup a us ds g1 g2 =>
    by_cases hl : ds.length = n
    · have e : gs ds σ0 = some σ' := by
        rw [← e]
        show _ = (if ds.length = n then gs ds σ0 else none)
        rw [if_pos hl]
      exact (pg_tup hc h hn hst).run pins s σ H _ u Q I r ⟨a, us, rfl, g1, by rw [g2.length]; exact hl, B, F, σ0, ds, σ', rel, g2, e, k⟩
    · have e : (if ds.length = n then gs ds σ0 else none) = some σ' := e
      rw [if_neg hl] at e
      cases e
  | non => cases e
  | bl b => cases e
  | int i => cases e
  | str x => cases e
  | gl h => cases e
end
/-! ### the comprehension -/
def lcRest (vs : List Nat) (g : G) (tt : M Bool) (te : M D) : List D → DSt → List D → R (List D)
  | [], σ, acc => .ok acc (wipeD σ vs)
  | d :: ds, σ, acc => match g d (wipeD σ vs) with
    | none => .bad
    | some s => match tt s with
      | .ok true t => match te t with
        | .ok y u => if acc.length < sizeLine then lcRest vs g tt te ds u (acc ++ [y]) else .bad
        | _ => .bad
      | .ok false t => lcRest vs g tt te ds t acc
      | _ => .bad
def mLc (mi : M (List D)) (vs : List Nat) (g : G) (tt : M Bool) (te : M D) : M (List D) := fun σ => (mi σ).bind fun ds s => lcRest vs g tt te ds s []
def mYes : M Bool := fun σ => .ok true σ
/-- the tests of a clause -/
def STs (X : Cx) (ifs : List Expr) (m : M Bool) : Prop := ∀ W, Takes X W → PTs X ifs (rdT (Cx.par X) W m)
abbrev Blk (X : Cx) (scope : Scope) (P : Cx → Prop) : Prop := ∀ (s : Shared) (H : Hp) (C : Addr) (cl : List (Str × Addr)) (fp : List Addr), P (X.blk s H scope (compEnvC scope cl C X.env) fp)
section
variable {X : Cx}
theorem PTs.imp {ifs : List Expr} {t t' : TT} (h : PTs X ifs t) (i : ∀ σ H Q, t' σ H Q → t σ H Q) : PTs X ifs t' := ⟨fun pins s σ H Q I q => h.run pins s σ H Q I (i σ H Q q)⟩
theorem sts_nil : STs X [] mYes := fun W _ => PTs.imp pts_nil fun σv H Q ⟨B, F, σ, r, h⟩ => h true F H r Ext.refl rfl
theorem sts_one {c : Expr} {m : M Bool} (h : ST X c m) : STs X [c] m := fun W tk => pts_one (h W tk)
abbrev W0 : WX := fun _ _ _ _ => False
variable {elt tg iter : Expr} {ifs : List Expr} {scope : Scope} {own : List (Str × Nat)} {pos spos : Pos} {mi : M (List D)} {g : G} {tt : M Bool} {te : M D}
theorem lc_rd {W : WX} {vs : List Nat} : ∀ σv H Q, rdL (Cx.par X) W (mLc mi vs g tt te) σv H Q → tLc (rdX (Cx.par X) W (tI (Cx.par X)) mi) (rdGw (Cx.par X) vs g) (rdT (Cx.par X) W0 tt) (rdE (Cx.par X) W0 te) vs σv H Q := fun σv H Q ⟨B, F, σ, r0, h⟩ =>
  (rd1 (P := tI (Cx.par X)) r0 h).imp fun J H1 ⟨F1, s1, ds, r1, e1, v1, h1⟩ => by
    intro q hq
    obtain ⟨r2, f2⟩ := Free.laid (xs := []) (vs := []) r1 hq .nil
    have x2 : Ext F1 H1 F1 (upd H1 q (.lst [])) := (New.obj r1.dom hq).ext r1.dom
    refine ⟨fun i m H' => m = ds.length - i ∧ i ≤ ds.length ∧ ∃ F' σ' acc, Rel (Cx.par X) B F' (wipe σv vs) H' (wipeD σ' vs) ∧ Ext F1 H1 F' H' ∧ Free (Cx.par X) B F' (wipe σv vs) H' (wipeD σ' vs) q acc ∧ core (Cx.par X) W (tL (Cx.par X)) B F' σv H' (lcRest vs g tt te (ds.drop i) σ' acc) Q, ⟨ds.length, (Nat.sub_zero _).symm, Nat.zero_le _, F1, s1, [], r2.wiped vs, x2, f2.wiped, core.mono x2 h1⟩, ?_⟩
    rintro i m H' ⟨hm, hle, F', σ', acc, r', x', f', h'⟩
    have yl := v1 F' H' x' r'.dom i
    by_cases hlt : i < ds.length
    · have ed : ds[i]? = some ds[i] := List.getElem?_eq_getElem hlt
      obtain ⟨go, yld⟩ := yl.1 _ ed
      rw [List.drop_eq_getElem_cons hlt] at h'
      refine .inr ⟨go, fun H2 => ∃ F2 s2 acc2, Rel (Cx.par X) B F2 (wipe σv vs) H2 (wipeD s2 vs) ∧ Ext F1 H1 F2 H2 ∧ Free (Cx.par X) B F2 (wipe σv vs) H2 (wipeD s2 vs) q acc2 ∧ core (Cx.par X) W (tL (Cx.par X)) B F2 σv H2 (lcRest vs g tt te (ds.drop (i + 1)) s2 acc2) Q, fun H2 z => ⟨ds.length - (i + 1), by omega, rfl, hlt, z⟩, fun x H2 y => ?_⟩
      obtain ⟨us, e5, d5, rh⟩ := r'.hold f'
      obtain ⟨F2, n2, dv⟩ := yld x H2 y
      have rh2 := rh.new n2
      have x2' := n2.ext r'.dom
      have h2 := core.mono x2' h'
      unfold lcRest at h2
      cases eg : g ds[i] (wipeD σ' vs) with
      | none =>
        rw [eg] at h2
        exact h2.elim
      | some s =>
        rw [eg] at h2
        refine ⟨_, F2, wipeD σ' vs, ds[i], s, rh2, dv, eg, fun σv3 r3 w3 => ?_⟩
        rw [wipe_idem] at w3
        refine ⟨w3, ?_⟩
        have h2 : core (Cx.par X) W (tL (Cx.par X)) B F2 σv H2 (match tt s with | .ok true t => (match te t with | .ok y u => if acc.length < sizeLine then lcRest vs g tt te (ds.drop (i + 1)) u (acc ++ [y]) else .bad | _ => .bad) | .ok false t => lcRest vs g tt te (ds.drop (i + 1)) t acc | _ => .bad) Q := h2
        have nF0 : ¬ B.F q := fun z => f'.nf (r'.f0 q z)
        have nw0 : B.w ≠ some q := fun z => by
          obtain ⟨ys, e⟩ := r'.bw q z
          rw [f'.nb] at e
          cases e
        refine ⟨_, F2, s, r3, ?_⟩
        cases et : tt s with
        | bad =>
          rw [et] at h2
          exact h2.elim
        | err c fs t =>
          rw [et] at h2
          exact h2.elim
        | ok b t =>
          rw [et] at h2
          intro b' F3 H3 r3' x3 eb
          have eb : b' = b := eb
          subst eb
          cases b' with
          | false =>
            rw [if_neg Bool.false_ne_true]
            obtain ⟨r4, q4, nf4, ns4⟩ := r3'.unhold f'.nb nF0 nw0
            have xx := x2'.trans x3
            have f4 : Free (Cx.par X) B F3 σv3 H3 t q acc := ⟨⟨us, q4, d5.ext xx⟩, nf4, f'.nb, ns4⟩
            refine ⟨F3, t, acc, r4.rewiped w3, x'.trans xx, ?_, core.mono x3 h2⟩
            rw [← w3]
            exact f4.wiped
          | true =>
            rw [if_pos rfl]
            have h2 : core (Cx.par X) W (tL (Cx.par X)) B F2 σv H2 (match te t with | .ok y u => if acc.length < sizeLine then lcRest vs g tt te (ds.drop (i + 1)) u (acc ++ [y]) else .bad | _ => .bad) Q := h2
            refine ⟨_, F3, t, r3', ?_⟩
            cases ee : te t with
            | bad =>
              rw [ee] at h2
              exact h2.elim
            | err c fs u =>
              rw [ee] at h2
              exact h2.elim
            | ok d u =>
              rw [ee] at h2
              have h2 : core (Cx.par X) W (tL (Cx.par X)) B F2 σv H2 (if acc.length < sizeLine then lcRest vs g tt te (ds.drop (i + 1)) u (acc ++ [d]) else .bad) Q := h2
              by_cases hl : acc.length < sizeLine
              · rw [if_pos hl] at h2
                intro y' F4 H4 r4' x4 dy
                obtain ⟨r4, q4, nf4, ns4⟩ := r4'.unhold f'.nb nF0 nw0
                have xx := (x2'.trans x3).trans x4
                have d4 := d5.ext xx
                have f4 : Free (Cx.par X) B F4 σv3 H4 u q acc := ⟨⟨us, q4, d4⟩, nf4, f'.nb, ns4⟩
                obtain ⟨r5, x5, f5⟩ := Free.put (vs := us) r4 f4 (d4.append (.cons dy .nil))
                refine ⟨us, q4, by rw [d5.length]; exact hl, F4, u, acc ++ [d], r5.rewiped w3, (x'.trans xx).trans x5, ?_, core.mono ((x3.trans x4).trans x5) h2⟩
                rw [← w3]
                exact f5.wiped
              · rw [if_neg hl] at h2
                exact h2.elim
    · have ei : i = ds.length := by omega
      refine .inl ⟨yl.2 ei, ?_⟩
      rw [ei, List.drop_length] at h'
      have r6 := r'.unwiped
      have f6 := f'.unwiped
      have ew : wipeD (wipeD σ' vs) vs = wipeD σ' vs := by
        apply List.ext_getElem?
        intro j
        cases e1 : (wipeD (wipeD σ' vs) vs)[j]? with
        | none =>
          rw [List.getElem?_eq_none_iff, wipeD_length] at e1
          rw [List.getElem?_eq_none_iff.mpr e1]
        | some s =>
          obtain ⟨a, b⟩ := wipeD_in e1
          by_cases hj : j ∈ vs
          · rw [a hj]
            cases e2 : (wipeD σ' vs)[j]? with
            | none =>
              rw [List.getElem?_eq_none_iff] at e2
              have := (List.getElem?_eq_some_iff.mp e1).1
              rw [wipeD_length] at this
              omega
            | some s2 =>
              obtain ⟨c, _⟩ := wipeD_in e2
              rw [c hj]
          · rw [b hj]
      rw [ew] at r6 f6
      exact h' (.ref q) F' H' r6 Ext.refl ⟨q, rfl, f6⟩
theorem sl_lc (hc : X.calm = true) (hN : X.N.Nodup) (hi : SI X tg iter mi) (ok : BlkOk X.N X.env.scope scope own) (hg : Blk X scope fun Y => WG Y (own.map (·.2)) tg g) (ht : Blk X scope fun Y => STs Y ifs tt) (he : Blk X scope fun Y => SE Y elt te)
    (hs : ∀ x, foldedSetIterable iter X.env x = pure x := by intro _; rfl) : SL X (.ListComp elt [⟨tg, iter, ifs, 0⟩] scope pos) (mLc mi (own.map (·.2)) g tt te) :=
  fun W tk => PE.imp (pe_lc (g := rdGw (Cx.par X) (own.map fun (z : Str × Nat) => z.2) g) (tt := rdT (Cx.par X) W0 tt) (te := rdE (Cx.par X) W0 te) hc hN (hi W tk) ok hg (fun s H C cl fp => ht s H C cl fp W0 takes0) (fun s H C cl fp => he s H C cl fp W0 takes0) hs) lc_rd
theorem ss_setLc {i : Nat} {y : Str} {py : Pos} (hc : X.calm = true) (hN : X.N.Nodup) (hy : X.N[i]? = some y) (hyl : X.env.scope.names.lookup y = some .local) (hsw : swapsWith (.ListComp elt [⟨tg, iter, ifs, 0⟩] scope pos) (some (.Name y py)) spos.line X.env = pure true)
    (hi : SI X tg iter mi) (ok : BlkOk X.N X.env.scope scope own) (hg : Blk X scope fun Y => WG Y (own.map (·.2)) tg g) (ht : Blk X scope fun Y => STs Y ifs tt) (he : Blk X scope fun Y => SE Y elt te)
    (hs : ∀ x, foldedSetIterable iter X.env x = pure x := by intro _; rfl) : SS X (.Assign [.Name y py] (.ListComp elt [⟨tg, iter, ifs, 0⟩] scope pos) spos) (mOwn i (mLc mi (own.map (·.2)) g tt te)) :=
  fun W tk => PS.imp (ps_setLc (g := rdGw (Cx.par X) (own.map fun (z : Str × Nat) => z.2) g) (tt := rdT (Cx.par X) W0 tt) (te := rdE (Cx.par X) W0 te) hc hN hy hyl hsw (hi W tk) ok hg (fun s H C cl fp => ht s H C cl fp W0 takes0) (fun s H C cl fp => he s H C cl fp W0 takes0) hs) fun D σv H ⟨B, F, σ, r, h⟩ => lc_rd σv H (fun x H1 => L2.gName i x σv H1 D.nx) ((rd1S (P := tL (Cx.par X)) r h).imp fun v H1 ⟨F1, s1, d, r1, e1, v1, h1⟩ => by
    obtain ⟨q, ev, f⟩ := v1
    subst ev
    exact h1 _ F1 H1 (r1.setOwn f) Ext.refl)
end
end DL
end

section
set_option Elab.async false
set_option linter.all false
set_option maxRecDepth 100000
set_option maxHeartbeats 4000000
set_option autoImplicit false
/-! DLx: an own error class below an own class below Exception, whose __init__ says super().__init__(text) and keeps its argument. -/
namespace DL
open PySem L2
open PySem.W (Frag)
/-- what the written part says of the class at C; its field is fld -/
structure SupC (K : Frag) (P : Program) (C : Addr) (fld : Str) : Prop where
  cls : ∃ nm q N bs D0 sn sub ab col dd k0 k1 k2 k3 k5, K.lookup C = some (excClassObj nm q C N bs (.ref D0 :: ESX.exTail) true sn sub ab col dd k0 k1 k2 k3 k5 "Exception.__new__")
  sa : PySem.W.findIn K (.ref C) "__setattr__" = some (some (.builtin "object.__setattr__"))
  na : PySem.W.findIn K (.ref C) fld = some none
  own : PySem.W.mroIn K C (.ref C) = some true
  exB : PySem.W.subIn K (.ref C) (.type "BaseException") = some true
  exE : PySem.W.subIn K (.ref C) (.type "Exception") = some true
  tyC : PySem.W.typeIn K (.ref C) = some (.type "type")
  kC : PySem.W.keepIn K (.ref C) = true
  sup : PySem.W.ks_superIn K C C "__init__" = some (some (.builtin "Exception.__init__"))
  noo : PySem.W.nsIn K cStatics "thirdparty.any" = some none
  top : (P.main.scope.names.lookup ("super" : Str)).isSome = false
  fn : ∃ fI par name qual params body scope dV kV doc pm cda ct cc an oc od osl, PySem.W.findIn K (.ref C) "__init__" = some (some (.ref fI)) ∧ PySem.W.typeIn K (.ref fI) = some (.type "function") ∧
    K.lookup fI = some ⟨oc, od, .func (PySem.W.ksFn name qual params body scope dV kV doc pm an (.ref cda) ct cc), osl⟩ ∧ PySem.W.codeIn K (.ref cda) qual = true ∧
    (∃ ar, (params.posonlyargs ++ params.args).head? = some ar ∧ ar.arg = ("self" : Str)) ∧
    (∃ txt p0 p1 p2 p3 p4 p5 p6 p7 p8 p9 j, body = [.Expr (.Call (.Attribute (.Call (.Name "super" p0) [] [] p1) "__init__" p2) [.Constant (.str txt) j p3] [] p4) p5, .Assign [.Attribute (.Name "self" p6) fld p7] (.Name par p8) p9] ∧ ∀ env, ∃ pl : Sem Bool, eval (.Call (.Attribute (.Call (.Name "super" p0) [] [] p1) "__init__" p2) [.Constant (.str txt) j p3] [] p4) env = (do
      let ov ← attributeBase (.Call (.Name "super" p0) [] [] p1) "__init__" env (eval (.Call (.Name "super" p0) [] [] p1) env)
      standAt p2.atName
      let (f, first) ← holding [ov] (getMethod ov "__init__" pl)
      callWith p4 f first (backTo p4 (starEach [.Constant (.str txt) j p3] env)) [])) ∧
    (∀ (s : Shared) (u v : Value), K.In s.heap → BindsTo s (PySem.W.ksFn name qual params body scope dV kV doc pm an (.ref cda) ct cc) ⟨[u, v], []⟩ [(("self" : Str), u), (par, v)]) ∧
    (∃ ccl cdd vs ccs file tf, K.lookup cda = some ⟨ccl, cdd, .fields vs, ccs⟩ ∧ vs[2]? = some (.str file tf) ∧ ((P.main.file : Str) == file) = true) ∧
    (∃ cl cld csl, K.lookup cc = some ⟨cl, cld, .cell (some (.ref C)), csl⟩) ∧
    scope.names.lookup ("super" : Str) = some .globalImplicit ∧ scope.names.lookup ("__class__" : Str) = some .free ∧ scope.names.lookup ("self" : Str) = some .local ∧ scope.names.lookup par = some .local ∧
    (par == ("self" : Str)) = false ∧ (par == ("__debug__" : Str)) = false ∧ scope.kind = .function ∧ scope.isCoroutine = false ∧ scope.isGenerator = false ∧ (∀ x ∈ scope.names, x.2 ≠ .cell)
section
open Builtin Builtin.ObjectAttr
variable {prog : Program} {w : World} {A : Around} {E : Value → Shared → Prop} {R : Result → Shared → Prop} {hp : Heap} {g : Array GenState} {d : Drawn} {t : Nat} {os : OsState}
/-- the field's first store, for a class below an own class -/
theorem osa2 {K : Frag} {name : Str} {tk : Tok} {v : Value} {x C D0 : Addr} {fv : Array Value} {cd : ClassData} (kin : K.In hp) (hx : hp.get? x = some { cls := .ref C, data := .fields fv }) (hcd : PySem.W.clsIn K C = some cd) (hm : cd.mro = .ref C :: .ref D0 :: ESX.exTail)
    (hh : cd.hasDict = true) (ha : PySem.W.findIn K (.ref C) name = some none)
    (hq : ∀ h' tk' dx, (∀ b o, b ≠ x → hp.get? b = some o → h'.get? b = some o) → hp.objs.size ≤ dx → dx ≠ x → h'.get? x = some { cls := .ref C, dict := some dx, data := .fields fv } → h'.Ns1 dx (fun y => if y = name then some v else none) → R (.ok (.ret .none)) ⟨h', g, d, tk', os⟩) :
    codeAny (model prog w) A (.call (.builtin "object.__setattr__") ⟨[.ref x, .str name tk, v], []⟩) R ⟨hp, g, d, t, os⟩ := by
  have inst : PySem.W.InstAt hp x { cls := .ref C, data := .fields fv } C none := ⟨hx, rfl, rfl, trivial⟩
  have st := F.store_object
  have hxs : x ≠ hp.objs.size := Nat.ne_of_lt (Heap.lt_size hx)
  have hob : cd.mro.contains (.type "object") = true := by
    rw [hm, List.contains_cons, List.contains_cons]
    show (_ || (_ || ESX.exTail.contains (.type "object"))) = true
    rw [show ESX.exTail.contains (.type "object") = true by decide +kernel, Bool.or_true, Bool.or_true]
  have sub : PySem.W.Looks (model prog w) hp (isInstance (.ref x) (.type "object")) true := inst.type.andThen (PySem.W.looks_mroIn kin (by
    unfold PySem.W.mroIn
    rw [hcd, Option.bind_some, if_neg (by rw [hm]; exact Bool.false_ne_true), hob]))
  refine codeAny_call_builtin st.slot.plain st.entry (@PySem.W.check_slot (model prog w) _ _ ⟨hp, g, d, t, os⟩ "object.__setattr__" "object" "__setattr__" (.ref x) [.str name tk, v] [] _ st.kind st.split sub (st.args (.ref x) (.str name tk) v) ?_)
  have look : PySem.W.Looks (model prog w) hp (mroOf (.ref C)) cd.mro := (PySem.W.looks_clsIn kin hcd).andThen .now
  have tkr : PySem.W.Looks (model prog w) hp (storeTaker? none) none := .now
  have hcls : PySem.W.Looks (model prog w) hp (classData C) cd := PySem.W.looks_clsIn kin hcd
  have pass : refuseLoop (.ref x) "__setattr__" cd.mro = pure () := by
    rw [hm, refuseLoop_ref, refuseLoop_ref]
    exact F.store_Exception.passes _
  rw [PySem.W.osa_eq, refuse_eq]
  refine wpAny_bind (wpAny_bind (inst.type.at (wpAny_bind (look.at ?_))))
  rw [pass]
  refine wpAny_pure (wpAny_bind (inst.type.at (wpAny_bind ((PySem.W.looks_findIn kin ha).at (wpAny_bind (tkr.at ?_))))))
  show wpAny _ _ (storeInOwnDict (.ref x) (.ref C) (.str name tk) name v false) _ _ _
  obtain ⟨nm, bs, mro, ns, qn, hd, sn, sb, ab, col, del⟩ := cd
  dsimp only at hh
  subst hh
  unfold storeInOwnDict ownDictForStores
  repeat (first | with_reducible refine HandSPX.store_in_new ?_ ?_ | with_reducible refine wpAny_loadPart_at hx ?_ | with_reducible refine hcls.at ?_ | wp_step)
  · exact ⟨_, #[], _, ((Heap.get?_update_ne _ _ _ _ hxs.symm).trans (Heap.get?_push_at rfl rfl)), rfl, (fun z y => absurd y (by simp)), fun _ => rfl⟩
  · intro h' tk' hn' hs
    have hx1 : (hp.push { cls := .type "dict", data := .dict #[] }).get? x = some { cls := .ref C, data := .fields fv } := Heap.get?_push_of_some _ hx
    exact hq h' tk' hp.objs.size (fun b o hb ho => (hs.2 b (Nat.ne_of_lt (Heap.lt_size ho))).trans ((Heap.get?_update_ne _ _ _ _ hb).trans (Heap.get?_push_of_some _ ho))) (Nat.le_refl _) hxs.symm ((hs.2 x hxs).trans (Heap.get?_update_self _ hx1 rfl)) hn'
end
/-- C(e) -/
def tMkU (C : Addr) (fld : Str) (ta : TA) : L2.St → Hp → XK → Prop := fun σ H Q => ta σ H fun vs H1 => ∃ y, vs = [y] ∧ ∀ d, H1 d = none → Q (.ref C) (some d) (upd H1 d (.xd [(fld, y)]))
section
variable {X : Cx} {x fld : Str} {C : Addr} {k : Nat} {e : Expr} {p pos : Pos} {ta : TA}
theorem pmk_sup (T : SupC X.K X.prog C fld) (hr : Room (k + 1) X.A) (hg : Gl X x) (hm : X.mg x = some (.ref C)) (hsu : X.mg "super" = none) (ha : PA X [e] ta)
    (hdb : (x == ("__debug__" : Str)) = false := by decide) (he : starEach [e] X.env = (false, eval e X.env) :: starEach [] X.env := by rfl) (hpl : (backTo pos (starEach [] X.env)).any (·.1) = false := by rfl) :
    PMk X (.Call (.Name x p) [e] [] pos) (tMkU C fld ta) := by
  intro pins s σ H Q I h
  obtain ⟨nm, q, N, bs, D0, sn, sub, ab, col, dd, k0, k1, k2, k3, k5, hC⟩ := T.cls
  obtain ⟨fI, par, name, qual, params, body, scope, dV, kV, doc, pm, cda, ct, cc, an, oc, od, osl, iC, tI, lkf, hcode, ⟨ar, har, hself⟩, ⟨txt, p0, p1, p2, p3, p4, p5, p6, p7, p8, p9, j, hbody, hev0⟩, hb, ⟨ccl, cdd, vs, ccs, file, tf, lkc, hvs, hfile⟩, ⟨cl, cld, csl, lkl⟩, n1, n2, n3, n4, n5, n6, hk, hco, hgen, hcell⟩ := T.fn
  have hcd : PySem.W.clsIn X.K C = some { name := nm, bases := bs, mro := .ref C :: .ref D0 :: ESX.exTail, ns := N, qualname := q, hasDict := true, slotNames := sn, subclasses := sub, abstract := ab, collection := col, hasDel := false } := by unfold PySem.W.clsIn; rw [hC] <;> rfl
  refine wpAny_Call_Name_kw (ld_glob I hg hm ?_ hdb)
  refine PySem.W.callWith_K (h₀ := X.base) I.ok.mod.kin T.kC (thn (ha.run pos pins s σ H _ I h) fun us s1 ⟨ys, H1, I1, r1, y, ey, q1⟩ => ⟨I1.kIn, ?_⟩) he hpl
  subst ey
  cases r1 with
  | @cons _ u _ ur ry rn =>
  cases rn
  show wpAny _ _ (call (.ref C) [u]) _ _ _
  obtain ⟨hp, g, dr, tk, os⟩ := s1
  have hT : ∀ Y : String, (Value.ref D0 :: ESX.exTail).contains (.type Y) = ESX.exTail.contains (.type Y) := fun Y => by
    rw [List.contains_cons]
    rfl
  refine wpAny_call (PySem.HandSPX.call_own F.excBase_Exception hT (I1.kIn _ _ hC) (PySem.W.looks_findIn I1.kIn iC) (fun self => PySem.W.bind_fn I1.kIn self tI) (show 1 ≤ sizeLine by decide) ?_)
  generalize hh2 : ((hp.push (PySem.W.kdv_tup [u])).push (PySem.HandSPX.excO C hp.objs.size)) = h2
  have kk : ∀ b o, hp.get? b = some o → h2.get? b = some o := fun b o z => by
    rw [← hh2]
    exact Heap.get?_push_of_some _ (Heap.get?_push_of_some _ z)
  have hget : h2.get? (hp.objs.size + 1) = some (PySem.HandSPX.excO C hp.objs.size) := by
    rw [← hh2]
    heap_get
  have kin2 : X.K.In h2 := I1.kIn.keeps kk
  have b2 : ∀ b o, X.base.get? b = some o → h2.get? b = some o := fun b o z => kk b o (I1.env0.bs b o z).1
  have na : hp.get? (hp.objs.size + 1) = none := by
    cases z : hp.get? (hp.objs.size + 1) with
    | none => rfl
    | some o => exact absurd (Heap.lt_size z) (by show ¬ hp.objs.size + 1 < hp.objs.size; omega)
  have room := hr.make C [u] []
  refine ks_codeAny_call_defAt (fd := PySem.W.ksFn name qual params body scope dV kV doc pm an (.ref cda) ct cc) (body := body) (binds := [(("self" : Str), .ref (hp.objs.size + 1)), (par, u)]) room.depth (kin2 _ _ lkf) rfl (I1.ok.mod.nolimit.keeps b2) (PySem.W.codeRec_of kin2 hcode) rfl (hb _ _ _ kin2) hcell
    (fun z hz => by
      rcases List.mem_cons.mp hz with rfl | hz
      · exact n3
      · rw [List.mem_singleton.mp hz]
        exact n4) (fun h3 hns hk3 => ?_) hco hgen hk
  subst hbody
  have b3 : ∀ b o, X.base.get? b = some o → h3.get? b = some o := fun b o z => hk3 b o (b2 b o z)
  have kin3 : X.K.In h3 := kin2.keeps hk3
  have lp : (List.lookup par [((par : Str), u), (("self" : Str), Value.ref (hp.objs.size + 1))]) = some u := by simp
  have ls : (List.lookup ("self" : Str) [((par : Str), u), (("self" : Str), Value.ref (hp.objs.size + 1))]) = some (Value.ref (hp.objs.size + 1)) := by
    have e2 : (("self" : Str) == par) = false := by
      rw [Bool.eq_false_iff] at n5 ⊢
      intro z
      exact n5 (by rw [eq_of_beq z]; simp)
    simp [List.lookup, e2]
  generalize henv : callEnv (PySem.W.ksFn name qual params [Stmt.Expr (.Call (.Attribute (.Call (.Name "super" p0) [] [] p1) "__init__" p2) [.Constant (.str txt) j p3] [] p4) p5, .Assign [.Attribute (.Name "self" p6) fld p7] (.Name par p8) p9] scope dV kV doc pm an (.ref cda) ct cc) h2.objs.size fI = env
  have hsc : env.scope = scope := by rw [← henv]; rfl
  have hlo : env.locals = h2.objs.size := by rw [← henv]; rfl
  have hgl : env.globals = mainGlobals := by rw [← henv]; rfl
  have hbu : env.builtins = builtinsNs := by rw [← henv]; rfl
  have hfu : env.func = some fI := by rw [← henv]; rfl
  have hcoe : env.code = .ref cda := by rw [← henv]; rfl
  have hce : env.cells = [(("__class__" : Str), cc)] := by rw [← henv]; rfl
  have kof : ∀ y, env.kindOf y = scope.names.lookup y := fun y => by rw [← hsc]; rfl
  have hin : interactive env = false := by
    unfold interactive
    rw [hsc, hk]
    rfl
  obtain ⟨pl, hev⟩ := hev0 env
  refine ks_wpAt_execs_cons (ks_wpAt_Expr_any (ks_wpAt_MethodCall (pl := pl) ?_ hev) hin rfl)
  refine ks_wpAt_super_base (ar := ar) ((kof _).trans n1) ((kof _).trans n2) rfl hfu (kin3 _ _ lkf) rfl har hcoe (kin3 _ _ lkc) rfl hvs hfile T.top ?_
  obtain ⟨mb, hmb, hbl⟩ := I1.ok.mod.blt
  have eks : env.scope.kind = .function := by rw [hsc]; exact hk
  refine PySem.W.ks_loadName_global eks ((kof _).trans n1) (Calls.loadGlobal_builtin (mg := X.mg) (mb := mb) ?_ hsu ?_ ((hbl _ (by decide)).trans (by first | boot_by_name | rfl | kernel_rfl)) ⟨rfl, ?_⟩)
  · rw [hgl]
    exact I1.ok.mod.glob.keeps b3
  · rw [hbu]
    exact hmb.keeps b3
  refine wpAny_loadName_free eks ((kof _).trans n2) (c := cc) (v := .ref C) (by rw [hce]; rfl) ⟨_, kin3 _ _ lkl, rfl⟩ ?_
  rw [hself]
  refine wpAny_loadName_local eks ((kof _).trans n3) (v := .ref (hp.objs.size + 1)) (by rw [hlo]; exact hns) ls ?_
  have a3 := hk3 _ _ hget
  obtain ⟨oD, hD1, hD2⟩ : ∃ oD : Obj, h3.get? C = some oD ∧ oD.data = .cls { name := nm, bases := bs, mro := .ref C :: .ref D0 :: ESX.exTail, ns := N, qualname := q, hasDict := true, slotNames := sn, subclasses := sub, abstract := ab, collection := col, hasDel := false } := ⟨_, kin3 _ _ hC, rfl⟩
  refine ks_wpAny_isType_cls hD1 hD2 ⟨rfl, ?_⟩
  refine ks_wpAny_call_super hD1 hD2 a3 rfl (fun c z => by cases z) (PySem.W.looks_mroIn kin3 T.own) (fun h4 hso k4 => ?_)
  have kin4 := kin3.keeps k4
  have a4 := k4 _ _ a3
  have instE : PySem.W.Looks (model X.prog X.w) h4 (isInstance (.ref (hp.objs.size + 1)) (.type "Exception")) true := (show PySem.W.InstAt h4 (hp.objs.size + 1) (PySem.HandSPX.excO C hp.objs.size) C none from ⟨a4, rfl, rfl, trivial⟩).type.andThen (PySem.W.looks_subIn kin4 T.exE)
  have xC : hp.objs.size + 1 ≠ C := fun z => by
    have y := I1.kIn _ _ hC
    rw [← z, na] at y
    cases y
  have hsup := T.sup
  unfold PySem.W.ks_superIn at hsup
  rw [hcd, Option.bind_some] at hsup
  refine ESX.getMethod_super hso (PySem.W.looks_opaque kin4 T.noo) (l₀ := .ref C :: .ref D0 :: ESX.exTail) (fun A Q E s k q => wpAny_bind ((PySem.W.looks_clsIn kin4 hcd) A _ E s k (wpAny_pure q))) rfl kin4 hsup xC rfl instE ?_
  generalize hh5 : h4.push (ESX.bw (hp.objs.size + 1)) = h5
  have k5 : ∀ b o, h4.get? b = some o → h5.get? b = some o := fun b o z => by
    rw [← hh5]
    exact Heap.get?_push_of_some _ z
  have bw5 : h5.get? h4.objs.size = some (ESX.bw (hp.objs.size + 1)) := by
    rw [← hh5]
    exact Heap.get?_push_size _ rfl
  refine ESX.callWith_bound (x := hp.objs.size + 1) (PyProof.Rows.spliced_more (Calls.Constant_str (PyProof.Rows.spliced_none ⟨bw5, ?_⟩)))
  have kin5 := kin4.keeps k5
  refine ESX.call_bw (kin5 _ _ hC) (k5 _ _ a4) bw5 (show 1 ≤ sizeLine by decide) (fun h6 t1 k6 e6 => ?_)
  show wpAt _ _ _ (execs _ env) _ _ _
  have Ca : C ≠ hp.objs.size + 1 := fun z => xC z.symm
  have La : h2.objs.size ≠ hp.objs.size + 1 := Nat.ne_of_gt (Heap.lt_size hget)
  have k06 : ∀ b o, hp.get? b = some o → h6.get? b = some o := fun b o z => k6 b o (fun y => by rw [y, na] at z; cases z) (k5 _ _ (k4 _ _ (hk3 _ _ (kk _ _ z))))
  have kin6 : X.K.In h6 := I1.kIn.keeps k06
  have ns6 : h6.Ns h2.objs.size (fun x => List.lookup x [(par, u), (("self" : Str), Value.ref (hp.objs.size + 1))]) := hns.at fun o z => k6 _ o La (k5 _ _ (k4 _ _ z))
  refine ks_wpAt_execs_cons (ks_wpAt_Assign_Attr ?_ rfl)
  refine wpAt_of_wpAny (wpAny_Name ?_ n6)
  refine wpAny_loadName_local eks ((kof _).trans n4) (m := fun y => List.lookup y [(par, u), (("self" : Str), Value.ref (hp.objs.size + 1))]) (v := u) ?_ lp ?_
  · rw [hlo]
    exact ns6
  refine wpAny_Name ?_
  refine wpAny_loadName_local eks ((kof _).trans n3) (m := fun y => List.lookup y [(par, u), (("self" : Str), Value.ref (hp.objs.size + 1))]) (v := .ref (hp.objs.size + 1)) ?_ ls ?_
  · rw [hlo]
    exact ns6
  refine PySem.W.set_plain kin6 (ox := PySem.HandSPX.excO C t1) (od := none) ⟨e6, rfl, rfl, trivial⟩ T.sa ?_
  refine osa2 kin6 e6 hcd rfl rfl T.na (fun h7 tk7 dx k7 d7 dne hx7 hn7 => ?_)
  show wpAt _ _ _ (execs [] env) _ _ _
  rw [execs_nil]
  refine wpAt_of_wpAny (wpAny_pure ⟨rfl, ?_⟩)
  have k07 : ∀ b o, hp.get? b = some o → h7.get? b = some o := fun b o z => k7 b o (fun y => by rw [y, na] at z; cases z) (k06 b o z)
  obtain ⟨G, g1', g2'⟩ := restrict h7 fun b => decide (b ≠ hp.objs.size + 1)
  have gk : ∀ b, b ≠ hp.objs.size + 1 → G.get? b = h7.get? b := fun b hb => g1' b (decide_eq_true hb)
  have ge : G.get? (hp.objs.size + 1) = none := g2' _ (by simp)
  have kG : ∀ b o, hp.get? b = some o → G.get? b = some o := fun b o z => (gk b (fun y => by rw [y, na] at z; cases z)).trans (k07 b o z)
  have dge : hp.objs.size ≤ dx := by
    have y := Heap.lt_size e6
    exact Nat.le_trans (Nat.le_succ _) (Nat.le_trans (Nat.le_of_lt y) d7)
  have nd : H1 dx = none := I1.hok.fresh dge
  have J := I1.laid (t' := tk7) (a := dx) (o := .xd [(fld, y)]) (h' := G) kG dge ⟨_, hn7.at (fun o z => (gk dx dne).trans z), relO_put (fs := []) ry (fun _ => True.intro)⟩
  have nH : (upd H1 dx (.xd [(fld, y)])) (hp.objs.size + 1) = none := by
    rw [upd_ne (Ne.symm dne)]
    exact I1.hok.fresh (Nat.le_succ _)
  refine ⟨hp.objs.size + 1, _, _, ⟨G, g, dr, tk7, os⟩, _, .ref C, some dx, rfl, J, fun b o z => ?_, ge, hx7, ⟨rfl, rfl⟩, rfl, rfl, nH, rfl, I1.bare, raises_own T.exB T.tyC, q1 dx nd⟩
  have hb : b ≠ hp.objs.size + 1 := fun y => by
    rw [y] at z
    exact absurd (z.symm.trans ge) (by simp)
  exact (gk b hb).symm.trans z
end
end DL
end

section
set_option Elab.async false
set_option linter.all false
set_option maxRecDepth 100000
set_option maxHeartbeats 2000000
set_option autoImplicit false
/-! DL11: errors raised, caught, read. -/
namespace DL
open PySem L2
/-! ### raise -/
def mRaise (c fld : Str) (ma : M D) : MS := fun σ => (ma σ).run fun d s => .err c [(fld, d)] s
section
variable {X : Cx} {e : Expr} {ma : M D} {x fld : Str} {C : Addr} {k : Nat} {p pos pos' : Pos}
theorem ss_raise (hc : X.calm = true) (T : SupC X.K X.prog C fld) (hr : Room (k + 1) X.A) (hg : Gl X x) (hm : X.mg x = some (.ref C)) (hsu : X.mg "super" = none) (ha : SE X e ma)
    (hdb : (x == ("__debug__" : Str)) = false := by decide) (he : starEach [e] X.env = (false, eval e X.env) :: starEach [] X.env := by rfl) (hpl : (backTo pos (starEach [] X.env)).any (·.1) = false := by rfl) :
    SS X (.Raise (some (.Call (.Name x p) [e] [] pos)) none pos') (mRaise x fld ma) :=
  fun W tk => PS.imp (ps_raise hc tk (pmk_sup T hr hg hm hsu (pa_cons (ha W tk) pa_nil he) hdb he hpl)) fun D σv H ⟨B, F, σ, r, h⟩ => (rd1S (P := tD (Cx.par X)) r h).imp fun v H1 ⟨F1, s1, d, r1, e1, v1, h1⟩ => by
    refine ⟨v, rfl, fun dx hd => ?_⟩
    have n : New F1 H1 F1 (upd H1 dx (.xd [(fld, v)])) := New.obj r1.dom hd
    exact h1 σv F1 _ dx C (r1.new n) (n.ext r1.dom) hm ⟨[(fld, v)], upd_same, rfl, .cons (v1.ext (n.ext r1.dom)) .nil⟩
end
/-! ### isinstance of a caught error that has its dict -/
section
open PySem.W (Frag)
variable {prog : Program} {w : World} {A : Around} {E : Value → Shared → Prop} {s : Shared} {K : Frag} {x D0 : Addr} {ox od : Obj}
theorem kin_classD {Q : Option Value → Shared → Prop} (T : ExcC K D0) (kin : K.In s.heap) (inst : PySem.W.InstAt s.heap x ox D0 (some od)) (h : Q (some (.ref D0)) { s with toks := s.toks + 1 }) : wpAny (model prog w) A (getAttr? (.ref x) "__class__") Q E s := by
  have hf : PySem.W.findObj K D0 (some od) "__class__" = some (.bind (.builtin "getset_descriptor.__get__") (.builtin "object.__class__")) := PySem.W.findObj_data (by obtain ⟨cd, hc, _⟩ := PySem.W.any_some T.hd; rw [hc]; rfl) T.ha T.hn T.ht
  obtain ⟨hp, g, d, t, os⟩ := s
  have ty := inst.type (M := model prog w)
  have ga := PySem.W.looks_findIn (M := model prog w) kin T.hg
  have gn := PySem.W.looks_findIn (M := model prog w) kin T.hk
  have fo := PySem.W.looks_find (M := model prog w) kin inst hf
  have sub : PySem.W.Looks (model prog w) hp (isInstance (.ref x) (.type "BaseException")) true := ty.andThen (PySem.W.looks_subIn kin T.hs)
  have no : (onTheHeap (Value.ref D0) && Value.builtin "BaseException.__getattribute__" == Value.builtin "object.__getattribute__") = false := by rw [show (Value.builtin "BaseException.__getattribute__" == Value.builtin "object.__getattribute__") = false by decide +kernel]; rfl
  unfold getAttr? getAttrBy?
  unfold getAttrBy
  refine wpAny_bind (wpAny_mkText (wpAny_bind (wpAny_attempt (wpAny_holding (wpAny_bind (ty.at (wpAny_bind (ga.at ?_))))))))
  show wpAny _ _ (if (onTheHeap (Value.ref D0) && Value.builtin "BaseException.__getattribute__" == Value.builtin "object.__getattribute__") = true then _ else _) _ _ _
  rw [no, if_neg Bool.false_ne_true]
  unfold getAttrByItsOwn hookBefore
  refine wpAny_bind ?_
  rw [if_pos (show onTheHeap (Value.ref D0) = true from rfl)]
  refine gn.at (wpAny_bind (wpAny_attempt (wpAny_holding ?_)))
  unfold callGetattribute
  rw [show (false && onTheHeap (Value.builtin "BaseException.__getattribute__")) = false from rfl, if_neg Bool.false_ne_true]
  unfold boundAndCalled
  rw [F.excAttr_ValueError.ga.bind (.ref x)]
  refine wpAny_bind (wpAny_pure ?_)
  show wpAny _ _ (call (.builtin "BaseException.__getattribute__") [.ref x, .str "__class__" t]) _ _ _
  refine wpAny_call (codeAny_call_builtin F.excAttr_ValueError.ga.plain F.entry_bexc_ga (@PySem.W.check_slot (model prog w) _ _ ⟨hp, g, d, t + 1, os⟩ "BaseException.__getattribute__" "BaseException" "__getattribute__" (.ref x) [.str "__class__" t] [] _ (by decide +kernel) (by decide +kernel) sub (F.args_bexc_ga (.ref x) (.str "__class__" t)) ?_))
  unfold Builtin.«object.__getattribute__»
  refine wpAny_bind (wpAny_of_eq (a := ((Value.ref x : Value), [Value.str "__class__" t])) (by first | rfl | (simp only [slotArgs]; rfl)) ?_)
  refine wpAny_bind (wpAny_pure (wpAny_bind (ty.at (wpAny_bind (fo.at ?_)))))
  show wpAny _ _ (holding [Value.builtin "object.__class__"] (call (.builtin "getset_descriptor.__get__") [.builtin "object.__class__", .ref x, .ref D0]) >>= ret) _ _ _
  refine wpAny_bind (wpAny_holding (wpAny_call (PySem.W.class_get (s := ⟨hp, g, d, t + 1, os⟩) (ox := ox) (od := some od) kin inst T.hm (wpAny_pure ?_))))
  show wpAny _ _ (handedOut (.ref D0)) _ _ _
  rw [PySem.W.handedOut_of (v := .ref D0) rfl]
  first
    | exact wpAny_pure (wpAny_pure h)
    | exact wpAny_pure h
    | exact wpAny_pure (wpAny_bind (wpAny_pure (wpAny_pure h)))
theorem kitx_dict (T : ExcC K D0) : PySem.W.KitX K (.ref x) (.ref D0) (fun h => ∃ od, PySem.W.InstAt h x ox D0 (some od)) where
  ty := fun _ _ _ ⟨_, i⟩ => i.type
  it := fun _ _ kin _ => by
    obtain ⟨cd, hcd, _⟩ := PySem.W.any_some T.hd
    unfold PySem.W.clsIn at hcd
    split at hcd
    · rename_i ho
      intro A' Q' E' s' k q
      unfold isType loadHead
      exact wpAny_bind (wpAny_loadPart (k _ _ (kin _ _ ho)) (wpAny_pure q))
    · cases hcd
  ne := fun h tp dd its n sl kin htp => by
    obtain ⟨cd, hcd, _⟩ := PySem.W.any_some T.hd
    refine Bool.eq_false_iff.mpr fun q => ?_
    obtain rfl : D0 = tp := Value.ref.inj (beq_iff_eq.mp q)
    unfold PySem.W.clsIn at hcd
    split at hcd
    · rename_i ho
      cases (kin _ _ ho).symm.trans htp
    · cases hcd
  ca := fun kin ⟨_, i⟩ k => kin_classD T kin i k
end
/-! ### what a suite says of the error -/
/-- slot i holds the error at a, its dict at dx holds fs -/
structure XS (p : Par) (i : Nat) (a dx : Addr) (F : Addr → Prop) (σv : L2.St) (H : Hp) (fs : List (Str × D)) : Prop where
  dom : Dom F H
  at_ : σv[i]? = some (some (.ref a))
  xd : XdR p F H dx fs
abbrev XF := List (Str × D) → Option D
abbrev XFs := List (Str × D) → Option (List D)
def rdSX (p : Par) (i : Nat) (a dx : Addr) (f : XF) : TE := fun σv H Q => ∃ F fs d, XS p i a dx F σv H fs ∧ f fs = some d ∧ ∀ v F' H', New F H F' H' → DV p F' H' v d → Q v H'
def rdSXs (p : Par) (i : Nat) (a dx : Addr) (f : XFs) : TA := fun σv H Q => ∃ F fs ds, XS p i a dx F σv H fs ∧ f fs = some ds ∧ ∀ vs F' H', New F H F' H' → DVs p F' H' vs ds → Q vs H'
def SX (X : Cx) (i : Nat) (e : Expr) (f : Str → XF) : Prop := ∀ a oe dx C c pn, X.mg c = some (.ref C) → Zc (.ref C) (some dx) oe → (∃ vs, oe.data = .fields vs) → PE (X.suite a ((a, oe) :: pn)) e (rdSX (Cx.par X) i a dx (f c))
def SXs (X : Cx) (i : Nat) (es : List Expr) (f : Str → XFs) : Prop := ∀ a oe dx C c pn, X.mg c = some (.ref C) → Zc (.ref C) (some dx) oe → (∃ vs, oe.data = .fields vs) → PA (X.suite a ((a, oe) :: pn)) es (rdSXs (Cx.par X) i a dx (f c))
section
variable {X : Cx} {i : Nat} {e a b c : Expr} {es : List Expr} {f g : Str → XF} {fs gs : Str → XFs} {x : Str} {p pos : Pos}
theorem XS.new {p : Par} {i : Nat} {a dx : Addr} {F F' : Addr → Prop} {σv : L2.St} {H H' : Hp} {fs : List (Str × D)} (s : XS p i a dx F σv H fs) (n : New F H F' H') : XS p i a dx F' σv H' fs := by
  refine ⟨n.dom, s.at_, ?_⟩
  obtain ⟨kvs, e1, e2, e3⟩ := s.xd
  exact ⟨kvs, n.keep _ _ e1, e2, e3.ext (n.ext s.dom)⟩
theorem sx_c {d : D} {v : V} (h : ∀ Y : Cx, PE Y e (tC v)) (hd : ∀ F H, DV (Cx.par X) F H v d) : SX X i e fun _ _ => some d := fun a oe dx C c pn _ _ _ => PE.imp (h _) fun σv H Q ⟨F, fs, d', s, e, k⟩ => by
  cases e
  exact k v F H (New.refl s.dom) (hd F H)
theorem sx_int {n : Int} {j : Nat} : SX X i (.Constant (.int n) j pos) fun _ _ => some (.int n) := sx_c (fun _ => pe_int) fun _ _ => .int n
theorem sx_str {n : Str} {j : Nat} : SX X i (.Constant (.str n) j pos) fun _ _ => some (.str n) := sx_c (fun _ => pe_str) fun _ _ => .str n
theorem sx_bl {n : Bool} {j : Nat} : SX X i (.Constant (.bool n) j pos) fun _ _ => some (.bl n) := sx_c (fun _ => pe_bl) fun _ _ => .bl n
theorem sx_non {j : Nat} : SX X i (.Constant .none j pos) fun _ _ => some .non := sx_c (fun _ => pe_non) fun _ _ => .non
theorem xd_field {p : Par} {F : Addr → Prop} {H : Hp} : ∀ {kvs : List (Str × V)} {fs : List (Str × D)} {n : Str} {d : D}, kvs.map (·.1) = fs.map (·.1) → DVs p F H (kvs.map (·.2)) (fs.map (·.2)) → fs.lookup n = some d → ∃ v, kvs.lookup n = some v ∧ DV p F H v d
  | [], [], _, _, _, _, e => by cases e
  | (k, v) :: kvs, (k', d') :: fs, n, d, hk, hd, e => by
    have e1 : k = k' := (List.cons.inj hk).1
    have e2 := (List.cons.inj hk).2
    subst e1
    rw [List.lookup_cons] at e ⊢
    cases hd with
    | cons h1 h2 =>
      cases q : n == k with
      | true =>
        rw [q] at e
        cases e
        exact ⟨v, rfl, h1⟩
      | false =>
        rw [q] at e
        exact xd_field e2 h2 e
/-- err.n, for the classes named in cs -/
def fAt (cs : List Str) (n : Str) : Str → XF := fun c fs => if cs.contains c = true then fs.lookup n else none
theorem sx_at {cs : List Str} {n y : Str} (hN : X.N[i]? = some y) (hv : Vis X.env.scope y) (hC : ∀ c C, cs.contains c = true → X.mg c = some (.ref C) → XfC X.K C ∧ PySem.W.findIn X.K (.ref C) n = some none)
    (hdb : (y == ("__debug__" : Str)) = false := by decide) (hcd : (y == ("__classdict__" : Str)) = false := by decide) (hb : attributeBase (.Name y p) n X.env (eval (.Name y p) X.env) = eval (.Name y p) X.env := by rfl) :
    SX X i (.Attribute (.Name y p) n pos) (fAt cs n) := by
  intro a oe dx C c pn hm hz hf
  by_cases hc : cs.contains c = true
  · obtain ⟨h1, h2⟩ := hC c C hc hm
    refine PE.imp (pe_xf (X := X) h1 h2 hz hf (pe_var (X := X.suite a ((a, oe) :: pn)) hN hv hdb hcd) hb) fun σv H Q ⟨F, fs, d, s, e, k⟩ => ?_
    unfold fAt at e
    rw [if_pos hc] at e
    obtain ⟨kvs, e1, e2, e3⟩ := s.xd
    obtain ⟨v, e4, dv⟩ := xd_field e2 e3 e
    exact ⟨.ref a, s.at_, rfl, rfl, dx, kvs, v, rfl, e1, e4, k v F H (New.refl s.dom) dv⟩
  · refine ⟨fun pins s σ H Q I h => ?_⟩
    obtain ⟨F, fs, d, _, e, _⟩ := h
    unfold fAt at e
    rw [if_neg hc] at e
    cases e
theorem sxs_nil : SXs X i [] fun _ _ => some [] := fun a oe dx C c pn _ _ _ => PA.imp pa_nil fun σv H Q ⟨F, fs, ds, s, e, k⟩ => by
  cases e
  exact k [] F H (New.refl s.dom) .nil
theorem sxs_cons (h1 : SX X i e f) (h2 : SXs X i es fs) (hs : ∀ Y : Cx, starEach (e :: es) Y.env = (false, eval e Y.env) :: starEach es Y.env := by intro _; rfl) : SXs X i (e :: es) fun c l => (f c l).bind fun d => (fs c l).bind fun ds => some (d :: ds) := fun a oe dx C c pn hm hz hf =>
  PA.imp (pa_cons (h1 a oe dx C c pn hm hz hf) (h2 a oe dx C c pn hm hz hf) (hs _)) fun σv H Q ⟨F, l, ds, s, e, k⟩ => by
    cases e1 : f c l with
    | none =>
      simp only [e1] at e
      cases e
    | some d =>
      cases e2 : fs c l with
      | none =>
        simp only [e1, e2] at e
        cases e
      | some dr =>
        simp only [e1, e2] at e
        cases e
        exact ⟨F, l, d, s, e1, fun v F1 H1 n1 dv => ⟨F1, l, dr, s.new n1, e2, fun vs F2 H2 n2 dvs => k (v :: vs) F2 H2 (n1.trans n2) (.cons (dv.ext (n2.ext n1.dom)) dvs)⟩⟩
def fTup (fs : Str → XFs) : Str → XF := fun c l => (fs c l).bind fun ds => if ds.length ≤ sizeLine then some (.tup ds) else none
def fLst (fs : Str → XFs) : Str → XF := fun c l => (fs c l).bind fun ds => if ds.length ≤ sizeLine then some (.lst ds) else none
theorem sx_tup {x1 : Nat} (h : SXs X i es fs) : SX X i (.Tuple es x1 pos) (fTup fs) := fun a oe dx C c pn hm hz hf => PE.imp (pe_tup (h a oe dx C c pn hm hz hf)) fun σv H Q ⟨F, l, d, s, e, k⟩ => by
  unfold fTup at e
  cases e1 : fs c l with
  | none =>
    simp only [e1] at e
    cases e
  | some ds =>
    simp only [e1, Option.bind_some] at e
    split at e
    · rename_i hl
      cases e
      refine ⟨F, l, ds, s, e1, fun vs F1 H1 n1 dvs => ⟨by rw [dvs.length]; exact hl, fun q hq => ?_⟩⟩
      have n2 : New F1 H1 F1 (upd H1 q (.tup vs)) := New.tup n1.dom hq
      exact k _ F1 _ (n1.trans n2) (.tup (.inl (.inl upd_same)) (dvs.ext (n2.ext n1.dom)))
    · cases e
theorem sx_lst (h : SXs X i es fs) : SX X i (.List es pos) (fLst fs) := fun a oe dx C c pn hm hz hf => PE.imp (pe_lst (h a oe dx C c pn hm hz hf)) fun σv H Q ⟨F, l, d, s, e, k⟩ => by
  unfold fLst at e
  cases e1 : fs c l with
  | none =>
    simp only [e1] at e
    cases e
  | some ds =>
    simp only [e1, Option.bind_some] at e
    split at e
    · rename_i hl
      cases e
      refine ⟨F, l, ds, s, e1, fun vs F1 H1 n1 dvs => ⟨by rw [dvs.length]; exact hl, fun q hq => ?_⟩⟩
      have n2 : New F1 H1 (fun a => F1 a ∨ a = q) (upd H1 q (.lst vs)) := New.lst n1.dom hq
      exact k _ _ _ (n1.trans n2) (.lst (.inl ⟨.inr rfl, upd_same⟩) (dvs.ext (n2.ext n1.dom)))
    · cases e
/-- isinstance(err, M) -/
theorem call_isD {a D0 : Addr} {dx : Addr} {oe : Obj} {pn : List (Addr × Obj)} (T : ExcC X.K D0) (hz : Zc (.ref D0) (some dx) oe) (hf : ∃ vs, oe.data = .fields vs) :
    CallR (X.suite a ((a, oe) :: pn)) (.builtin "isinstance") (fun xs H Q => ∃ (m : Addr) (b : Bool) (kvs : List (Str × V)), xs = [.ref a, .ref m] ∧ H dx = some (.xd kvs) ∧ PySem.W.kitOne X.K (.ref D0) (.ref m) = some b ∧ Q (.bl b) H) := by
  intro pins s σ H xs us Q I r h
  obtain ⟨m, b, kvs, rfl, ed, e, q⟩ := h
  cases r with
  | cons rx rr =>
    cases rr with
    | cons rt rr =>
      cases rr
      cases rx
      cases rt
      obtain ⟨hget, _⟩ := I.pin (a, oe) (List.mem_append_left _ List.mem_cons_self)
      obtain ⟨vs, hv⟩ := hf
      have hx : ObjOk X.prog X.w H s.heap dx (.xd kvs) := I.hok dx _ ed
      obtain ⟨mA, hns, _⟩ := hx
      obtain ⟨od, ho, _⟩ := lookIn_ns hns
      have J : PySem.W.InstAt s.heap a oe D0 (some od) := ⟨hget, hz.1, by unfold PySem.W.notCls; rw [hv] <;> rfl, by rw [hz.2]; exact ho⟩
      exact PySem.W.kia_one (kitx_dict T) I.kIn ⟨od, J⟩ e (fun z => nomatch z) fun tk => ⟨.bl b, H, I.kept (t' := tk) fun _ _ z => z, rfl, q⟩
def rdSB (p : Par) (i : Nat) (a dx : Addr) (f : List (Str × D) → Option Bool) : TT := fun σv H Q => ∃ F fs b, XS p i a dx F σv H fs ∧ f fs = some b ∧ Q b H
def SXb (X : Cx) (i : Nat) (e : Expr) (f : Str → Option Bool) : Prop := ∀ a oe dx C c pn, X.mg c = some (.ref C) → Zc (.ref C) (some dx) oe → (∃ vs, oe.data = .fields vs) → PE (X.suite a ((a, oe) :: pn)) e (fun σv H Q => ∃ F fs b, XS (Cx.par X) i a dx F σv H fs ∧ f c = some b ∧ Q (.bl b) H)
theorem sx_isi {y m : Str} {q1 q2 : Pos} {M : Addr} {tb : Str → Option Bool} (hN : X.N[i]? = some y) (hv : Vis X.env.scope y) (hg : Gl X "isinstance") (hmi : X.mg "isinstance" = none) (hgm : Gl X m) (hmm : X.mg m = some (.ref M))
    (hC : ∀ c b C, tb c = some b → X.mg c = some (.ref C) → ExcC X.K C ∧ PySem.W.kitOne X.K (.ref C) (.ref M) = some b)
    (hdm : (m == ("__debug__" : Str)) = false := by decide) (hdb : (y == ("__debug__" : Str)) = false := by decide) (hcd : (y == ("__classdict__" : Str)) = false := by decide)
    (he : ∀ Y : Cx, starEach [.Name y q1, .Name m q2] Y.env = (false, eval (.Name y q1) Y.env) :: starEach [.Name m q2] Y.env := by intro _; rfl) (he2 : ∀ Y : Cx, starEach [.Name m q2] Y.env = (false, eval (.Name m q2) Y.env) :: starEach [] Y.env := by intro _; rfl)
    (hpl : ∀ Y : Cx, (backTo pos (starEach [.Name m q2] Y.env)).any (·.1) = false := by intro _; rfl) :
    SXb X i (.Call (.Name "isinstance" p) [.Name y q1, .Name m q2] [] pos) tb := by
  intro a oe dx C c pn hm hz hf
  cases ht : tb c with
  | none =>
    refine ⟨fun pins s σ H Q I h => ?_⟩
    obtain ⟨_, _, _, _, e, _⟩ := h
    cases e
  | some b =>
    obtain ⟨h1, h2⟩ := hC c b C ht hm
    refine PE.imp (pe_callB (call_isD h1 hz hf) hg hmi (by first | boot_by_name | rfl | kernel_rfl) (pa_cons (pe_var (X := X.suite a ((a, oe) :: pn)) hN hv hdb hcd) (pa_cons (pe_glob (v := .ref M) hgm hmm rfl hdm) pa_nil (he2 _)) (he _)) (by decide) (by decide) (he _) (hpl _)) fun σv H Q ⟨F, fs, b', s, e, k⟩ => ?_
    cases e
    obtain ⟨kvs, e1, _⟩ := s.xd
    exact ⟨.ref a, s.at_, M, b, kvs, rfl, e1, h2, k⟩
/-- a if isinstance(err, M) else b -/
def fIf (t : Str → Option Bool) (f g : Str → XF) : Str → XF := fun c l => match t c with
  | some true => f c l
  | some false => g c l
  | none => none
theorem sx_if {t : Str → Option Bool} (hc : SXb X i c t) (ha : SX X i a f) (hb : SX X i b g) (he : ∀ (Y : Cx) whole, isTrue c Y.env whole = (do let v ← whole; standAt c.pos; holding [v] (truthy v)) := by intro _ _; rfl) : SX X i (.IfExp c a b pos) (fIf t f g) := fun a' oe dx C c' pn hm hz hf =>
  PE.imp (pe_ifExp (pt_val (hc a' oe dx C c' pn hm hz hf) (he _)) (ha a' oe dx C c' pn hm hz hf) (hb a' oe dx C c' pn hm hz hf)) fun σv H Q ⟨F, l, d, s, e, k⟩ => by
    unfold fIf at e
    cases ht : t c' with
    | none =>
      simp only [ht] at e
      cases e
    | some b =>
      refine ⟨F, l, b, s, rfl, b, rfl, ?_⟩
      cases b with
      | true =>
        simp only [ht] at e
        rw [if_pos rfl]
        exact ⟨F, l, d, s, e, k⟩
      | false =>
        simp only [ht] at e
        rw [if_neg Bool.false_ne_true]
        exact ⟨F, l, d, s, e, k⟩
end
/-! ### try .. except C as err: return .. -/
def mTryR (i : Nat) (body : MS) (cat : Str → Option Bool) (f : Str → XF) : MS := fun σ => match body σ with
  | .err c fs s => match cat c with
    | some true => match f c fs with
      | some d => if i < s.length then .ret (.v d) (s.set i .no) else .bad
      | none => .bad
    | some false => .err c fs s
    | none => .bad
  | r => r
section
variable {X : Cx} {i : Nat} {e : Expr} {f : Str → XF} {x n : Str} {body : List Stmt} {m1 : MS} {np pos pos' pos'' : Pos} {cv : Value} {cat : Str → Option Bool}
/-- the judgement within a try's body -/
abbrev Trb (X : Cx) (P : Cx → Prop) : Prop := ∀ (pn : List (Addr × Obj)) (xe : Value → Shared → Prop), PassesOwn (model X.prog X.w) X.A X.env xe → P (X.tr pn xe)
theorem ss_tryR (hs : X.stack = X.env :: X.outer) (hfr : X.env.frame = some X.env.locals) (hN : X.N.Nodup) (hi : X.N[i]? = some n) (hln : X.env.kindOf n = some .local) (hc : Names X x cv)
    (hcat : ∀ c b C, cat c = some b → X.mg c = some (.ref C) → PySem.W.exmOne X.K (.ref C) cv = some b) (hb : Trb X fun Y => SSs Y body m1) (hx : SX X i e f) :
    SS X (.Try body [.ExceptHandler (some (.Name x np)) (some n) [.Return (some e) pos''] pos'] [] [] pos) (mTryR i m1 cat f) := by
  intro W tk
  refine PS.imp (ps_try_as (ts := fun a cls d D σv H => ∃ C c dx F fs d', cls = .ref C ∧ d = some dx ∧ X.mg c = some (.ref C) ∧ XS (Cx.par X) i a dx F σv H fs ∧ f c fs = some d' ∧ ∀ v F' H', New F H F' H' → DV (Cx.par X) F' H' v d' → D.rt v H')
    (tb := fun W' => rdS (Cx.par X) W' m1) hs hfr hN hi hln hc tk (fun W' pn xe tk' po => hb pn xe po W' tk') (fun a oe cls d pn hz hv => ⟨fun pins s σv H D I hw => ?_⟩)) fun D σv H ⟨B, F, σ, r, h⟩ => ⟨B, F, σ, r, ?_⟩
  · obtain ⟨C, c, dx, F, fs, d', e1, e2, hm, xs, hf, k⟩ := hw
    subst e1 e2
    exact (pss_one (ps_ret (hx a oe dx C c pn hm hz hv))).run pins s σv H D I ⟨F, fs, d', xs, hf, k⟩
  · unfold mTryR at h
    cases em : m1 σ with
    | nx s =>
      rw [em] at h
      exact h
    | brk s =>
      rw [em] at h
      exact h
    | cont s =>
      rw [em] at h
      exact h
    | ret d s =>
      rw [em] at h
      exact h
    | bad =>
      rw [em] at h
      exact h
    | err c fs s =>
      rw [em] at h
      have h : coreS (Cx.par X) W D B F σv H (match cat c with | some true => (match f c fs with | some d => if i < s.length then .ret (.v d) (s.set i .no) else .bad | none => .bad) | some false => .err c fs s | none => .bad) := h
      intro σv' F' H' dx C r' x' hm xd
      cases hcc : cat c with
      | none =>
        rw [hcc] at h
        exact h.elim
      | some b =>
        rw [hcc] at h
        refine ⟨b, hcat c b C hcc hm, fun hb1 a ha => ?_, fun hb1 => ?_⟩
        · subst hb1
          have h : coreS (Cx.par X) W D B F σv H (match f c fs with | some d => if i < s.length then .ret (.v d) (s.set i .no) else .bad | none => .bad) := h
          cases hf : f c fs with
          | none =>
            rw [hf] at h
            exact h.elim
          | some d =>
            rw [hf] at h
            have h : coreS (Cx.par X) W D B F σv H (if i < s.length then .ret (.v d) (s.set i .no) else .bad) := h
            by_cases hl : i < s.length
            · rw [if_pos hl] at h
              refine ⟨C, c, dx, F', fs, d, rfl, rfl, hm, ⟨r'.dom, by rw [List.getElem?_set_self (by rw [← r'.len]; exact hl)], xd⟩, hf, fun v F2 H2 n2 dv => ?_⟩
              exact h v (σv'.set i (some (.ref a))) F2 H2 ((r'.drop i (some (.ref a))).new n2) (x'.trans (n2.ext r'.dom)) dv
            · rw [if_neg hl] at h
              exact h.elim
        · subst hb1
          exact h σv' F' H' dx C r' x' hm xd
end
end DL
end

section
set_option Elab.async false
set_option linter.all false
set_option maxRecDepth 100000
set_option maxHeartbeats 2000000
set_option autoImplicit false
/-! DLs: t[::k] of a tuple, k 1 or -1. -/
namespace DL
open PySem L2
section
open PyProof.Rows HT PySem.SeqAt PySem.MeetsSeq PySem.MeetsSeq2 PySem.MeetsSeq3
variable {prog : Program} {w : World} {A : Around} {E : Value → Shared → Prop} {s : Shared}
/-- what stands at t[::k] -/
theorem step_tup {t sl : Addr} {items : Array Value} {k : Int} {u : Tok} {Q : Value → Shared → Prop} (ht : IsTup s.heap t items) (hs : s.heap.IsSliceOf sl .none .none (.int k u)) (hk : k = 1 ∨ k = -1) (h1 : k = 1 → Q (.ref t) s)
    (h2 : k = -1 → Q (.ref s.heap.objs.size) { s with heap := s.heap.push { cls := .type "tuple", data := .seq items.toList.reverse.toArray } }) (hsz : items.size ≤ sizeLine) : wpAny (model prog w) A (getItem (.ref t) (.ref sl)) Q E s := by
  obtain ⟨os, hos, hcs, hds⟩ := id hs
  have tys : s.TypeIs (.ref sl) "slice" := ⟨os, hos, hcs⟩
  unfold getItem
  try with_reducible refine wpAny_holding ?_
  first | refine wpAny_bind (wpAny_pure ?_) | skip
  refine wpAny_bind (wpAny_sequenceKey ht.typeIs (by decide) ?_)
  refine wpAny_bind (wpAny_callSpecial?_slot (name := Str.ofString "__getitem__") ht.typeIs slot_tuple_getitem (wpAny_call_entry slot_tuple_getitem ht.typeIs entry_tuple_getitem ?_ (args_tuple_getitem _ _)))
  show wpAny _ _ (Builtin.Tuple.tupleItemsOf (.ref t) >>= _) _ _ s
  refine wpAny_bind (tupleItemsOf_ ht (wpAny_bind (wpAny_typeOf tys ?_)))
  rw [if_pos (by decide)]
  refine wpAny_bind ?_
  unfold Builtin.Slice.sliceApplied Builtin.Slice.sliceFields
  refine wpAny_bind (wpAny_bind (wpAny_field hos hds (x := .none) rfl (wpAny_bind (wpAny_field hos hds (x := .none) rfl (wpAny_bind (wpAny_field hos hds (x := .int k u) rfl (wpAny_pure ?_)))))))
  refine wpAny_bind (slicePart_int ?_)
  rcases hk with e | e
  · subst e
    show wpAny _ _ (if ((1 : Int) == 0) = true then _ else _) _ _ s
    rw [if_neg (by decide)]
    refine wpAny_bind (slicePart_none (wpAny_bind (slicePart_none (wpAny_bind (wpAny_pure ?_)))))
    show wpAny _ _ (match Builtin.Slice.sliceAdjust none none 1 (items.size : Int) with | (lo, hi) => pure (lo, (1 : Int), Builtin.Slice.slicePlaces lo hi 1)) _ _ s
    rw [adjust_gen none none items.size]
    show wpAny _ _ (pure (((0 : Nat) : Int), (1 : Int), Builtin.Slice.slicePlaces ((0 : Nat) : Int) ((items.size : Nat) : Int) 1)) _ _ s
    rw [places_gen]
    refine wpAny_pure ?_
    show wpAny _ _ (if (((0 : Nat) : Int) == 0 && (1 : Int) == 1 && (items.size - 0) == items.size) = true then _ else _) _ _ s
    rw [if_pos (by simp)]
    refine wpAny_bind ?_
    show wpAny _ _ (typeOf (.ref t) >>= fun T => pure (T == .type "tuple")) _ _ s
    refine wpAny_bind (wpAny_typeOf ht.typeIs (wpAny_pure ?_))
    first
      | rw [if_pos (by decide)]
      | simp only [beq_self_eq_true, if_true]
    first
      | exact wpAny_bind (wpAny_rule (wpAny_pure ⟨_, rfl, wpAny_pure (h1 rfl)⟩))
      | exact wpAny_bind (wpAny_rule (wpAny_bind (wpAny_pure (wpAny_pure ⟨_, rfl, wpAny_pure (h1 rfl)⟩))))
  · subst e
    show wpAny _ _ (if ((-1 : Int) == 0) = true then _ else _) _ _ s
    rw [if_neg (by decide)]
    refine wpAny_bind (slicePart_none (wpAny_bind (slicePart_none (wpAny_bind (wpAny_pure ?_)))))
    show wpAny _ _ (pure ((items.size : Int) - 1, (-1 : Int), Builtin.Slice.slicePlaces ((items.size : Int) - 1) (-1) (-1))) _ _ s
    have pl : Builtin.Slice.slicePlaces ((items.size : Int) - 1) (-1) (-1) = items.size := by
      unfold Builtin.Slice.slicePlaces
      rw [if_neg (by decide)]
      have e1 : (-(-1 : Int)) = 1 := by decide
      rw [e1, Int.ediv_one]
      split <;> omega
    rw [pl]
    refine wpAny_pure ?_
    show wpAny _ _ (if (((items.size : Int) - 1) == 0 && (-1 : Int) == 1 && items.size == items.size) = true then _ else _) _ _ s
    rw [if_neg (by simp)]
    have pick : ((List.range items.size).filterMap fun (m : Nat) => items[((items.size : Int) - 1 + (m : Int) * -1).toNat]?).toArray = items.toList.reverse.toArray := by
      congr 1
      apply List.ext_getElem?
      intro i
      have e2 : (List.range items.size).filterMap (fun (m : Nat) => items[((items.size : Int) - 1 + (m : Int) * -1).toNat]?) = (List.range items.size).filterMap ((fun k => items[k]?) ∘ fun m => items.size - 1 - m) := by
        congr 1
        funext m
        have : ((items.size : Int) - 1 + (m : Int) * -1).toNat = items.size - 1 - m := by omega
        show items[_]? = items[_]?
        rw [this]
      rw [e2, ← List.filterMap_map, PySem.W.krv_range, List.filterMap_reverse, PySem.W.krv_all]
    have fits : sizeOk (.seq items.toList.reverse.toArray) := by
      show items.toList.reverse.toArray.size ≤ sizeLine
      rw [List.size_toArray, List.length_reverse, Array.length_toList]
      exact hsz
    rw [pick]
    have h := h2 rfl
    first
      | exact wpAny_bind (m := Builtin.Tuple.tupleExact _) (wpAny_newObj_type (wpAny_pure ⟨_, rfl, wpAny_pure h⟩) fits)
      | exact wpAny_bind (m := Builtin.Tuple.tupleExact _) (wpAny_newObj_type (wpAny_bind (wpAny_pure (wpAny_pure ⟨_, rfl, wpAny_pure h⟩))) fits)
      | exact wpAny_bind (wpAny_bind (m := Builtin.Tuple.tupleExact _) (wpAny_newObj_type (wpAny_pure (wpAny_pure ⟨_, rfl, wpAny_pure h⟩)) fits))
      | exact wpAny_bind (wpAny_bind (m := Builtin.Tuple.tupleExact _) (wpAny_newObj_type (wpAny_pure ⟨_, rfl, wpAny_pure h⟩) fits))
end
def mStep (ma mk : M D) : M D := fun σ => (ma σ).bind fun x s => (mk s).bind fun k t => match x, k with
  | .tup xs, .int k => if k = 1 then .ok (.tup xs) t else if k = -1 then .ok (.tup xs.reverse) t else .bad
  | _, _ => .bad
section
variable {X : Cx} {e st : Expr} {ma mk : M D} {pos p2 : Pos}
theorem pe_step {te tk : TE} (he : PE X e te) (hk : PE X st tk) (hsub : ∀ o i : Value, subscripted (.Slice none none (some st) p2) false o i = operate [o, i] (getItem o i)) : PE X (.Subscript e (.Slice none none (some st) p2) pos) (fun σ H Q => te σ H fun x H1 => tk σ H1 fun y H2 => ∃ a xs k, x = .ref a ∧ y = .int k ∧ SqT X.K H2 a xs ∧ (k = 1 ∨ k = -1) ∧ (k = 1 → Q (.ref a) H2) ∧ (k = -1 → ∀ q, H2 q = none → Q (.ref q) (upd H2 q (.tup xs.reverse)))) := by
  refine ⟨fun pins s σ H Q I h => ?_⟩
  refine PyProof.Rows.Subscript_ (thn (he.run pins s σ H _ I h) fun v s1 ⟨x, H1, I1, r1, q1⟩ => ?_)
  refine wpAny_Slice ?_
  rw [evalPart_none, evalPart_some]
  refine wpAny_pure (wpAny_pure ?_)
  refine thn (hk.run pins s1 σ H1 _ I1 q1) fun vk s3 ⟨y, H3, I3, rk, a, xs, k, ex, ey, hx, hk, q3, q2⟩ => ?_
  subst ex ey
  obtain ⟨tk, rfl⟩ := rk
  cases r1
  have I4 : Inv X pins σ H3 { s3 with heap := s3.heap.push { cls := .type "slice", data := .fields #[.none, .none, .int k tk] } } := I3.kept (t' := s3.toks) fun b ob q => Heap.get?_push_of_some _ q
  obtain ⟨its, r, ht, hz⟩ := I4.tuple hx
  show wpAny (model X.prog X.w) X.A (PyProof.Rows.subscriptTail e (.Slice none none (some st) p2) (.ref a) (.ref s3.heap.objs.size)) (EP X pins σ Q) X.xe { s3 with heap := s3.heap.push { cls := .type "slice", data := .fields #[.none, .none, .int k tk] } }
  refine PyProof.Rows.tail_any (ops := [.ref a, .ref s3.heap.objs.size]) ht.typeIs PyProof.Rows.slot_tuple_getitem.lookup (step_tup ht (Heap.IsSliceOf.new ..) hk (fun e => ?_) (fun e => ?_) (by rw [List.size_toArray, ← r.length]; exact hz)) (hsub _ _)
  · exact ⟨.ref a, H3, I4, rfl, q3 e⟩
  · refine ⟨.ref _, _, I4.laid (t' := s3.toks) (o := .tup xs.reverse) (fun b ob q => Heap.get?_push_of_some _ q) (Nat.le_refl _) ?_, rfl, q2 e _ (I4.hok.fresh (Nat.le_refl _))⟩
    refine show ObjOk X.prog X.w _ _ _ (.tup xs.reverse) from ⟨?_, its.reverse, r.reverse, ?_⟩
    · rw [List.length_reverse]
      exact hz
    · exact PyProof.Rows.IsTup.new _ _
theorem se_step (he : SE X e ma) (hk : SE X st mk) (hsub : ∀ o i : Value, subscripted (.Slice none none (some st) p2) false o i = operate [o, i] (getItem o i) := by intro _ _; with_unfolding_all rfl) : SE X (.Subscript e (.Slice none none (some st) p2) pos) (mStep ma mk) := fun W tk => PE.imp (pe_step (he W tk) (hk W tk) hsub) fun σv H Q ⟨B, F, σ, r0, h⟩ =>
  (rd1 (P := tD (Cx.par X)) r0 h).imp fun v H1 ⟨F1, s1, d, r1, e1, v1, h1⟩ => (rd1 (P := tD (Cx.par X)) r1 h1).imp fun u H2 ⟨F2, s2, k, r2, e2, v2, h2⟩ => by
    have v3 := v1.ext e2
    cases d with
    | tup xs =>
      cases k with
      | int k =>
        cases v3 with
        | @tup a vs _ g1 g2 =>
          cases v2
          have h2 : core (Cx.par X) W (tD (Cx.par X)) B F2 σv H2 (if k = 1 then .ok (.tup xs) s2 else if k = -1 then .ok (.tup xs.reverse) s2 else .bad) Q := h2
          by_cases k1 : k = 1
          · rw [if_pos k1] at h2
            exact ⟨a, vs, k, rfl, rfl, g1, .inl k1, fun _ => core_ok (P := tD (Cx.par X)) r2 h2 (.tup g1 g2), fun z => absurd (k1.symm.trans z) (by decide)⟩
          · rw [if_neg k1] at h2
            by_cases k2 : k = -1
            · rw [if_pos k2] at h2
              refine ⟨a, vs, k, rfl, rfl, g1, .inr k2, fun z => absurd z k1, fun _ q hq => ?_⟩
              have n : New F2 H2 F2 (upd H2 q (.tup vs.reverse)) := New.tup r2.dom hq
              exact core_new (β := V) r2 h2 n (.tup (.inl (.inl upd_same)) (g2.reverse.ext (n.ext r2.dom)))
            · rw [if_neg k2] at h2
              exact h2.elim
      | non => exact h2.elim
      | bl i => exact h2.elim
      | str x => exact h2.elim
      | lst xs => exact h2.elim
      | tup xs => exact h2.elim
      | gl x => exact h2.elim
    | non => exact h2.elim
    | bl i => exact h2.elim
    | int i => exact h2.elim
    | str x => exact h2.elim
    | lst xs => exact h2.elim
    | gl x => exact h2.elim
end
end DL
end

section
set_option Elab.async false
set_option linter.all false
set_option maxRecDepth 100000
set_option maxHeartbeats 2000000
set_option autoImplicit false
/-! DL12: built-ins on data. -/
namespace DL
open PySem L2
def lenD : List D → Option D
  | [.lst xs] => some (.int xs.length)
  | [.tup xs] => some (.int xs.length)
  | [.str x] => if x.length ≤ sizeLine then some (.int x.length) else none
  | _ => none
def absD : List D → Option D
  | [.int i] => some (.int (if i < 0 then -i else i))
  | _ => none
def intD : List D → Option D
  | [.int i] => some (.int i)
  | [.bl b] => some (.int (if b then 1 else 0))
  | _ => none
def minD : List D → Option D
  | [.int i, .int j] => some (.int (if j < i then j else i))
  | _ => none
def maxD : List D → Option D
  | [.int i, .int j] => some (.int (if j > i then j else i))
  | _ => none
def tupD : List D → Option D
  | [.lst xs] => some (.tup xs)
  | [.tup xs] => some (.tup xs)
  | _ => none
def lstD : List D → Option (List D)
  | [.lst xs] => some xs
  | [.tup xs] => some xs
  | _ => none
/-- all of them truth values -/
def bools? : List D → Option (List Bool)
  | [] => some []
  | .bl b :: r => (bools? r).map (b :: ·)
  | _ :: _ => none
def allD : List D → Option D
  | [.lst xs] => (bools? xs).map fun bs => .bl (bs.all id)
  | _ => none
def anyD : List D → Option D
  | [.lst xs] => (bools? xs).map fun bs => .bl (bs.any id)
  | _ => none
/-- what repr is told of -/
def repOk (d : D) : Bool := plain d && ((toP d).showable && (decide ((toP d).shown.length ≤ sizeLine) && (decide ((toP d).depth ≤ 60) && !(toP d).hasDict)))
def reprD : List D → Option D
  | [d] => if repOk d = true then some (.str (toP d).shown) else none
  | _ => none
section
variable {X : Cx} {p : Par}
theorem pc_len : PC1 (Cx.par X) (fun xs H Q => ∃ x n, xs = [x] ∧ LenV X.K x H n ∧ Q (.int n) H) lenD := by
  intro F H vs ds d Q hd hv hf k
  unfold lenD at hf
  split at hf
  · cases hf
    cases hv with
    | cons h1 h2 =>
      cases h2
      cases h1 with
      | @lst a ws _ g1 g2 => exact ⟨.ref a, _, rfl, .inl ⟨ws, g1.sq, g2.length.symm⟩, po_same hd k (.int _)⟩
  · cases hf
    cases hv with
    | cons h1 h2 =>
      cases h2
      cases h1 with
      | @tup a ws _ g1 g2 => exact ⟨.ref a, _, rfl, .inr ⟨ws, g1, g2.length.symm⟩, po_same hd k (.int _)⟩
  · split at hf
    · rename_i hl
      cases hf
      cases hv with
      | cons h1 h2 =>
        cases h2
        cases h1
        exact ⟨_, _, rfl, ⟨hl, rfl⟩, po_same hd k (.int _)⟩
    · cases hf
  · cases hf
theorem pc_abs : PC1 p (fun xs H Q => ∃ i, xs = [.int i] ∧ Q (.int (if i < 0 then -i else i)) H) absD := by
  intro F H vs ds d Q hd hv hf k
  unfold absD at hf
  split at hf
  · cases hf
    cases hv with
    | cons h1 h2 =>
      cases h2
      cases h1
      exact ⟨_, rfl, po_same hd k (.int _)⟩
  · cases hf
theorem pc_int : PC1 p (fun xs H Q => (∃ i, xs = [.int i] ∧ Q (.int i) H) ∨ ∃ k, xs = [.bl k] ∧ Q (.int (if k then 1 else 0)) H) intD := by
  intro F H vs ds d Q hd hv hf k
  unfold intD at hf
  split at hf
  · cases hf
    cases hv with
    | cons h1 h2 =>
      cases h2
      cases h1
      exact .inl ⟨_, rfl, po_same hd k (.int _)⟩
  · cases hf
    cases hv with
    | cons h1 h2 =>
      cases h2
      cases h1
      exact .inr ⟨_, rfl, po_same hd k (.int _)⟩
  · cases hf
theorem pc_min : PC1 p (fun xs H Q => ∃ i j, xs = [.int i, .int j] ∧ Q (.int (if j < i then j else i)) H) minD := by
  intro F H vs ds d Q hd hv hf k
  unfold minD at hf
  split at hf
  · cases hf
    cases hv with
    | cons h1 h2 =>
      cases h2 with
      | cons h2 h3 =>
        cases h3
        cases h1
        cases h2
        exact ⟨_, _, rfl, po_same hd k (.int _)⟩
  · cases hf
theorem pc_max : PC1 p (fun xs H Q => ∃ i j, xs = [.int i, .int j] ∧ Q (.int (if j > i then j else i)) H) maxD := by
  intro F H vs ds d Q hd hv hf k
  unfold maxD at hf
  split at hf
  · cases hf
    cases hv with
    | cons h1 h2 =>
      cases h2 with
      | cons h2 h3 =>
        cases h3
        cases h1
        cases h2
        exact ⟨_, _, rfl, po_same hd k (.int _)⟩
  · cases hf
theorem pc_tup : PC1 (Cx.par X) (fun xs H Q => ∃ p ys, xs = [.ref p] ∧ ((SqL X.K H p ys ∧ ∀ l, H l = none → Q (.ref l) (upd H l (.tup ys))) ∨ (SqT X.K H p ys ∧ Q (.ref p) H))) tupD := by
  intro F H vs ds d Q hd hv hf k
  unfold tupD at hf
  split at hf
  · cases hf
    cases hv with
    | cons h1 h2 =>
      cases h2
      cases h1 with
      | @lst a ws _ g1 g2 =>
        refine ⟨a, ws, rfl, .inl ⟨g1.sq, fun l hl => ?_⟩⟩
        have n : New F H F (upd H l (.tup ws)) := New.tup hd hl
        exact k _ F _ n (.tup (.inl (.inl upd_same)) (g2.ext (n.ext hd)))
  · cases hf
    cases hv with
    | cons h1 h2 =>
      cases h2
      cases h1 with
      | @tup a ws _ g1 g2 => exact ⟨a, ws, rfl, .inr ⟨g1, po_same hd k (.tup g1 g2)⟩⟩
  · cases hf
theorem pc_lst : PCL (Cx.par X) (fun xs H Q => ∃ p ys, xs = [.ref p] ∧ (SqL X.K H p ys ∨ SqT X.K H p ys) ∧ ∀ l, H l = none → Q (.ref l) (upd H l (.lst ys))) lstD := by
  intro F H vs ds d Q hd hv hf k
  unfold lstD at hf
  split at hf
  · cases hf
    cases hv with
    | cons h1 h2 =>
      cases h2
      cases h1 with
      | @lst a ws _ g1 g2 => exact ⟨a, ws, rfl, .inl g1.sq, fun l hl => k l ws hl g2⟩
  · cases hf
    cases hv with
    | cons h1 h2 =>
      cases h2
      cases h1 with
      | @tup a ws _ g1 g2 => exact ⟨a, ws, rfl, .inr g1, fun l hl => k l ws hl g2⟩
  · cases hf
theorem bools_at {F : Addr → Prop} {H : Hp} : ∀ {ds : List D} {vs : List V} {bs : List Bool}, DVs p F H vs ds → bools? ds = some bs → vs = bs.map V.bl
  | [], _, _, .nil, e => by
    cases e
    rfl
  | d :: ds, _, bs, .cons h1 h2, e => by
    cases d with
    | bl b =>
      have e : (bools? ds).map (b :: ·) = some bs := e
      cases e2 : bools? ds with
      | none =>
        rw [e2] at e
        cases e
      | some r =>
        rw [e2] at e
        cases e
        cases h1
        rw [List.map_cons, ← bools_at h2 e2]
    | non => cases e
    | int i => cases e
    | str i => cases e
    | lst i => cases e
    | tup i => cases e
    | gl i => cases e
theorem pc_all : PC1 (Cx.par X) (rAll X.K) allD := by
  intro F H vs ds d Q hd hv hf k
  unfold allD at hf
  split at hf
  · rename_i xs
    cases e : bools? xs with
    | none =>
      rw [e] at hf
      cases hf
    | some bs =>
      rw [e] at hf
      cases hf
      cases hv with
      | cons h1 h2 =>
        cases h2
        cases h1 with
        | @lst a ws _ g1 g2 => exact ⟨a, bs, rfl, by rw [← bools_at g2 e]; exact g1.sq, po_same hd k (.bl _)⟩
  · cases hf
theorem pc_any : PC1 (Cx.par X) (rAny X.K) anyD := by
  intro F H vs ds d Q hd hv hf k
  unfold anyD at hf
  split at hf
  · rename_i xs
    cases e : bools? xs with
    | none =>
      rw [e] at hf
      cases hf
    | some bs =>
      rw [e] at hf
      cases hf
      cases hv with
      | cons h1 h2 =>
        cases h2
        cases h1 with
        | @lst a ws _ g1 g2 => exact ⟨a, bs, rfl, by rw [← bools_at g2 e]; exact g1.sq, po_same hd k (.bl _)⟩
  · cases hf
/-! repr -/
def rRepr (K : PySem.W.Frag) : List V → Hp → VK → Prop := fun xs H Q => ∃ v d, xs = [v] ∧ Dp K H v d ∧ d.showable = true ∧ d.shown.length ≤ sizeLine ∧ d.depth ≤ 60 ∧ d.hasDict = false ∧ Q (.str d.shown) H
theorem call_repr {k : Nat} (hr : Room k X.A) (hgd : X.A.guards = some []) : CallR X (.builtin "repr") (rRepr X.K) := by
  intro pins s σ H xs us Q I r h
  obtain ⟨v, d, rfl, hd, h1, h2, h3, h4, q⟩ := h
  obtain ⟨u, rfl, rx⟩ := vals1 r
  obtain ⟨as, rd⟩ := Dp.reads I d v u hd rx
  have hu : X.A.units + 200 < cLine := by
    have := hr.un
    omega
  cases rd with
  | none =>
    refine PySem.P.repr_of_none ⟨.str _, H, I.tok _, ⟨_, rfl⟩, ?_⟩
    simpa only [PyData.shown] using q
  | bool b =>
    refine PySem.P.repr_of_bool ⟨.str _, H, I.tok _, ⟨_, rfl⟩, ?_⟩
    simpa only [PyData.shown] using q
  | int i t =>
    refine PySem.P.repr_of_int (by simpa [PyData.showable] using h1) ⟨.str _, H, I.tok _, ⟨_, rfl⟩, ?_⟩
    simpa only [PyData.shown] using q
  | str x t =>
    refine PySem.P.repr_of_str ⟨.str _, H, I.tok _, ⟨_, rfl⟩, ?_⟩ (by simpa only [PyData.shown] using h2)
    simpa only [PyData.shown] using q
  | list a1 a2 a3 a4 => exact repr_of_reads' (.list a1 a2 a3 a4) h1 (PyData.noDict_hsm h4) hgd (by omega) (fun _ _ e => e) (fun h' u tk kk => ⟨.str _, H, I.kept kk, ⟨_, rfl⟩, q⟩) h2
  | tuple a1 a2 a3 a4 => exact repr_of_reads' (.tuple a1 a2 a3 a4) h1 (PyData.noDict_hsm h4) hgd (by omega) (fun _ _ e => e) (fun h' u tk kk => ⟨.str _, H, I.kept kk, ⟨_, rfl⟩, q⟩) h2
  | dict => cases h4
theorem pc_repr : PC1 (Cx.par X) (rRepr X.K) reprD := by
  intro F H vs ds d Q hd hv hf k
  unfold reprD at hf
  split at hf
  · rename_i e
    split at hf
    · rename_i ho
      cases hf
      unfold repOk at ho
      simp only [Bool.and_eq_true, decide_eq_true_eq, Bool.not_eq_true'] at ho
      obtain ⟨o1, o2, o3, o4, o5⟩ := ho
      cases hv with
      | cons h1 h2 =>
        cases h2
        exact ⟨_, toP e, rfl, h1.dp o1, o2, o3, o4, o5, po_same hd k (.str _)⟩
    · cases hf
  · cases hf
end
/-! ### isinstance -/
def tyD : D → Option String
  | .non => some "NoneType"
  | .bl _ => some "bool"
  | .int _ => some "int"
  | .str _ => some "str"
  | .lst _ => some "list"
  | .tup _ => some "tuple"
  | .gl _ => none
def subT (t T : String) : Bool := t == T || (t == "bool" && T == "int")
def isiD (T : String) (d : D) : Option D := (tyD d).map fun t => .bl (subT t T)
def isiD2 (T U : String) (d : D) : Option D := (tyD d).map fun t => .bl (subT t T || subT t U)
def KitOk (T : String) : Prop := ∀ t ∈ ["NoneType", "bool", "int", "str", "list", "tuple"], kitB t T = some (subT t T)
theorem tyD_in {d : D} {t : String} (h : tyD d = some t) : t ∈ ["NoneType", "bool", "int", "str", "list", "tuple"] := by
  cases d <;> cases h <;> decide
theorem tyX_of {X : Cx} {F : Addr → Prop} {H : Hp} {v : V} {d : D} {t : String} (h : DV (Cx.par X) F H v d) (e : tyD d = some t) : TyX X.K H v (.type t) := by
  cases h with
  | non =>
    cases e
    exact .base .non
  | bl b =>
    cases e
    exact .base (.bl b)
  | int i =>
    cases e
    exact .base (.int i)
  | str x =>
    cases e
    exact .base (.str x)
  | gl h => cases e
  | lst h1 h2 =>
    cases e
    rcases h1 with ⟨_, h⟩ | ⟨o, h⟩ | ⟨o, its, n, h, c, _⟩
    · exact .base (.lst h)
    · exact .base (.frz h)
    · exact .kList h c
  | tup h1 h2 =>
    cases e
    rcases h1 with (h | ⟨o, h⟩) | ⟨o, its, n, h, c, _⟩
    · exact .base (.tup h)
    · exact .fTuple h
    · exact .kTuple h c
section
variable {X : Cx} {e : Expr} {ma : M D} {T U : String} {x y : Str} {p1 p2 p3 p4 pos : Pos} {k1 : Nat}
theorem se_isi1 (hk : KitOk T) (hg : Gl X "isinstance") (hm : X.mg "isinstance" = none) (hgx : Gl X x) (hmx : X.mg x = none) (hvx : bootBuiltins x = some (.type T)) (he : SE X e ma) (hnx : x ≠ "__name__" := by decide) (hdx : (x == ("__debug__" : Str)) = false := by decide)
    (h1 : starEach [e, .Name x p2] X.env = (false, eval e X.env) :: starEach [.Name x p2] X.env := by rfl) (h2 : starEach [.Name x p2] X.env = (false, eval (.Name x p2) X.env) :: starEach [] X.env := by rfl) (hpl : (backTo pos (starEach [.Name x p2] X.env)).any (·.1) = false := by rfl) :
    SE X (.Call (.Name "isinstance" p1) [e, .Name x p2] [] pos) (mOp1 (isiD T) ma) :=
  fun W tk => PE.imp (pe_callB call_isi hg hm (by first | boot_by_name | rfl | kernel_rfl) (pa_cons (he W tk) (pa_cons (pe_bltn (v := .ty T) hgx hmx hvx rfl hnx hdx) pa_nil h2) h1) (by decide) (by decide) h1 hpl) fun σv H Q ⟨B, F, σ, r0, h⟩ =>
    (rd1 (P := tD (Cx.par X)) r0 h).imp fun v H1 ⟨F1, s1, d, r1, e1, v1, h1⟩ => by
      obtain ⟨z, hz, h1⟩ := core_opt h1
      unfold isiD at hz
      cases ht : tyD d with
      | none =>
        rw [ht] at hz
        cases hz
      | some t =>
        rw [ht] at hz
        cases hz
        exact ⟨v, .ty T, .type t, .type T, subT t T, rfl, .ty T, tyX_of v1 ht, kit_ty (hk t (tyD_in ht)), core_ok (P := tD (Cx.par X)) r1 h1 (.bl _)⟩
theorem se_isi2 (hk : KitOk T) (hk2 : KitOk U) (hg : Gl X "isinstance") (hm : X.mg "isinstance" = none) (hgx : Gl X x) (hmx : X.mg x = none) (hvx : bootBuiltins x = some (.type T)) (hgy : Gl X y) (hmy : X.mg y = none) (hvy : bootBuiltins y = some (.type U)) (he : SE X e ma)
    (hnx : x ≠ "__name__" := by decide) (hdx : (x == ("__debug__" : Str)) = false := by decide) (hny : y ≠ "__name__" := by decide) (hdy : (y == ("__debug__" : Str)) = false := by decide)
    (h1 : starEach [e, .Tuple [.Name x p2, .Name y p3] k1 p4] X.env = (false, eval e X.env) :: starEach [.Tuple [.Name x p2, .Name y p3] k1 p4] X.env := by rfl) (h2 : starEach [.Tuple [.Name x p2, .Name y p3] k1 p4] X.env = (false, eval (.Tuple [.Name x p2, .Name y p3] k1 p4) X.env) :: starEach [] X.env := by rfl)
    (h3 : starEach [.Name x p2, .Name y p3] X.env = (false, eval (.Name x p2) X.env) :: starEach [.Name y p3] X.env := by rfl) (h4 : starEach [.Name y p3] X.env = (false, eval (.Name y p3) X.env) :: starEach [] X.env := by rfl)
    (hpl : (backTo pos (starEach [.Tuple [.Name x p2, .Name y p3] k1 p4] X.env)).any (·.1) = false := by rfl) :
    SE X (.Call (.Name "isinstance" p1) [e, .Tuple [.Name x p2, .Name y p3] k1 p4] [] pos) (mOp1 (isiD2 T U) ma) :=
  fun W tk => PE.imp (pe_callB call_isiT hg hm (by first | boot_by_name | rfl | kernel_rfl) (pa_cons (he W tk) (pa_cons (pe_tup (pa_cons (pe_bltn (v := .ty T) hgx hmx hvx rfl hnx hdx) (pa_cons (pe_bltn (v := .ty U) hgy hmy hvy rfl hny hdy) pa_nil h4) h3)) pa_nil h2) h1) (by decide) (by decide) h1 hpl) fun σv H Q ⟨B, F, σ, r0, h⟩ =>
    (rd1 (P := tD (Cx.par X)) r0 h).imp fun v H1 ⟨F1, s1, d, r1, e1, v1, h1⟩ => by
      obtain ⟨z, hz, h1⟩ := core_opt h1
      unfold isiD2 at hz
      cases ht : tyD d with
      | none =>
        rw [ht] at hz
        cases hz
      | some t =>
        rw [ht] at hz
        cases hz
        refine ⟨by show 2 ≤ sizeLine; decide, fun q hq => ?_⟩
        have n : New F1 H1 F1 (upd H1 q (.tup [.ty T, .ty U])) := New.tup r1.dom hq
        refine ⟨v, q, [.ty T, .ty U], .type t, [.type T, .type U], subT t T || subT t U, rfl, upd_same, .cons (.ty T) (.cons (.ty U) .nil), tyX_of (v1.ext (n.ext r1.dom)) ht, ?_, core_new (β := V) r1 h1 n (.bl _)⟩
        have a1 : PySem.W.kitOne X.K (.type t) (.type T) = some (subT t T) := kit_ty (hk t (tyD_in ht))
        have a2 : PySem.W.kitOne X.K (.type t) (.type U) = some (subT t U) := kit_ty (hk2 t (tyD_in ht))
        unfold PySem.W.kitAny
        rw [a1]
        cases subT t T with
        | true => rfl
        | false =>
          unfold PySem.W.kitAny
          rw [a2]
          cases subT t U <;> rfl
end
/-! ### list(range(..)), tuple(range(..)) -/
def rgOk (a b : Int) : Prop := -(2 ^ 62) ≤ a ∧ a < 2 ^ 62 ∧ -(2 ^ 62) ≤ b ∧ b < 2 ^ 62 ∧ (b - a).toNat ≤ 2 ^ 24
noncomputable instance (a b : Int) : Decidable (rgOk a b) := Classical.propDecidable _
noncomputable def mRg1L (ma : M D) : M (List D) := fun σ => (ma σ).bind fun x s => match x with
  | .int n => if rgOk 0 n then .ok (rngs 0 n) s else .bad
  | _ => .bad
noncomputable def mRg2L (ma mb : M D) : M (List D) := fun σ => (ma σ).bind fun x s => (mb s).bind fun y t => match x, y with
  | .int a, .int b => if rgOk a b then .ok (rngs a b) t else .bad
  | _, _ => .bad
/-- as a tuple -/
def mToT (ml : M (List D)) : M D := fun σ => (ml σ).bind fun xs s => .ok (.tup xs) s
theorem dvs_rg {p : Par} {F : Addr → Prop} {H : Hp} (a b : Int) : DVs p F H (rgV a b) (rngs a b) := by
  unfold rgV rngs
  exact DVs.map _ _ (fun i => .int _) _
section
variable {X : Cx} {a b : Expr} {ma mb : M D} {p1 p2 pos pos2 : Pos}
theorem sl_lrg1 (hc : X.calm = true) (hg : Gl X "list") (hm : X.mg "list" = none) (hg2 : Gl X "range") (hm2 : X.mg "range" = none) (ha : SE X a ma)
    (na : starEach [a] X.env = (false, eval a X.env) :: starEach [] X.env := by rfl) (nr : starEach [.Call (.Name "range" p2) [a] [] pos2] X.env = (false, eval (.Call (.Name "range" p2) [a] [] pos2) X.env) :: starEach [] X.env := by rfl) :
    SL X (.Call (.Name "list" p1) [.Call (.Name "range" p2) [a] [] pos2] [] pos) (mRg1L ma) :=
  fun W tk => PE.imp (pe_listRg hc hg hm (prg_1 hg2 hm2 (ha W tk) na) nr) fun σv H Q ⟨B, F, σ, r0, h⟩ => (rd1 (P := tD (Cx.par X)) r0 h).imp fun v H1 ⟨F1, s1, d, r1, e1, v1, h1⟩ => by
    cases d with
    | int n =>
      cases v1
      have h1 : core (Cx.par X) W (tL (Cx.par X)) B F1 σv H1 (if rgOk 0 n then .ok (rngs 0 n) s1 else .bad) Q := h1
      by_cases hr : rgOk 0 n
      · rw [if_pos hr] at h1
        refine ⟨n, rfl, hr, fun q hq => ?_⟩
        obtain ⟨r2, f2⟩ := Free.laid r1 hq (dvs_rg 0 n)
        exact h1 _ _ _ r2 ((New.obj r1.dom hq).ext r1.dom) ⟨q, rfl, f2⟩
      · rw [if_neg hr] at h1
        exact h1.elim
    | non => exact h1.elim
    | bl i => exact h1.elim
    | str x => exact h1.elim
    | lst xs => exact h1.elim
    | tup xs => exact h1.elim
    | gl x => exact h1.elim
theorem rg2_rd {W : WX} {α β : Type} {P : Tel (List D) V} {f : List D → DSt → R α} {P2 : Tel α V} : True := trivial
theorem sl_lrg2 (hc : X.calm = true) (hg : Gl X "list") (hm : X.mg "list" = none) (hg2 : Gl X "range") (hm2 : X.mg "range" = none) (ha : SE X a ma) (hb : SE X b mb)
    (na : starEach [a, b] X.env = (false, eval a X.env) :: starEach [b] X.env := by rfl) (nb : starEach [b] X.env = (false, eval b X.env) :: starEach [] X.env := by rfl) (hpl : (backTo pos2 (starEach [b] X.env)).any (·.1) = false := by rfl)
    (nr : starEach [.Call (.Name "range" p2) [a, b] [] pos2] X.env = (false, eval (.Call (.Name "range" p2) [a, b] [] pos2) X.env) :: starEach [] X.env := by rfl) :
    SL X (.Call (.Name "list" p1) [.Call (.Name "range" p2) [a, b] [] pos2] [] pos) (mRg2L ma mb) :=
  fun W tk => PE.imp (pe_listRg hc hg hm (prg_2 hg2 hm2 (ha W tk) (hb W tk) na nb hpl) nr) fun σv H Q ⟨B, F, σ, r0, h⟩ => (rd1 (P := tD (Cx.par X)) r0 h).imp fun v H1 ⟨F1, s1, d, r1, e1, v1, h1⟩ => (rd1 (P := tD (Cx.par X)) r1 h1).imp fun u H2 ⟨F2, s2, k, r2, e2, v2, h2⟩ => by
    cases d with
    | int n =>
      cases k with
      | int m =>
        cases v1
        cases v2
        have h2 : core (Cx.par X) W (tL (Cx.par X)) B F2 σv H2 (if rgOk n m then .ok (rngs n m) s2 else .bad) Q := h2
        by_cases hr : rgOk n m
        · rw [if_pos hr] at h2
          refine ⟨n, m, rfl, rfl, hr, fun q hq => ?_⟩
          obtain ⟨r3, f3⟩ := Free.laid r2 hq (dvs_rg n m)
          exact h2 _ _ _ r3 ((New.obj r2.dom hq).ext r2.dom) ⟨q, rfl, f3⟩
        · rw [if_neg hr] at h2
          exact h2.elim
      | non => exact h2.elim
      | bl i => exact h2.elim
      | str x => exact h2.elim
      | lst xs => exact h2.elim
      | tup xs => exact h2.elim
      | gl x => exact h2.elim
    | non => exact h2.elim
    | bl i => exact h2.elim
    | str x => exact h2.elim
    | lst xs => exact h2.elim
    | tup xs => exact h2.elim
    | gl x => exact h2.elim
theorem se_trg1 (hc : X.calm = true) (hg : Gl X "tuple") (hm : X.mg "tuple" = none) (hg2 : Gl X "range") (hm2 : X.mg "range" = none) (ha : SE X a ma)
    (na : starEach [a] X.env = (false, eval a X.env) :: starEach [] X.env := by rfl) (nr : starEach [.Call (.Name "range" p2) [a] [] pos2] X.env = (false, eval (.Call (.Name "range" p2) [a] [] pos2) X.env) :: starEach [] X.env := by rfl) :
    SE X (.Call (.Name "tuple" p1) [.Call (.Name "range" p2) [a] [] pos2] [] pos) (mToT (mRg1L ma)) :=
  fun W tk => PE.imp (pe_tupRg hc hg hm (prg_1 hg2 hm2 (ha W tk) na) nr) fun σv H Q ⟨B, F, σ, r0, h⟩ => by
    have h : core (Cx.par X) W (tD (Cx.par X)) B F σv H ((ma σ).bind fun x s => R.bind (match x with | .int n => if rgOk 0 n then .ok (rngs 0 n) s else .bad | _ => .bad) fun xs s => .ok (.tup xs) s) Q := by
      unfold mToT mRg1L at h
      cases e : ma σ with
      | ok x s =>
        rw [e] at h
        exact h
      | err c fs s =>
        rw [e] at h
        exact h
      | bad =>
        rw [e] at h
        exact h
    refine (rd1 (P := tD (Cx.par X)) r0 h).imp fun v H1 ⟨F1, s1, d, r1, e1, v1, h1⟩ => ?_
    cases d with
    | int n =>
      cases v1
      have h1 : core (Cx.par X) W (tD (Cx.par X)) B F1 σv H1 ((if rgOk 0 n then R.ok (rngs 0 n) s1 else .bad).bind fun xs s => .ok (.tup xs) s) Q := h1
      by_cases hr : rgOk 0 n
      · rw [if_pos hr] at h1
        refine ⟨n, rfl, hr, fun q hq => ?_⟩
        have n2 : New F1 H1 F1 (upd H1 q (.tup (rgV 0 n))) := New.tup r1.dom hq
        exact core_new (β := V) r1 h1 n2 (.tup (.inl (.inl upd_same)) (dvs_rg 0 n))
      · rw [if_neg hr] at h1
        exact h1.elim
    | non => exact h1.elim
    | bl i => exact h1.elim
    | str x => exact h1.elim
    | lst xs => exact h1.elim
    | tup xs => exact h1.elim
    | gl x => exact h1.elim
noncomputable def mRg2T (ma mb : M D) : M D := fun σ => (ma σ).bind fun x s => (mb s).bind fun y t => match x, y with
  | .int a, .int b => if rgOk a b then .ok (.tup (rngs a b)) t else .bad
  | _, _ => .bad
theorem se_trg2 (hc : X.calm = true) (hg : Gl X "tuple") (hm : X.mg "tuple" = none) (hg2 : Gl X "range") (hm2 : X.mg "range" = none) (ha : SE X a ma) (hb : SE X b mb)
    (na : starEach [a, b] X.env = (false, eval a X.env) :: starEach [b] X.env := by rfl) (nb : starEach [b] X.env = (false, eval b X.env) :: starEach [] X.env := by rfl) (hpl : (backTo pos2 (starEach [b] X.env)).any (·.1) = false := by rfl)
    (nr : starEach [.Call (.Name "range" p2) [a, b] [] pos2] X.env = (false, eval (.Call (.Name "range" p2) [a, b] [] pos2) X.env) :: starEach [] X.env := by rfl) :
    SE X (.Call (.Name "tuple" p1) [.Call (.Name "range" p2) [a, b] [] pos2] [] pos) (mRg2T ma mb) :=
  fun W tk => PE.imp (pe_tupRg hc hg hm (prg_2 hg2 hm2 (ha W tk) (hb W tk) na nb hpl) nr) fun σv H Q ⟨B, F, σ, r0, h⟩ => (rd1 (P := tD (Cx.par X)) r0 h).imp fun v H1 ⟨F1, s1, d, r1, e1, v1, h1⟩ => (rd1 (P := tD (Cx.par X)) r1 h1).imp fun u H2 ⟨F2, s2, k, r2, e2, v2, h2⟩ => by
    cases d with
    | int n =>
      cases k with
      | int m =>
        cases v1
        cases v2
        have h2 : core (Cx.par X) W (tD (Cx.par X)) B F2 σv H2 (if rgOk n m then .ok (.tup (rngs n m)) s2 else .bad) Q := h2
        by_cases hr : rgOk n m
        · rw [if_pos hr] at h2
          refine ⟨n, m, rfl, rfl, hr, fun q hq => ?_⟩
          have n2 : New F2 H2 F2 (upd H2 q (.tup (rgV n m))) := New.tup r2.dom hq
          exact core_new (β := V) r2 h2 n2 (.tup (.inl (.inl upd_same)) (dvs_rg n m))
        · rw [if_neg hr] at h2
          exact h2.elim
      | non => exact h2.elim
      | bl i => exact h2.elim
      | str x => exact h2.elim
      | lst xs => exact h2.elim
      | tup xs => exact h2.elim
      | gl x => exact h2.elim
    | non => exact h2.elim
    | bl i => exact h2.elim
    | str x => exact h2.elim
    | lst xs => exact h2.elim
    | tup xs => exact h2.elim
    | gl x => exact h2.elim
end
/-! ### a frame's own list, looked at -/
def mLook (i : Nat) (f : D → D → Option D) (mb : M D) : M D := fun s => if isOwn i s = true then (mb s).bind fun y t => match t[i]? with
  | some (Sl.own _ xs) => R.opt (f (.lst xs) y) t
  | _ => .bad else .bad
section
variable {X : Cx} {i : Nat} {x : Str} {b : Expr} {mb : M D} {p1 pos : Pos}
theorem own_dp {p : Par} {F : Addr → Prop} {H : Hp} {a : Addr} {vs : List V} {xs : List D} (h : H a = some (.lst vs)) (dv : DVs p F H vs xs) (pl : plain (.lst xs) = true) : Dp p.K H (.ref a) (toP (.lst xs)) := by
  unfold plain at pl
  unfold toP
  exact .lst (.inl (.inl h)) (dv.dp pl)
theorem se_look {op : CmpOp} {r : R2} {f : D → D → Option D} (ho : OpR X (compareOp op) r)
    (hf : ∀ F H a vs xs v dy d Q, Dom F H → H a = some (.lst vs) → DVs (Cx.par X) F H vs xs → DV (Cx.par X) F H v dy → f (.lst xs) dy = some d → (∀ u F' H', New F H F' H' → DV (Cx.par X) F' H' u d → Q u H') → r (.ref a) v H Q)
    (hN : X.N[i]? = some x) (hv : Vis X.env.scope x) (hb : SE X b mb) (hm : behindInMarks op b = false) (hd : (x == ("__debug__" : Str)) = false := by decide) (hcd : (x == ("__classdict__" : Str)) = false := by decide) :
    SE X (.Compare (.Name x p1) [op] [b] pos) (mLook i f mb) := fun W tk => PE.imp (pe_cmpR ho (pe_var hN hv hd hcd) (hb W tk) hm) fun σv H Q ⟨B, F, σ, r0, h⟩ => by
  unfold mLook at h
  by_cases ho' : isOwn i σ = true
  · rw [if_pos ho'] at h
    obtain ⟨bb, xs, e⟩ := isOwn_of ho'
    obtain ⟨a, vs, e1, e2, e3, e4, e5⟩ := r0.lst e
    refine ⟨.ref a, e1, (rd1 (P := tD (Cx.par X)) r0 h).imp fun v H1 ⟨F1, s1, d, r1, x1, v1, h1⟩ => ?_⟩
    cases hs : s1[i]? with
    | none =>
      simp only [hs] at h1
      exact h1.elim
    | some sl =>
      cases sl with
      | no =>
        simp only [hs] at h1
        exact h1.elim
      | val d =>
        simp only [hs] at h1
        exact h1.elim
      | own b2 ys =>
        simp only [hs] at h1
        obtain ⟨z, hz, h1⟩ := core_opt h1
        obtain ⟨us, g1, g2, g3⟩ := own_same r1 hs e1
        exact hf F1 H1 a us ys v d z Q r1.dom g1 g2 v1 hz fun u F' H' n dv => core_new (β := V) r1 h1 n dv
  · rw [if_neg ho'] at h
    exact h.elim
theorem lk_ne {F : Addr → Prop} {H : Hp} {a : Addr} {vs : List V} {xs : List D} {v : V} {dy d : D} {Q : VK} {p : Par} (hd : Dom F H) (h1 : H a = some (.lst vs)) (h2 : DVs p F H vs xs) (h3 : DV p F H v dy) (hf : neD (.lst xs) dy = some d) (k : ∀ u F' H', New F H F' H' → DV p F' H' u d → Q u H') : rNeD p.K (.ref a) v H Q := by
  unfold neD at hf
  split at hf
  · rename_i h
    cases hf
    obtain ⟨a1, a2⟩ := eqOk_of (Bool.and_eq_true_iff.mp h).1
    obtain ⟨b1, b2⟩ := eqOk_of (Bool.and_eq_true_iff.mp h).2
    exact ⟨_, _, own_dp h1 h2 a1, h3.dp b1, a2, b2, po_same hd k (.bl _)⟩
  · cases hf
theorem lk_eq {F : Addr → Prop} {H : Hp} {a : Addr} {vs : List V} {xs : List D} {v : V} {dy d : D} {Q : VK} {p : Par} (hd : Dom F H) (h1 : H a = some (.lst vs)) (h2 : DVs p F H vs xs) (h3 : DV p F H v dy) (hf : eqD (.lst xs) dy = some d) (k : ∀ u F' H', New F H F' H' → DV p F' H' u d → Q u H') : rEqD p.K (.ref a) v H Q := by
  unfold eqD at hf
  split at hf
  · rename_i h
    cases hf
    obtain ⟨a1, a2⟩ := eqOk_of (Bool.and_eq_true_iff.mp h).1
    obtain ⟨b1, b2⟩ := eqOk_of (Bool.and_eq_true_iff.mp h).2
    exact ⟨_, _, own_dp h1 h2 a1, h3.dp b1, a2, b2, po_same hd k (.bl _)⟩
  · cases hf
end
end DL
end

section
set_option Elab.async false
set_option linter.all false
set_option maxRecDepth 100000
set_option maxHeartbeats 2000000
set_option autoImplicit false
/-! DL13: the law's call, the end. -/
namespace DL
open PySem L2
open PySem.W (Frag)
open PySem.Spec PyProof.Rows
theorem ints_dvs {p : Par} {F : Addr → Prop} {H : Hp} (ns : List Int) : DVs p F H (ns.map V.int) (ns.map D.int) := DVs.map _ _ (fun i => .int i) ns
/-- the law's def, called at the script -/
theorem call_law {P : Program} {w : World} {K : Frag} {mg mb : Str → Option Value} {k : Nat} {fa a : Addr} {fd : FuncData} {x : Str} {fm : List D → R0 Rt} {s1 : Shared} {vs : List Value} {ns : List Int} (kin : K.In s1.heap) (hns : s1.heap.Ns mainGlobals mg) (hb : s1.heap.Ns builtinsNs mb)
    (hbb : ∀ x : Str, x ≠ "__name__" → mb x = bootBuiltins x) (hlim : s1.heap.NoLimit) (hg : s1.gens = #[]) (ha : s1.heap.get? a = some { cls := .type "list", data := .seq vs.toArray }) (hi : IntsAre vs ns) (hl : ns.length ≤ sizeLine) (hr : Room k callerA)
    (G : ∀ base : Heap, K.In base → base.Ns mainGlobals mg → FnG P w K mg base k fa fd [x] (FSp ⟨K, mg⟩ fm)) (hbind : ∀ (s : Shared) (u : Value), BindsTo s fd ⟨[u], []⟩ [(x, u)]) (hfm : fm [.lst (ns.map D.int)] = .ok (.v (.bl true))) :
    codeAny (model P w) callerA (.call (.ref fa) ⟨[.ref a], []⟩) (fun r s' => r = .ok (.ret (.bool true)) ∧ OldK s1.heap s'.heap ∧ s'.os = s1.os ∧ AllBare s'.gens) s1 := by
  have rv := vals_ints hi
  have lenV := hi.length
  have main : ∀ H : Hp, Only H → SqL K H a (ns.map V.int) → HOk P w H s1.heap → (∀ b, H b ≠ none → b = a) → (H a ≠ none → K.lookup a = none) → codeAny (model P w) callerA (.call (.ref fa) ⟨[.ref a], []⟩) (fun r s' => r = .ok (.ret (.bool true)) ∧ OldK s1.heap s'.heap ∧ s'.os = s1.os ∧ AllBare s'.gens) s1 := by
    intro H only sq hok one off
    have up : ∀ {b : Addr} {o : Obj}, s1.heap.get? b = some o → H b = none → (hidT s1.heap H).get? b = some o := fun e n => hidT_get e n
    have nod : ∀ {b : Addr} {o : Obj} {es : Array DictEntry} {ep : Nat}, s1.heap.get? b = some o → o.data = .dict es ep → H b = none := fun {b o es ep} e d => by
      cases q : H b with
      | none => rfl
      | some u =>
        obtain rfl : b = a := one b (by rw [q]; simp)
        rw [ha] at e
        cases e
        have d2 : Data.seq vs.toArray _ = Data.dict es ep := d
        cases d2
    have nsU : ∀ {b : Addr} {m : Str → Option Value}, s1.heap.Ns b m → (hidT s1.heap H).Ns b m := fun {b m} ⟨o, es, ep, e, d, r⟩ => ⟨o, es, ep, up e (nod e d), d, r⟩
    have kinU : K.In (hidT s1.heap H) := fun b o e => up (kin b o e) (by
      cases q : H b with
      | none => rfl
      | some u =>
        obtain rfl : b = a := one b (by rw [q]; simp)
        rw [off (by rw [q]; simp)] at e
        cases e)
    have md : Mod K mg (hidT s1.heap H) := ⟨kinU, nsU hns, ⟨mb, nsU hb, hbb⟩, let ⟨mc, h1, h2⟩ := hlim; ⟨mc, nsU h1, h2⟩⟩
    have e0 : Env0 P w K mg (hidT s1.heap H) callerA [] s1 H := ⟨rfl, md, fun b o e => of_hidT e, Nat.le_of_eq (hidT_size _ _), trivial, fun b hb => absurd (show b ∈ ([] : List Addr) from hb) (by simp), hok, .of_eq hg⟩
    have lr : LR K (fun _ => False) H a (ns.map V.int) := by
      rcases sq with (e | ⟨o, e⟩) | e
      · rcases only a with z | ⟨o, xs, z⟩
        · rw [e] at z
          cases z
        · rw [e] at z
          cases z
      · exact .inr (.inl ⟨o, e⟩)
      · exact .inr (.inr e)
    have want : FSp ⟨K, mg⟩ fm [.ref a] H (fun v _ => v = .bl true) (fun _ _ _ => False) := by
      refine ⟨fun _ => False, [.lst (ns.map D.int)], fun _ h => h.elim, .cons (.lst lr (ints_dvs ns)) .nil, ?_⟩
      rw [hfm]
      intro v F' H' _ r
      have r : DV ⟨K, mg⟩ F' H' v (.bl true) := r
      cases r
      rfl
    refine codeAny_mono ((G _ kinU (nsU hns)).run callerA [] s1 H ⟨[.ref a], []⟩ [.ref a] [.ref a] _ _ hr rfl e0 (hbind s1 (.ref a)) (.cons rfl .nil) want) fun r s' h => ?_
    cases r with
    | error e =>
      obtain ⟨_, _, _, _, _, _, _, _, _, _, _, _, z⟩ := h
      exact z.elim
    | ok fl =>
      cases fl with
      | next => exact h.elim
      | brk => exact h.elim
      | cont => exact h.elim
      | ret u =>
        obtain ⟨v, H', os, bare, un, hok', r', q⟩ := h
        have q : v = .bl true := q
        subst q
        obtain rfl : u = Value.bool true := r'
        refine ⟨rfl, OldK.of_keep fun b o e => ?_, os, bare⟩
        cases q : H b with
        | none => exact un.keep b o e q (by intro z; exact absurd (show b ∈ ([] : List Addr) from z) (by simp)) (by simp)
        | some u =>
          rcases only b with z | ⟨ob, xs, z⟩
          · rw [q] at z
            cases z
          · obtain ⟨e1, _⟩ := hok b _ z
            obtain ⟨e2, _⟩ := hok' b _ (un.frzs b ob _ z)
            rw [e] at e1
            cases e1
            exact e2
  cases hk : K.lookup a with
  | some o =>
    have e := kin a o hk
    rw [ha] at e
    cases e
    exact main (fun _ => none) (fun _ => .inl rfl) (.inr ⟨_, vs.toArray, _, hk, rfl, rfl, rfl, by rw [List.size_toArray, lenV]; exact hl, by simpa using rv⟩) (fun b u z => by have z : (none : Option HO) = some u := z; cases z) (fun b z => absurd rfl z) fun z => absurd rfl z
  | none =>
    refine main (fun b => if b = a then some (.frz { cls := .type "list", data := .seq vs.toArray } (.lst (ns.map V.int))) else none) (fun b => ?_) (.inl (.inr ⟨{ cls := .type "list", data := .seq vs.toArray }, if_pos rfl⟩)) (fun b u z => ?_) (fun b z => ?_) fun _ => hk
    · by_cases h : b = a
      · exact .inr ⟨_, _, if_pos h⟩
      · exact .inl (if_neg h)
    · by_cases h : b = a
      · cases (if_pos h).symm.trans z
        subst h
        exact ⟨ha, by rw [List.length_map]; exact hl, vs, _, rv, ha⟩
      · cases (if_neg h).symm.trans z
    · by_cases h : b = a
      · exact h
      · exact absurd (if_neg h) z
theorem walk_dl {l : PySem.W.OpenLaw} {n k : Nat} {q : Program} {loose : List Str} {XP : (Str → Option Value) → Heap → Prop} {YP : World → Heap → Prop} {d : DefRec} {K : Params → Frag} {x : Str} (hn : l.most = some n) (hn2 : n ≤ sizeLine) (hdf : d.params.defaults = []) (hr : Room k callerA)
    (hY : ∀ (w : World) (h : Heap), YP w h → (K w.params).In h)
    (F : ∀ (w : World) (mg : Str → Option Value) (fa : Addr) (h : Heap), (K w.params).In h → h.Ns mainGlobals mg → mg d.name = some (.ref fa) → ∃ (fd : FuncData) (fm : List D → R0 Rt), (∀ (s : Shared) (u : Value), BindsTo s fd ⟨[u], []⟩ [(x, u)]) ∧
      (∀ ns : List Int, ns.length ≤ n → fm [.lst (ns.map D.int)] = .ok (.v (.bl true))) ∧ ∀ base : Heap, (K w.params).In base → base.Ns mainGlobals mg → FnG l.prog w (K w.params) mg base k fa fd [x] (FSp ⟨K w.params, mg⟩ fm)) :
    PySem.W.WalkO q loose XP YP l.row.toRowW d [] (fun f vs => PySem.call f vs) := by
  refine Att.attach_call hn hdf fun w s₀ s1 mg mb fa o pm cd doc a vs ns G Y ho hd hcd hmg hobj hints hlen hg => ?_
  have kin := hY w _ Y
  obtain ⟨fd, fm, hb, hfm, hF⟩ := F w mg fa _ kin G.T.g hmg
  exact call_law kin G.T.g G.T.b G.T.builtins G.T.nolimit hg hobj hints (Nat.le_trans hlen hn2) hr hF hb (hfm ns hlen)
end DL
end

section
set_option Elab.async false
set_option linter.all false
set_option maxRecDepth 100000
set_option maxHeartbeats 2000000
set_option autoImplicit false
/-! DL14: short words for the printed derivations. -/
namespace DL
open PySem L2
open PySem.W (Frag)
open PyProof.Rows (envOfC)
theorem kit_int : KitOk "int" := by unfold KitOk; decide +kernel
theorem kit_bool : KitOk "bool" := by unfold KitOk; decide +kernel
theorem kit_str : KitOk "str" := by unfold KitOk; decide +kernel
theorem kit_list : KitOk "list" := by unfold KitOk; decide +kernel
theorem kit_tuple : KitOk "tuple" := by unfold KitOk; decide +kernel
theorem u65 {k : Nat} {A : Around} (hr : Room k A) : A.units + 65 < cLine := by
  have := hr.un
  omega
/-! ### a def of the module behind the top -/
structure Fd (K : Frag) (x : Str) (st : Stmt) (f : Addr) (fd : FuncData) : Prop where
  ex : ∃ (oc : Value) (od : Option Addr) (dV kV doc pm : Value) (an : Option Addr) (cdv ct : Value) (osl : Array (Option Value)), fd = PySem.W.fnOf x x (defArgs st) (defBody st) (defScope st) dV kV doc pm an cdv ct ∧ K.lookup f = some ⟨oc, od, .func fd, osl⟩ ∧ PySem.W.codeIn K cdv x = true
  kp : PySem.W.keepIn K (.ref f) = true
theorem fd_mk {K : Frag} {x : Str} {st : Stmt} {f : Addr} {oc : Value} {od an : Option Addr} {osl : Array (Option Value)} {dV kV doc pm cdv ct : Value} (l : K.lookup f = some ⟨oc, od, .func (PySem.W.fnOf x x (defArgs st) (defBody st) (defScope st) dV kV doc pm an cdv ct), osl⟩)
    (c : PySem.W.codeIn K cdv x = true) (k : PySem.W.keepIn K (.ref f) = true) : Fd K x st f (PySem.W.fnOf x x (defArgs st) (defBody st) (defScope st) dV kV doc pm an cdv ct) := ⟨⟨oc, od, dV, kV, doc, pm, an, cdv, ct, osl, rfl, l, c⟩, k⟩
section
variable {P : Program} {w : World} {K : Frag} {mg : Str → Option Value} {base : Heap} {x : Str} {st : Stmt} {f : Addr} {fd : FuncData} {N ps : List Str} {k : Nat} {m : MS}
theorem Fd.ok (F : Fd K x st f fd) (S : FnScope N ps (defScope st)) (hb : ∀ (cdv : Value) (A : Around) (outer : List Env) (s : Shared) (H : Hp) (E : XK), Room k (A.deeper (envOfC x (defScope st) s.heap.objs.size f cdv)) → A.guards = some [] → SSs (cxOf (L2.CX P w) P w K mg base N x (defScope st) f cdv A outer s H E) (defBody st) m) :
    FnG P w K mg base (k + 1) f fd ps (FSp ⟨K, mg⟩ (fbody ps.length N.length m)) := by
  obtain ⟨oc, od, dV, kV, doc, pm, an, cdv, ct, osl, rfl, lk, hcd⟩ := F.ex
  exact fnd lk hcd S fun A outer s H E hr hg => hb cdv A outer s H E hr hg
theorem Fd.okB (F : Fd K x st f fd) (S : FnScope N ps (defScope st)) (hb : ∀ (cdv : Value) (A : Around) (outer : List Env) (s : Shared) (H : Hp) (E : XK), Room k (A.deeper (envOfC x (defScope st) s.heap.objs.size f cdv)) → A.guards = some [] → SSs (cxOf (L2.CX P w) P w K mg base N x (defScope st) f cdv A outer s H E) (defBody st) m) :
    FnG P w K mg base (k + 1) f fd ps (FSpB ⟨K, mg⟩ (fbodyB ps.length N.length m)) := by
  obtain ⟨oc, od, dV, kV, doc, pm, an, cdv, ct, osl, rfl, lk, hcd⟩ := F.ex
  exact fndB lk hcd S fun A outer s H E hr hg => hb cdv A outer s H E hr hg
theorem Fd.binds (F : Fd K x st f fd) (h : ∀ (dV kV doc pm : Value) (an : Option Addr) (cdv ct : Value) (us : List Value), us.length = ps.length → bindArgs (PySem.W.fnOf x x (defArgs st) (defBody st) (defScope st) dV kV doc pm an cdv ct) ⟨us, []⟩ = pure (ps.zip us)) : Binds K fd ps [] := by
  obtain ⟨oc, od, dV, kV, doc, pm, an, cdv, ct, osl, rfl, lk, hcd⟩ := F.ex
  exact .all (h dV kV doc pm an cdv ct)
theorem Fd.kbinds {n : Nat} {ks : List Str} {pm' : List (Sum Nat Nat)} (F : Fd K x st f fd) (h : ∀ (dV kV doc pm : Value) (an : Option Addr) (cdv ct : Value) (us ws : List Value), us.length = n → ws.length = ks.length → bindArgs (PySem.W.fnOf x x (defArgs st) (defBody st) (defScope st) dV kV doc pm an cdv ct) ⟨us, ks.zip ws⟩ = pure (ps.zip (permG pm' us ws))) : KBn K fd ps n ks (permG pm') (permG pm') := by
  obtain ⟨oc, od, dV, kV, doc, pm, an, cdv, ct, osl, rfl, lk, hcd⟩ := F.ex
  exact kbn_mk (h dV kV doc pm an cdv ct)
end
/-! ### what a caller knows of a def -/
structure Has (P : Program) (w : World) (K : Frag) (mg : Str → Option Value) (base : Heap) (k : Nat) (x : Str) (ps : List Str) (fm : List D → R0 Rt) : Prop where
  ex : ∃ f fd, mg x = some (.ref f) ∧ FnG P w K mg base k f fd ps (FSp ⟨K, mg⟩ fm) ∧ PySem.W.keepIn K (.ref f) = true ∧ Binds K fd ps []
structure HasB (P : Program) (w : World) (K : Frag) (mg : Str → Option Value) (base : Heap) (k : Nat) (x : Str) (ps : List Str) (fb : List D → List D → R0 (Rt × List D)) : Prop where
  ex : ∃ f fd, mg x = some (.ref f) ∧ FnG P w K mg base k f fd ps (FSpB ⟨K, mg⟩ fb) ∧ PySem.W.keepIn K (.ref f) = true ∧ Binds K fd ps []
structure HasK (P : Program) (w : World) (K : Frag) (mg : Str → Option Value) (base : Heap) (k : Nat) (x : Str) (ps : List Str) (n : Nat) (ks : List Str) (pm : List (Sum Nat Nat)) (fm : List D → R0 Rt) : Prop where
  ex : ∃ f fd, mg x = some (.ref f) ∧ FnG P w K mg base k f fd ps (FSp ⟨K, mg⟩ fm) ∧ PySem.W.keepIn K (.ref f) = true ∧ KBn K fd ps n ks (permG pm) (permG pm)
section
variable {P : Program} {w : World} {K : Frag} {mg : Str → Option Value} {base : Heap} {x : Str} {st : Stmt} {f : Addr} {fd : FuncData} {ps : List Str} {j k : Nat} {fm : List D → R0 Rt} {fb : List D → List D → R0 (Rt × List D)} {n : Nat} {ks : List Str} {pm : List (Sum Nat Nat)}
theorem has_mk (F : Fd K x st f fd) (hm : mg x = some (.ref f)) (G : FnG P w K mg base k f fd ps (FSp ⟨K, mg⟩ fm)) (hb : Binds K fd ps []) : Has P w K mg base k x ps fm := ⟨f, fd, hm, G, F.kp, hb⟩
theorem hasB_mk (F : Fd K x st f fd) (hm : mg x = some (.ref f)) (G : FnG P w K mg base k f fd ps (FSpB ⟨K, mg⟩ fb)) (hb : Binds K fd ps []) : HasB P w K mg base k x ps fb := ⟨f, fd, hm, G, F.kp, hb⟩
theorem hasK_mk (F : Fd K x st f fd) (hm : mg x = some (.ref f)) (G : FnG P w K mg base k f fd ps (FSp ⟨K, mg⟩ fm)) (hb : KBn K fd ps n ks (permG pm) (permG pm)) : HasK P w K mg base k x ps n ks pm fm := ⟨f, fd, hm, G, F.kp, hb⟩
theorem Has.up (h : Has P w K mg base j x ps fm) (l : j ≤ k) : Has P w K mg base k x ps fm := by
  obtain ⟨f, fd, a, b, c, d⟩ := h.ex
  exact ⟨f, fd, a, b.mono l, c, d⟩
theorem HasB.up (h : HasB P w K mg base j x ps fb) (l : j ≤ k) : HasB P w K mg base k x ps fb := by
  obtain ⟨f, fd, a, b, c, d⟩ := h.ex
  exact ⟨f, fd, a, b.mono l, c, d⟩
theorem HasK.up (h : HasK P w K mg base j x ps n ks pm fm) (l : j ≤ k) : HasK P w K mg base k x ps n ks pm fm := by
  obtain ⟨f, fd, a, b, c, d⟩ := h.ex
  exact ⟨f, fd, a, b.mono l, c, d⟩
end
section
variable {X : Cx} {k i n : Nat} {x y : Str} {ps ks : List Str} {fm : List D → R0 Rt} {fb : List D → List D → R0 (Rt × List D)} {pm : List (Sum Nat Nat)} {q q1 pos : Pos} {e : Expr} {es : List Expr} {kws : List Keyword} {ms mk : M (List D)}
theorem cH (h : Has X.prog X.w X.K X.mg X.base k x ps fm) (hr : Room k X.A) (hgd : X.A.guards = some []) (ha : SA X (e :: es) ms) (hg : Gl X x := by rfl) (hdb : (x == ("__debug__" : Str)) = false := by decide)
    (he : starEach (e :: es) X.env = (false, eval e X.env) :: starEach es X.env := by rfl) (hpl : (backTo pos (starEach es X.env)).any (·.1) = false := by rfl) : SE X (.Call (.Name x q) (e :: es) [] pos) (mCall fm [] ms) := by
  obtain ⟨f, fd, a, b, c, d⟩ := h.ex
  exact se_call b hr hgd hg a c d .nil sc_nil ha hdb he hpl
theorem cHL (h : Has X.prog X.w X.K X.mg X.base k x ps fm) (hr : Room k X.A) (hgd : X.A.guards = some []) (ha : SA X (e :: es) ms) (hg : Gl X x := by rfl) (hdb : (x == ("__debug__" : Str)) = false := by decide)
    (he : starEach (e :: es) X.env = (false, eval e X.env) :: starEach es X.env := by rfl) (hpl : (backTo pos (starEach es X.env)).any (·.1) = false := by rfl) : SL X (.Call (.Name x q) (e :: es) [] pos) (mCallL fm [] ms) := by
  obtain ⟨f, fd, a, b, c, d⟩ := h.ex
  exact sl_call b hr hgd hg a c d .nil sc_nil ha hdb he hpl
theorem cB (i : Nat) (h : HasB X.prog X.w X.K X.mg X.base k x ps fb) (hr : Room k X.A) (hgd : X.A.guards = some []) (ha : SA X es ms) (hN : X.N[i]? = some y := by rfl) (hv : Vis X.env.scope y := by first | exact Or.inl rfl | exact Or.inr (Or.inl rfl) | exact Or.inr (Or.inr rfl)) (hg : Gl X x := by rfl)
    (hdb : (x == ("__debug__" : Str)) = false := by decide) (he : starEach (.Name y q1 :: es) X.env = (false, eval (.Name y q1) X.env) :: starEach es X.env := by rfl) (hpl : (backTo pos (starEach es X.env)).any (·.1) = false := by rfl)
    (hd : (y == ("__debug__" : Str)) = false := by decide) (hcd : (y == ("__classdict__" : Str)) = false := by decide) : SE X (.Call (.Name x q) (.Name y q1 :: es) [] pos) (mCallB i fb ms) := by
  obtain ⟨f, fd, a, b, c, d⟩ := h.ex
  exact se_callB b hr hgd hg a c d hN hv ha hdb he hpl hd hcd
theorem cK {l : Nat} (h : HasK X.prog X.w X.K X.mg X.base k x ps n ks pm fm) (hr : Room k X.A) (hgd : X.A.guards = some []) (ha : SA X (e :: es) ms) (hkw : SK X kws mk) (hg : Gl X x := by rfl) (hall : (backToKw pos (keywordEach kws X.env)).all (·.1.isSome) = true := by rfl)
    (hks : (backToKw pos (keywordEach kws X.env)).filterMap (·.1) = ks := by rfl) (hdb : (x == ("__debug__" : Str)) = false := by decide) (he : starEach (e :: es) X.env = (false, eval e X.env) :: starEach es X.env := by rfl)
    (hpl : ((backTo pos (starEach (e :: es) X.env)).any (·.1) || (backToKw pos (keywordEach kws X.env)).any (·.1.isNone)) = false := by rfl) (hl : ks.length = l := by rfl) : SE X (.Call (.Name x q) (e :: es) kws pos) (mCallK fm pm n l ms mk) := by
  subst hl
  obtain ⟨f, fd, a, b, c, d⟩ := h.ex
  exact se_callK b hr hgd hg a c d ha hkw hall hks hdb he hpl
theorem cK0 {l : Nat} (h : HasK X.prog X.w X.K X.mg X.base k x ps n ks pm fm) (hr : Room k X.A) (hgd : X.A.guards = some []) (hkw : SK X kws mk) (hg : Gl X x := by rfl) (hall : (backToKw pos (keywordEach kws X.env)).all (·.1.isSome) = true := by rfl)
    (hks : (backToKw pos (keywordEach kws X.env)).filterMap (·.1) = ks := by rfl) (hdb : (x == ("__debug__" : Str)) = false := by decide)
    (hpl : ((backTo pos (starEach [] X.env)).any (·.1) || (backToKw pos (keywordEach kws X.env)).any (·.1.isNone)) = false := by rfl) (hl : ks.length = l := by rfl) : SE X (.Call (.Name x q) [] kws pos) (mCallK fm pm n l mNil mk) := by
  subst hl
  obtain ⟨f, fd, a, b, c, d⟩ := h.ex
  exact se_callK0 b hr hgd hg a c d hkw hall hks hdb hpl
/-! tables of defs that a local name may hold -/
def Tab (X : Cx) (k : Nat) (tb : List (Str × (List D → R0 Rt))) : Prop := ∀ y fm, tb.lookup y = some fm → HeldG X k y fm
theorem tab_nil : Tab X k [] := fun _ _ h => by cases h
theorem tab_cons {tb : List (Str × (List D → R0 Rt))} (h : Has X.prog X.w X.K X.mg X.base k x ps fm) (t : Tab X k tb) : Tab X k ((x, fm) :: tb) := fun y f e => by
  rw [List.lookup_cons] at e
  cases q : y == x with
  | true =>
    rw [q] at e
    cases e
    obtain rfl : y = x := eq_of_beq q
    obtain ⟨a, fd, h1, h2, h3, h4⟩ := h.ex
    exact ⟨a, fd, ps, h1, h2, h3, h4⟩
  | false =>
    rw [q] at e
    exact t y f e
theorem cV (i : Nat) {tb : List (Str × (List D → R0 Rt))} (HH : Tab X k tb) (hr : Room k X.A) (hgd : X.A.guards = some []) (ha : SA X (e :: es) ms) (hN : X.N[i]? = some x := by rfl) (hv : Vis X.env.scope x := by first | exact Or.inl rfl | exact Or.inr (Or.inl rfl) | exact Or.inr (Or.inr rfl))
    (hdb : (x == ("__debug__" : Str)) = false := by decide) (hcd : (x == ("__classdict__" : Str)) = false := by decide) (he : starEach (e :: es) X.env = (false, eval e X.env) :: starEach es X.env := by rfl) (hpl : (backTo pos (starEach es X.env)).any (·.1) = false := by rfl) :
    SE X (.Call (.Name x q) (e :: es) [] pos) (mCallV i tb ms) := se_callV HH hr hgd hN hv ha hdb hcd he hpl
end
/-! ### names, own lists -/
section
variable {X : Cx} {x y : Str} {pos p1 p2 p3 p4 : Pos} {e c : Expr} {ma mj : M D} {g : G} {i : Nat}
theorem vv (i : Nat) (hN : X.N[i]? = some x := by rfl) (hv : Vis X.env.scope x := by first | exact Or.inl rfl | exact Or.inr (Or.inl rfl) | exact Or.inr (Or.inr rfl)) (hd : (x == ("__debug__" : Str)) = false := by decide) (hcd : (x == ("__classdict__" : Str)) = false := by decide) : SE X (.Name x pos) (mVar i) := se_var hN hv hd hcd
theorem gv {f : Addr} (hm : X.mg x = some (.ref f)) (hg : Gl X x := by rfl) (hd : (x == ("__debug__" : Str)) = false := by decide) : SE X (.Name x pos) (mC (.gl x)) := se_gl hg hm hd
theorem Has.mg_ {P : Program} {w : World} {K : Frag} {mg : Str → Option Value} {base : Heap} {k : Nat} {ps : List Str} {fm : List D → R0 Rt} (h : Has P w K mg base k x ps fm) : ∃ f, mg x = some (.ref f) := by
  obtain ⟨f, _, a, _⟩ := h.ex
  exact ⟨f, a⟩
theorem gH {k : Nat} {ps : List Str} {fm : List D → R0 Rt} (h : Has X.prog X.w X.K X.mg X.base k x ps fm) (hg : Gl X x := by rfl) (hd : (x == ("__debug__" : Str)) = false := by decide) : SE X (.Name x pos) (mC (.gl x)) := by
  obtain ⟨f, a⟩ := h.mg_
  exact se_gl hg a hd
theorem lenO (i : Nat) (hm : X.mg "len" = none) (hN : X.N[i]? = some x := by rfl) (hv : Vis X.env.scope x := by first | exact Or.inl rfl | exact Or.inr (Or.inl rfl) | exact Or.inr (Or.inr rfl)) (hg : Gl X "len" := by rfl)
    (he : starEach [.Name x p1] X.env = (false, eval (.Name x p1) X.env) :: starEach [] X.env := by rfl) (hpl : (backTo pos (starEach [] X.env)).any (·.1) = false := by rfl) (hd : (x == ("__debug__" : Str)) = false := by decide) (hcd : (x == ("__classdict__" : Str)) = false := by decide) :
    SE X (.Call (.Name "len" p2) [.Name x p1] [] pos) (mLenO i) := se_lenO (f := "len") hN hv hg hm he hpl hd hcd
theorem ixO (i : Nat) (hj : SE X c mj) (hs : PlainIx c := by intro _ _; rfl) (hN : X.N[i]? = some x := by rfl) (hv : Vis X.env.scope x := by first | exact Or.inl rfl | exact Or.inr (Or.inl rfl) | exact Or.inr (Or.inr rfl)) (hd : (x == ("__debug__" : Str)) = false := by decide) (hcd : (x == ("__classdict__" : Str)) = false := by decide) :
    SE X (.Subscript (.Name x p1) c pos) (mIxO i mj) := se_ixO hN hv hj hs hd hcd
theorem ix {a b : Expr} {ma mb : M D} (ha : SE X a ma) (hb : SE X b mb) (hs : PlainIx b := by intro _ _; rfl) : SE X (.Subscript a b pos) (mOp2 ixD ma mb) := se_ix ix_seq po_ix ha hb hs
theorem neO (i : Nat) {k : Nat} (hr : Room k X.A) (hb : SE X e ma) (hN : X.N[i]? = some x := by rfl) (hv : Vis X.env.scope x := by first | exact Or.inl rfl | exact Or.inr (Or.inl rfl) | exact Or.inr (Or.inr rfl)) (hd : (x == ("__debug__" : Str)) = false := by decide) (hcd : (x == ("__classdict__" : Str)) = false := by decide) :
    SE X (.Compare (.Name x p1) [.NotEq] [e] pos) (mLook i neD ma) := se_look (op_neD hr.units) (fun _ _ _ _ _ _ _ _ _ a b c d e f => lk_ne a b c d e f) hN hv hb (nomark _) hd hcd
theorem eqO (i : Nat) {k : Nat} (hr : Room k X.A) (hb : SE X e ma) (hN : X.N[i]? = some x := by rfl) (hv : Vis X.env.scope x := by first | exact Or.inl rfl | exact Or.inr (Or.inl rfl) | exact Or.inr (Or.inr rfl)) (hd : (x == ("__debug__" : Str)) = false := by decide) (hcd : (x == ("__classdict__" : Str)) = false := by decide) :
    SE X (.Compare (.Name x p1) [.Eq] [e] pos) (mLook i eqD ma) := se_look (op_eqD hr.units) (fun _ _ _ _ _ _ _ _ _ a b c d e f => lk_eq a b c d e f) hN hv hb (nomark _) hd hcd
theorem app (i : Nat) (ha : SE X e ma) (hN : X.N[i]? = some x := by rfl) (hv : Vis X.env.scope x := by first | exact Or.inl rfl | exact Or.inr (Or.inl rfl) | exact Or.inr (Or.inr rfl)) (hs : swapsWith (.Call (.Attribute (.Name x p1) "append" p2) [e] [] p3) none p4.line X.env = pure false := by rfl)
    (hbase : attributeBase (.Name x p1) "append" X.env (eval (.Name x p1) X.env) = eval (.Name x p1) X.env := by rfl)
    (hfew : ((backTo p3 (starEach [e] X.env)).all (fun x => !x.1) && (backToKw p3 (keywordEach [] X.env)).all (fun x => x.1.isSome) && decide ([e].length + ([] : List Keyword).length + (if ([] : List Keyword).isEmpty then 0 else 1) < 30)) = true := by rfl)
    (hline : (p2.endLine == p3.line) = true := by rfl) (hst : starEach [e] X.env = (false, eval e X.env) :: starEach [] X.env := by rfl) (hpl : (backTo p3 (starEach [] X.env)).any (·.1) = false := by rfl) (hd : (x == ("__debug__" : Str)) = false := by decide) (hcd : (x == ("__classdict__" : Str)) = false := by decide) :
    SS X (.Expr (.Call (.Attribute (.Name x p1) "append" p2) [e] [] p3) p4) (mAppO i ma) := ss_app hN hv ha hs hbase hfew hline hst hpl hd hcd
theorem tg (i : Nat) (hN : X.N.Nodup) (hi : X.N[i]? = some x := by rfl) (hx : Loc X.env.scope x := by first | exact Or.inl rfl | exact Or.inr rfl) (hf : X.fn x = true ∨ X.env.scope.names.lookup x = some .local := by first | exact .inl rfl | exact .inr rfl | assumption) : SG X (.Name x pos) (gNm i) := sg_nm hN hi hx hf
theorem tw (i : Nat) {vs : List Nat} (hN : X.N.Nodup) (hm : i ∈ vs := by decide) (hi : X.N[i]? = some x := by rfl) (hx : Loc X.env.scope x := by first | exact Or.inl rfl | exact Or.inr rfl) (hf : X.fn x = true ∨ X.env.scope.names.lookup x = some .local := by first | exact .inl rfl | exact .inr rfl | assumption) : WG X vs (.Name x pos) (gNm i) := wg_nm hN hi hx hm hf
/-! operations by their signs -/
variable {a b : Expr} {mb : M D} {k : Nat}
theorem oAdd (ha : SE X a ma) (hb : SE X b mb) : SE X (.BinOp a .Add b pos) (mOp2 addD ma mb) := se_op2 (op_add.or (op_catA.or op_add_str)) po_add ha hb
theorem oSub (ha : SE X a ma) (hb : SE X b mb) : SE X (.BinOp a .Sub b pos) (mOp2 subD ma mb) := se_op2 op_sub po_sub ha hb
theorem oMul (ha : SE X a ma) (hb : SE X b mb) : SE X (.BinOp a .Mult b pos) (mOp2 mulD ma mb) := se_op2 op_mul po_mul ha hb
theorem oMod (ha : SE X a ma) (hb : SE X b mb) : SE X (.BinOp a .Mod b pos) (mOp2 modD ma mb) := se_op2 op_mod po_mod ha hb
theorem oDiv (ha : SE X a ma) (hb : SE X b mb) : SE X (.BinOp a .FloorDiv b pos) (mOp2 divD ma mb) := se_op2 op_fdiv po_div ha hb
theorem oPow (ha : SE X a ma) (hb : SE X b mb) : SE X (.BinOp a .Pow b pos) (mOp2 powD ma mb) := se_op2 op_pow po_pow ha hb
theorem oNeg (ha : SE X a ma) : SE X (.UnaryOp .USub a pos) (mOp1 negD ma) := se_op1 un_neg po_neg ha
theorem oLt (ha : SE X a ma) (hb : SE X b mb) : SE X (.Compare a [.Lt] [b] pos) (mOp2 ltD ma mb) := se_cmp op_lt po_lt ha hb (nomark _)
theorem oLe (ha : SE X a ma) (hb : SE X b mb) : SE X (.Compare a [.LtE] [b] pos) (mOp2 leD ma mb) := se_cmp op_le po_le ha hb (nomark _)
theorem oGt (ha : SE X a ma) (hb : SE X b mb) : SE X (.Compare a [.Gt] [b] pos) (mOp2 gtD ma mb) := se_cmp op_gt po_gt ha hb (nomark _)
theorem oGe (ha : SE X a ma) (hb : SE X b mb) : SE X (.Compare a [.GtE] [b] pos) (mOp2 geD ma mb) := se_cmp op_ge po_ge ha hb (nomark _)
theorem oEq (hr : Room k X.A) (ha : SE X a ma) (hb : SE X b mb) : SE X (.Compare a [.Eq] [b] pos) (mOp2 eqD ma mb) := se_cmp (op_eqD hr.units) po_eq ha hb (nomark _)
theorem oNe (hr : Room k X.A) (ha : SE X a ma) (hb : SE X b mb) : SE X (.Compare a [.NotEq] [b] pos) (mOp2 neD ma mb) := se_cmp (op_neD hr.units) po_ne ha hb (nomark _)
theorem oIs (ha : SE X a ma) (hb : SE X b mb) : SE X (.Compare a [.Is] [b] pos) (mOp2 isD ma mb) := se_cmp op_isN po_is ha hb (nomark _)
theorem oIsNot (ha : SE X a ma) (hb : SE X b mb) : SE X (.Compare a [.IsNot] [b] pos) (mOp2 isNotD ma mb) := se_cmp op_notN po_isNot ha hb (nomark _)
theorem oIn (hr : Room k X.A) (ha : SE X a ma) (hb : SE X b mb) (hm : behindInMarks .In b = false := by with_unfolding_all rfl) : SE X (.Compare a [.In] [b] pos) (mOp2 inD ma mb) := se_cmp (op_inD (u65 hr)) po_in ha hb hm
theorem oNotIn (hr : Room k X.A) (ha : SE X a ma) (hb : SE X b mb) (hm : behindInMarks .NotIn b = false := by with_unfolding_all rfl) : SE X (.Compare a [.NotIn] [b] pos) (mOp2 notInD ma mb) := se_cmp (op_notInD (u65 hr)) po_notIn ha hb hm
theorem tLt' (ha : SE X a ma) (hb : SE X b mb) : ST X (.Compare a [.Lt] [b] pos) (mB (mOp2 ltD ma mb)) := st_cmp op_lt po_lt ha hb (nomark _)
theorem tLe' (ha : SE X a ma) (hb : SE X b mb) : ST X (.Compare a [.LtE] [b] pos) (mB (mOp2 leD ma mb)) := st_cmp op_le po_le ha hb (nomark _)
theorem tGt' (ha : SE X a ma) (hb : SE X b mb) : ST X (.Compare a [.Gt] [b] pos) (mB (mOp2 gtD ma mb)) := st_cmp op_gt po_gt ha hb (nomark _)
theorem tGe' (ha : SE X a ma) (hb : SE X b mb) : ST X (.Compare a [.GtE] [b] pos) (mB (mOp2 geD ma mb)) := st_cmp op_ge po_ge ha hb (nomark _)
theorem tEq' (hr : Room k X.A) (ha : SE X a ma) (hb : SE X b mb) : ST X (.Compare a [.Eq] [b] pos) (mB (mOp2 eqD ma mb)) := st_cmp (op_eqD hr.units) po_eq ha hb (nomark _)
theorem tNe' (hr : Room k X.A) (ha : SE X a ma) (hb : SE X b mb) : ST X (.Compare a [.NotEq] [b] pos) (mB (mOp2 neD ma mb)) := st_cmp (op_neD hr.units) po_ne ha hb (nomark _)
theorem tIs' (ha : SE X a ma) (hb : SE X b mb) : ST X (.Compare a [.Is] [b] pos) (mB (mOp2 isD ma mb)) := st_cmp op_isN po_is ha hb (nomark _)
theorem tIsNot' (ha : SE X a ma) (hb : SE X b mb) : ST X (.Compare a [.IsNot] [b] pos) (mB (mOp2 isNotD ma mb)) := st_cmp op_notN po_isNot ha hb (nomark _)
theorem tIn' (hr : Room k X.A) (ha : SE X a ma) (hb : SE X b mb) (hm : behindInMarks .In b = false := by with_unfolding_all rfl) : ST X (.Compare a [.In] [b] pos) (mB (mOp2 inD ma mb)) := st_cmp (op_inD (u65 hr)) po_in ha hb hm
theorem tNotIn' (hr : Room k X.A) (ha : SE X a ma) (hb : SE X b mb) (hm : behindInMarks .NotIn b = false := by with_unfolding_all rfl) : ST X (.Compare a [.NotIn] [b] pos) (mB (mOp2 notInD ma mb)) := st_cmp (op_notInD (u65 hr)) po_notIn ha hb hm
/-! built-ins -/
variable {es : List Expr} {ms : M (List D)} {q : Pos}
theorem bLen (hm : X.mg "len" = none) (hs : SA X (e :: es) ms) (hg : Gl X "len" := by rfl) (he : starEach (e :: es) X.env = (false, eval e X.env) :: starEach es X.env := by rfl) (hpl : (backTo pos (starEach es X.env)).any (·.1) = false := by rfl) : SE X (.Call (.Name "len" q) (e :: es) [] pos) (mFn lenD ms) := se_cb call_len pc_len hg hm (by first | boot_by_name | rfl | kernel_rfl) hs (by decide) (by decide) he hpl
theorem bAbs (hm : X.mg "abs" = none) (hs : SA X (e :: es) ms) (hg : Gl X "abs" := by rfl) (he : starEach (e :: es) X.env = (false, eval e X.env) :: starEach es X.env := by rfl) (hpl : (backTo pos (starEach es X.env)).any (·.1) = false := by rfl) : SE X (.Call (.Name "abs" q) (e :: es) [] pos) (mFn absD ms) := se_cb call_abs pc_abs hg hm (by first | boot_by_name | rfl | kernel_rfl) hs (by decide) (by decide) he hpl
theorem bMin (hc : X.calm = true) (hm : X.mg "min" = none) (hs : SA X (e :: es) ms) (hg : Gl X "min" := by rfl) (he : starEach (e :: es) X.env = (false, eval e X.env) :: starEach es X.env := by rfl) (hpl : (backTo pos (starEach es X.env)).any (·.1) = false := by rfl) : SE X (.Call (.Name "min" q) (e :: es) [] pos) (mFn minD ms) := se_cb (call_min2 hc) pc_min hg hm (by first | boot_by_name | rfl | kernel_rfl) hs (by decide) (by decide) he hpl
theorem bMax (hc : X.calm = true) (hm : X.mg "max" = none) (hs : SA X (e :: es) ms) (hg : Gl X "max" := by rfl) (he : starEach (e :: es) X.env = (false, eval e X.env) :: starEach es X.env := by rfl) (hpl : (backTo pos (starEach es X.env)).any (·.1) = false := by rfl) : SE X (.Call (.Name "max" q) (e :: es) [] pos) (mFn maxD ms) := se_cb (call_max2 hc) pc_max hg hm (by first | boot_by_name | rfl | kernel_rfl) hs (by decide) (by decide) he hpl
theorem bAll (hc : X.calm = true) (hm : X.mg "all" = none) (hs : SA X (e :: es) ms) (hg : Gl X "all" := by rfl) (he : starEach (e :: es) X.env = (false, eval e X.env) :: starEach es X.env := by rfl) (hpl : (backTo pos (starEach es X.env)).any (·.1) = false := by rfl) : SE X (.Call (.Name "all" q) (e :: es) [] pos) (mFn allD ms) := se_cb (cr_all hc) pc_all hg hm (by first | boot_by_name | rfl | kernel_rfl) hs (by decide) (by decide) he hpl
theorem bAny (hc : X.calm = true) (hm : X.mg "any" = none) (hs : SA X (e :: es) ms) (hg : Gl X "any" := by rfl) (he : starEach (e :: es) X.env = (false, eval e X.env) :: starEach es X.env := by rfl) (hpl : (backTo pos (starEach es X.env)).any (·.1) = false := by rfl) : SE X (.Call (.Name "any" q) (e :: es) [] pos) (mFn anyD ms) := se_cb (cr_any hc) pc_any hg hm (by first | boot_by_name | rfl | kernel_rfl) hs (by decide) (by decide) he hpl
theorem bRepr (hr : Room k X.A) (hgd : X.A.guards = some []) (hm : X.mg "repr" = none) (hs : SA X (e :: es) ms) (hg : Gl X "repr" := by rfl) (he : starEach (e :: es) X.env = (false, eval e X.env) :: starEach es X.env := by rfl) (hpl : (backTo pos (starEach es X.env)).any (·.1) = false := by rfl) : SE X (.Call (.Name "repr" q) (e :: es) [] pos) (mFn reprD ms) := se_cb (call_repr hr hgd) pc_repr hg hm (by first | boot_by_name | rfl | kernel_rfl) hs (by decide) (by decide) he hpl
theorem bInt (hm : X.mg "int" = none) (hs : SA X (e :: es) ms) (hg : Gl X "int" := by rfl) (he : starEach (e :: es) X.env = (false, eval e X.env) :: starEach es X.env := by rfl) (hpl : (backTo pos (starEach es X.env)).any (·.1) = false := by rfl) : SE X (.Call (.Name "int" q) (e :: es) [] pos) (mFn intD ms) := se_cty call_int1 pc_int hg hm (by first | boot_by_name | rfl | kernel_rfl) hs (by decide) (by decide) he hpl
theorem bTuple (hm : X.mg "tuple" = none) (hs : SA X (e :: es) ms) (hg : Gl X "tuple" := by rfl) (he : starEach (e :: es) X.env = (false, eval e X.env) :: starEach es X.env := by rfl) (hpl : (backTo pos (starEach es X.env)).any (·.1) = false := by rfl) : SE X (.Call (.Name "tuple" q) (e :: es) [] pos) (mFn tupD ms) := se_cty call_tuple_of pc_tup hg hm (by first | boot_by_name | rfl | kernel_rfl) hs (by decide) (by decide) he hpl
theorem bList (hm : X.mg "list" = none) (hs : SA X (e :: es) ms) (hg : Gl X "list" := by rfl) (he : starEach (e :: es) X.env = (false, eval e X.env) :: starEach es X.env := by rfl) (hpl : (backTo pos (starEach es X.env)).any (·.1) = false := by rfl) : SL X (.Call (.Name "list" q) (e :: es) [] pos) (mFnL lstD ms) := sl_cty call_list_of pc_lst hg hm (by first | boot_by_name | rfl | kernel_rfl) hs (by decide) (by decide) he hpl
end
/-! a slice of a list or a tuple, as data -/
def mSlA (ma : M D) (ml mh : M (Option Int)) : M D := fun σ => (ma σ).bind fun x s => (ml s).bind fun l t => (mh t).bind fun h u => match x with
  | .tup xs => .ok (.tup (cut xs l h)) u
  | .lst xs => .ok (.lst (cut xs l h)) u
  | _ => .bad
section
variable {X : Cx} {e : Expr} {ma : M D} {pos p2 : Pos}
theorem slA {lo hi : Option Expr} {ml mh : M (Option Int)} (ha : SE X e ma) (hl : SO' X lo ml) (hh : SO' X hi mh) : SE X (.Subscript e (.Slice lo hi none p2) pos) (mSlA ma ml mh) :=
  fun W tk => PE.imp (pe_slice (sl_tupA.or sl_list) (ha W tk) (hl W tk) (hh W tk)) fun σv H Q ⟨B, F, σ, r0, h⟩ => (rd1 (P := tD (Cx.par X)) r0 h).imp fun v H1 ⟨F1, s1, d, r1, e1, v1, h1⟩ => (rd1 (P := tO) r1 h1).imp fun l H2 ⟨F2, s2, l', r2, e2, v2, h2⟩ =>
    (rd1 (P := tO) r2 h2).imp fun u H3 ⟨F3, s3, u', r3, e3, v3, h3⟩ => by
    have v2 : l = l' := v2
    have v3 : u = u' := v3
    subst v2 v3
    cases d with
    | tup xs =>
      cases (v1.ext e2).ext e3 with
      | @tup a vs _ g1 g2 =>
        refine .inl ⟨a, vs, rfl, g1, fun hw => ?_, fun _ q hq => ?_⟩
        · have ec : cut xs l u = xs := by
            unfold cut
            rw [← g2.length, hw.1, hw.2, List.drop_zero, Nat.sub_zero, g2.length, List.take_length]
          refine core_ok (P := tD (Cx.par X)) r3 h3 ?_
          rw [ec]
          exact .tup g1 g2
        · have n : New F3 H3 F3 (upd H3 q (.tup (cutV vs l u))) := New.tup r3.dom hq
          exact core_new (β := V) r3 h3 n (.tup (.inl (.inl upd_same)) ((cutV_cut g2 l u).ext (n.ext r3.dom)))
    | lst xs =>
      cases (v1.ext e2).ext e3 with
      | @lst a vs _ g1 g2 =>
        refine .inr ⟨a, vs, rfl, g1.sq, fun q hq => ?_⟩
        have n : New F3 H3 (fun a => F3 a ∨ a = q) (upd H3 q (.lst (cutV vs l u))) := New.lst r3.dom hq
        exact core_new (β := V) r3 h3 n (.lst (.inl ⟨.inr rfl, upd_same⟩) ((cutV_cut g2 l u).ext (n.ext r3.dom)))
    | non => exact h3.elim
    | bl i => exact h3.elim
    | int i => exact h3.elim
    | str x => exact h3.elim
    | gl x => exact h3.elim
end
end DL
end

section
set_option Elab.async false
set_option linter.all false
set_option maxRecDepth 100000
set_option maxHeartbeats 2000000
set_option autoImplicit false
/-! DL15: error classes by name; the rest of the short words. -/
namespace DL
open PySem L2
open PySem.W (Frag)
/-- all that is asked of an error class -/
structure ErrC (K : Frag) (P : Program) (mg : Str → Option Value) (x fld : Str) (C : Addr) : Prop where
  mg : mg x = some (.ref C)
  sup : SupC K P C fld
  xf : XfC K C
  no : PySem.W.findIn K (.ref C) fld = some none
  ex : ExcC K C
  self : PySem.W.exmOne K (.ref C) (.ref C) = some true
def cat1 (x : Str) : Str → Option Bool := fun c => if c == x then some true else none
def xCons (f : Str → XF) (g : Str → XFs) : Str → XFs := fun c l => (f c l).bind fun d => (g c l).bind fun ds => some (d :: ds)
theorem cat1_eq {x c : Str} {b : Bool} (h : cat1 x c = some b) : c = x ∧ b = true := by
  unfold cat1 at h
  split at h
  · rename_i e
    cases h
    exact ⟨eq_of_beq e, rfl⟩
  · cases h
section
variable {X : Cx} {x fld : Str} {C cM : Addr}
theorem cat1_ok (e : ErrC X.K X.prog X.mg x fld C) : ∀ (c : Str) (b : Bool) (C' : Addr), cat1 x c = some b → X.mg c = some (.ref C') → PySem.W.exmOne X.K (.ref C') (.ref C) = some b := fun c b C' h hm => by
  obtain ⟨rfl, rfl⟩ := cat1_eq h
  rw [e.mg] at hm
  cases hm
  exact e.self
theorem at1 (e : ErrC X.K X.prog X.mg x fld C) : ∀ (c : Str) (C' : Addr), [x].contains c = true → X.mg c = some (.ref C') → XfC X.K C' ∧ PySem.W.findIn X.K (.ref C') fld = some none := fun c C' h hm => by
  have h2 : c = x := by simpa using h
  subst h2
  rw [e.mg] at hm
  cases hm
  exact ⟨e.xf, e.no⟩
theorem isi1 (e : ErrC X.K X.prog X.mg x fld C) (k : PySem.W.kitOne X.K (.ref C) (.ref cM) = some true) : ∀ (c : Str) (b : Bool) (C' : Addr), cat1 x c = some b → X.mg c = some (.ref C') → ExcC X.K C' ∧ PySem.W.kitOne X.K (.ref C') (.ref cM) = some b := fun c b C' h hm => by
  obtain ⟨rfl, rfl⟩ := cat1_eq h
  rw [e.mg] at hm
  cases hm
  exact ⟨e.ex, k⟩
variable {y : Str} {p1 p2 p3 pos : Pos}
theorem gi {i : Int} (h : ∃ t, X.mg y = some (.int i t)) (hg : Gl X y := by rfl) (hd : (y == ("__debug__" : Str)) = false := by decide) : SE X (.Name y pos) (mC (.int i)) := by
  obtain ⟨t, h⟩ := h
  exact se_glI hg h hd
/-- the same look as a test -/
theorem st_look {i k : Nat} {b : Expr} {mb : M D} {op : CmpOp} {r : R2} {f : D → D → Option D} (ho : OpR X (compareOp op) r)
    (hf : ∀ F H a vs xs v dy d Q, Dom F H → H a = some (.lst vs) → DVs (Cx.par X) F H vs xs → DV (Cx.par X) F H v dy → f (.lst xs) dy = some d → (∀ u F' H', New F H F' H' → DV (Cx.par X) F' H' u d → Q u H') → r (.ref a) v H Q)
    (hN : X.N[i]? = some x) (hv : Vis X.env.scope x) (hb : SE X b mb) (hm : behindInMarks op b = false) (hd : (x == ("__debug__" : Str)) = false := by decide) (hcd : (x == ("__classdict__" : Str)) = false := by decide) :
    ST X (.Compare (.Name x p1) [op] [b] pos) (mB (mLook i f mb)) := fun W tk => PT.imp (pt_cmpR ho (pe_var hN hv hd hcd) (hb W tk) hm) fun σv H Q ⟨B, F, σ, r0, h⟩ => by
  unfold mB mLook at h
  by_cases ho' : isOwn i σ = true
  · rw [if_pos ho'] at h
    obtain ⟨bb, xs, e⟩ := isOwn_of ho'
    obtain ⟨a, vs, e1, e2, e3, e4, e5⟩ := r0.lst e
    have h : core (Cx.par X) W tB B F σv H ((mb σ).bind fun y t => (match t[i]? with | some (Sl.own _ xs) => R.opt (f (.lst xs) y) t | _ => R.bad).bind fun z s => match z with | .bl b => .ok b s | _ => .bad) Q := by
      cases eb : mb σ with
      | ok y t =>
        rw [eb] at h
        exact h
      | err c fs t =>
        rw [eb] at h
        exact h
      | bad =>
        rw [eb] at h
        exact h
    refine ⟨.ref a, e1, (rd1 (P := tD (Cx.par X)) r0 h).imp fun v H1 ⟨F1, s1, d, r1, x1, v1, h1⟩ => ?_⟩
    cases hs : s1[i]? with
    | none =>
      simp only [hs] at h1
      exact h1.elim
    | some sl =>
      cases sl with
      | no =>
        simp only [hs] at h1
        exact h1.elim
      | val d =>
        simp only [hs] at h1
        exact h1.elim
      | own b2 ys =>
        simp only [hs] at h1
        obtain ⟨us, g1, g2, g3⟩ := own_same r1 hs e1
        cases hz : f (.lst ys) d with
        | none =>
          rw [hz] at h1
          exact h1.elim
        | some z =>
          rw [hz] at h1
          refine hf F1 H1 a us ys v d z _ r1.dom g1 g2 v1 hz fun u F' H' n dv => ?_
          cases z with
          | bl k =>
            cases dv
            exact ⟨k, rfl, h1 k F' H' (r1.new n) (n.ext r1.dom) rfl⟩
          | non => exact h1.elim
          | int i => exact h1.elim
          | str x => exact h1.elim
          | lst xs => exact h1.elim
          | tup xs => exact h1.elim
          | gl x => exact h1.elim
  · rw [if_neg ho'] at h
    exact h.elim
theorem neT (i : Nat) {k : Nat} {e : Expr} {ma : M D} (hr : Room k X.A) (hb : SE X e ma) (hN : X.N[i]? = some x := by rfl) (hv : Vis X.env.scope x := by first | exact Or.inl rfl | exact Or.inr (Or.inl rfl) | exact Or.inr (Or.inr rfl)) (hd : (x == ("__debug__" : Str)) = false := by decide) (hcd : (x == ("__classdict__" : Str)) = false := by decide) :
    ST X (.Compare (.Name x p1) [.NotEq] [e] pos) (mB (mLook i neD ma)) := st_look (k := k) (op_neD hr.units) (fun _ _ _ _ _ _ _ _ _ a b c d e f => lk_ne a b c d e f) hN hv hb (nomark _) hd hcd
theorem eqT (i : Nat) {k : Nat} {e : Expr} {ma : M D} (hr : Room k X.A) (hb : SE X e ma) (hN : X.N[i]? = some x := by rfl) (hv : Vis X.env.scope x := by first | exact Or.inl rfl | exact Or.inr (Or.inl rfl) | exact Or.inr (Or.inr rfl)) (hd : (x == ("__debug__" : Str)) = false := by decide) (hcd : (x == ("__classdict__" : Str)) = false := by decide) :
    ST X (.Compare (.Name x p1) [.Eq] [e] pos) (mB (mLook i eqD ma)) := st_look (k := k) (op_eqD hr.units) (fun _ _ _ _ _ _ _ _ _ a b c d e f => lk_eq a b c d e f) hN hv hb (nomark _) hd hcd
theorem pop0 (i : Nat) (hN : X.N[i]? = some x := by rfl) (hv : Vis X.env.scope x := by first | exact Or.inl rfl | exact Or.inr (Or.inl rfl) | exact Or.inr (Or.inr rfl))
    (hbase : attributeBase (.Name x p1) "pop" X.env (eval (.Name x p1) X.env) = eval (.Name x p1) X.env := by rfl) (hline : (p2.endLine == p3.line) = true := by rfl)
    (hd : (x == ("__debug__" : Str)) = false := by decide) (hcd : (x == ("__classdict__" : Str)) = false := by decide) : SE X (.Call (.Attribute (.Name x p1) "pop" p2) [] [] p3) (mPop i) := se_pop hN hv hbase hline hd hcd
end
end DL
end

section
set_option Elab.async false
set_option linter.all false
set_option maxRecDepth 100000
set_option maxHeartbeats 2000000
set_option autoImplicit false
/-! DL16: an error class from what stands behind the top. -/
namespace DL
open PySem L2
open PySem.W (Frag)
/-- what the text of the class's __init__ must be -/
def InitTxt (st : Stmt) (fld : Str) : Prop := ∃ par, (∃ ar, ((defArgs st).posonlyargs ++ (defArgs st).args).head? = some ar ∧ ar.arg = ("self" : Str)) ∧
  (∃ txt p0 p1 p2 p3 p4 p5 p6 p7 p8 p9 j, defBody st = [.Expr (.Call (.Attribute (.Call (.Name "super" p0) [] [] p1) "__init__" p2) [.Constant (.str txt) j p3] [] p4) p5, .Assign [.Attribute (.Name "self" p6) fld p7] (.Name par p8) p9] ∧
    ∀ env, ∃ pl : Sem Bool, eval (.Call (.Attribute (.Call (.Name "super" p0) [] [] p1) "__init__" p2) [.Constant (.str txt) j p3] [] p4) env = (do
      let ov ← attributeBase (.Call (.Name "super" p0) [] [] p1) "__init__" env (eval (.Call (.Name "super" p0) [] [] p1) env)
      standAt p2.atName
      let (f, first) ← holding [ov] (getMethod ov "__init__" pl)
      callWith p4 f first (backTo p4 (starEach [.Constant (.str txt) j p3] env)) [])) ∧
  (∀ (qual : Str) (T : Addr) (kV doc pm ct : Value) (an : Option Addr) (cda cc : Addr) (u v a : Value), ∃ k, bindArgs (PySem.W.ksFn "__init__" qual (defArgs st) (defBody st) (defScope st) (.ref T) kV doc pm an (.ref cda) ct cc) ⟨[u, v], []⟩ = seqItems? (.ref T) >>= k ∧ k (some #[a]) = pure [(("self" : Str), u), (par, v)]) ∧
  (defScope st).names.lookup ("super" : Str) = some .globalImplicit ∧ (defScope st).names.lookup ("__class__" : Str) = some .free ∧ (defScope st).names.lookup ("self" : Str) = some .local ∧ (defScope st).names.lookup par = some .local ∧
  (par == ("self" : Str)) = false ∧ (par == ("__debug__" : Str)) = false ∧ (defScope st).kind = .function ∧ (defScope st).isCoroutine = false ∧ (defScope st).isGenerator = false ∧ (∀ x ∈ (defScope st).names, x.2 ≠ .cell)
theorem kit_below {K : Frag} {C M : Addr} (iM : PySem.W.isClsIn K M = true) (tM : PySem.W.typeIn K (.ref M) = some (.type "type")) (s : PySem.W.subIn K (.ref C) (.ref M) = some true) : PySem.W.kitOne K (.ref C) (.ref M) = some true := by
  unfold PySem.W.kitOne
  by_cases h : ((Value.ref C : Value) == Value.ref M) = true
  · rw [if_pos h]
  · rw [if_neg h]
    unfold PySem.W.kitCls
    have e : ((PySem.W.clsIn K M).isSome && PySem.W.typeIn K (.ref M) == some (.type "type")) = true := by
      have i2 : (PySem.W.clsIn K M).isSome = true := iM
      rw [i2, tM]
      rfl
    show (if ((PySem.W.clsIn K M).isSome && PySem.W.typeIn K (.ref M) == some (.type "type")) = true then PySem.W.subIn K (.ref C) (.ref M) else none) = some true
    rw [if_pos e]
    exact s
section
variable {K : Frag} {P : Program} {mg : Str → Option Value} {h : Heap} {x fld : Str} {C D0 fI cda cc : Addr} {st : Stmt} {nm q : Str} {N : Addr} {bs : List Value} {sn : List Str} {sub : List Value} {ab : Bool} {col : Option Bool} {dd : Option Addr} {k0 k1 k2 k3 k5 : Option Value} {qual : Str}
  {kV doc pm ct oc ccl cl dv tc : Value} {an od cdd cld td : Option Addr} {osl ccs csl tsl : Array (Option Value)} {T : Addr} {tn : Nat} {vs : Array Value} {file : Str} {tf : Tok}
theorem err_mk (hX : K.In h) (G : h.Ns mainGlobals mg) (tx : InitTxt st fld) (top : (P.main.scope.names.lookup ("super" : Str)).isSome = false) (hfile : ((P.main.file : Str) == file) = true) (aC : PySem.W.nsIn K mainGlobals x = some (some (.ref C)))
    (xL : K.lookup C = some (excClassObj nm q C N bs [.ref D0, .type "Exception", .type "BaseException", .type "object"] true sn sub ab col dd k0 k1 k2 k3 k5 "Exception.__new__"))
    (sa : PySem.W.findIn K (.ref C) "__setattr__" = some (some (.builtin "object.__setattr__"))) (na : PySem.W.findIn K (.ref C) fld = some none) (own : PySem.W.mroIn K C (.ref C) = some true) (exB : PySem.W.subIn K (.ref C) (.type "BaseException") = some true) (exE : PySem.W.subIn K (.ref C) (.type "Exception") = some true)
    (tyC : PySem.W.typeIn K (.ref C) = some (.type "type")) (kC : PySem.W.keepIn K (.ref C) = true) (iC : PySem.W.isClsIn K C = true) (hd : PySem.W.hasDictIn K C = true) (sup : PySem.W.ks_superIn K C C "__init__" = some (some (.builtin "Exception.__init__"))) (noo : PySem.W.nsIn K cStatics "thirdparty.any" = some none)
    (ga : PySem.W.findIn K (.ref C) "__getattribute__" = some (some (.builtin "BaseException.__getattribute__"))) (gg : PySem.W.findIn K (.ref C) "__getattr__" = some none) (cA : PySem.W.findIn K (.ref C) "__class__" = some (some (.builtin "object.__class__")))
    (cN : PySem.W.specialIn K (.builtin "object.__class__") "__get__" = some (some (.builtin "getset_descriptor.__get__"))) (cT : PySem.W.takesIn K (.builtin "object.__class__") = some true) (cM : PySem.W.mroIn K C (.type "object") = some true)
    (a1 : PySem.W.findIn K (.ref C) "__init__" = some (some (.ref fI))) (t1 : PySem.W.typeIn K (.ref fI) = some (.type "function")) (l1 : K.lookup fI = some ⟨oc, od, .func (PySem.W.ksFn "__init__" qual (defArgs st) (defBody st) (defScope st) (.ref T) kV doc pm an (.ref cda) ct cc), osl⟩) (lT : K.lookup T = some ⟨tc, td, .seq #[dv] tn, tsl⟩) (c1 : PySem.W.codeIn K (.ref cda) qual = true)
    (l2 : K.lookup cda = some ⟨ccl, cdd, .fields vs, ccs⟩) (hvs : vs[2]? = some (.str file tf)) (l3 : K.lookup cc = some ⟨cl, cld, .cell (some (.ref C)), csl⟩) : ErrC K P mg x fld C := by
  obtain ⟨par, t1', t2, t3, t4, t5, t6, t7, t8, t9, t10, t11, t12, t13⟩ := tx
  exact ⟨PySem.W.mg_of hX G aC, ⟨⟨nm, q, N, bs, D0, sn, sub, ab, col, dd, k0, k1, k2, k3, k5, xL⟩, sa, na, own, exB, exE, tyC, kC, sup, noo, top,
    ⟨fI, par, "__init__", qual, defArgs st, defBody st, defScope st, .ref T, kV, doc, pm, cda, ct, cc, an, oc, od, osl, a1, t1, l1, c1, t1', t2, (fun s u v kin => BindsTo.of_looks fun M => by
      obtain ⟨k, e1, e2⟩ := t3 qual T kV doc pm ct an cda cc u v dv
      rw [e1]
      exact looks_items kin lT rfl (.of_pure e2)), ⟨ccl, cdd, vs, ccs, file, tf, l2, hvs, hfile⟩, ⟨cl, cld, csl, l3⟩, t4, t5, t6, t7, t8, t9, t10, t11, t12, t13⟩⟩,
    ⟨ga, gg, exB, hd⟩, na, ⟨ga, gg, exB, hd, cA, cN, cT, cM⟩, PySem.W.exm_ref exB hd tyC own⟩
/-- a def with defaults, every parameter given -/
theorem binds_d {ps : List Str} {fd : FuncData} {its : Array Value} (lT : K.lookup T = some ⟨tc, td, .seq its tn, tsl⟩) (h : ∀ us : List Value, us.length = ps.length → ∃ k, bindArgs fd ⟨us, []⟩ = seqItems? (.ref T) >>= k ∧ k (some its) = pure (ps.zip us)) : Binds K fd ps [] := fun s us kin hl => by
  rw [List.append_nil] at hl ⊢
  obtain ⟨k, e1, e2⟩ := h us hl
  refine BindsTo.of_looks fun M => ?_
  rw [e1]
  exact looks_items kin lT rfl (.of_pure e2)
end
end DL
end

section
set_option Elab.async false
set_option linter.all false
set_option maxRecDepth 100000
set_option maxHeartbeats 2000000
set_option autoImplicit false
/-! DL17: meanings evaluated. -/
namespace DL
open PySem L2
section
variable {α β : Type} {σ s t : DSt} {a : α} {f : α → DSt → R β} {c : Str} {fs : List (Str × D)} {k : α → DSt → SO} {m : MS} {h : DSt → SO}
@[simp] theorem ev_bo : (R.ok a σ).bind f = f a σ := rfl
@[simp] theorem ev_be : (R.err c fs σ : R α).bind f = .err c fs σ := rfl
@[simp] theorem ev_bb : (R.bad : R α).bind f = .bad := rfl
@[simp] theorem ev_ro : (R.ok a σ).run k = k a σ := rfl
@[simp] theorem ev_re : (R.err c fs σ : R α).run k = .err c fs σ := rfl
@[simp] theorem ev_rb : (R.bad : R α).run k = .bad := rfl
@[simp] theorem ev_sn : (SO.nx σ).seq h = h σ := rfl
@[simp] theorem ev_sr {r : Rt} : (SO.ret r σ).seq h = .ret r σ := rfl
@[simp] theorem ev_sb : (SO.brk σ).seq h = .brk σ := rfl
@[simp] theorem ev_sc : (SO.cont σ).seq h = .cont σ := rfl
@[simp] theorem ev_se : (SO.err c fs σ).seq h = .err c fs σ := rfl
@[simp] theorem ev_sx : (SO.bad).seq h = .bad := rfl
@[simp] theorem ev_os : R.opt (some a) σ = .ok a σ := rfl
@[simp] theorem ev_on : R.opt (none : Option α) σ = .bad := rfl
end
section
variable {σ : DSt} {d : D} {i j l : Nat} {f : D → D → Option D} {f1 : D → Option D} {fn : List D → Option D} {fl : List D → Option (List D)} {ma mb : M D} {ms mk : M (List D)} {ml : M (List D)} {tc ta tb : M Bool} {lo hi : M (Option Int)} {g : G} {gs : Gs} {m1 m2 : MS} {sl : M (List Sl)} {xs : List D} {F : List D → R0 Rt} {FB : List D → List D → R0 (Rt × List D)} {pm : List (Sum Nat Nat)} {b : Bool} {r : Rt} {c : Str} {fs : List (Str × D)}
@[simp] theorem ev_C : mC d σ = .ok d σ := rfl
theorem ev_Vv (h : σ[i]? = some (.val d)) : mVar i σ = .ok d σ := by unfold mVar; rw [h]
theorem ev_Vo (h : σ[i]? = some (Sl.own false xs)) : mVar i σ = .ok (.lst xs) (σ.set i (.val (.lst xs))) := by unfold mVar; rw [h]
@[simp] theorem ev_2 : mOp2 f ma mb σ = (ma σ).bind fun x s => (mb s).bind fun y t => R.opt (f x y) t := rfl
@[simp] theorem ev_1 : mOp1 f1 ma σ = (ma σ).bind fun x s => R.opt (f1 x) s := rfl
@[simp] theorem ev_Nil : mNil σ = .ok [] σ := rfl
@[simp] theorem ev_Cons : mCons ma ms σ = (ma σ).bind fun x s => (ms s).bind fun xs t => .ok (x :: xs) t := rfl
@[simp] theorem ev_Tup : mTup ms σ = (ms σ).bind fun xs s => if xs.length ≤ sizeLine then .ok (.tup xs) s else .bad := rfl
@[simp] theorem ev_Lst : mLst ms σ = (ms σ).bind fun xs s => if xs.length ≤ sizeLine then .ok xs s else .bad := rfl
@[simp] theorem ev_Frz : mFrz ml σ = (ml σ).bind fun xs s => .ok (.lst xs) s := rfl
@[simp] theorem ev_Fn : mFn fn ms σ = (ms σ).bind fun xs s => R.opt (fn xs) s := rfl
@[simp] theorem ev_FnL : mFnL fl ms σ = (ms σ).bind fun xs s => R.opt (fl xs) s := rfl
@[simp] theorem ev_B : mB ma σ = (ma σ).bind fun x s => match x with | .bl b => .ok b s | _ => .bad := rfl
@[simp] theorem ev_Tru : mTru ma σ = (ma σ).bind fun x s => R.opt (truD x) s := rfl
@[simp] theorem ev_And : mAnd ta tb σ = (ta σ).bind fun x s => if x = true then tb s else .ok false s := rfl
@[simp] theorem ev_Or : mOr ta tb σ = (ta σ).bind fun x s => if x = true then .ok true s else tb s := rfl
@[simp] theorem ev_Not : mNot ta σ = (ta σ).bind fun x s => .ok (!x) s := rfl
@[simp] theorem ev_If : mIf tc ma mb σ = (tc σ).bind fun x s => if x = true then ma s else mb s := rfl
@[simp] theorem ev_AndV : mAndV ma mb σ = (ma σ).bind fun x s => match x with | .bl true => mb s | .bl false => .ok (.bl false) s | _ => .bad := rfl
@[simp] theorem ev_OrV : mOrV ma mb σ = (ma σ).bind fun x s => match x with | .bl false => mb s | .bl true => .ok (.bl true) s | _ => .bad := rfl
@[simp] theorem ev_NotV : mNotV ma σ = (ma σ).bind fun x s => match x with | .bl b => .ok (.bl (!b)) s | _ => .bad := rfl
@[simp] theorem ev_No : mNo σ = .ok none σ := rfl
@[simp] theorem ev_Some : mSome ma σ = (ma σ).bind fun x s => match x with | .int i => .ok (some i) s | _ => .bad := rfl
@[simp] theorem ev_SlA : mSlA ma lo hi σ = (ma σ).bind fun x s => (lo s).bind fun l t => (hi t).bind fun h u => match x with | .tup xs => .ok (.tup (cut xs l h)) u | .lst xs => .ok (.lst (cut xs l h)) u | _ => .bad := rfl
@[simp] theorem ev_SlL : mSlL ma lo hi σ = (ma σ).bind fun x s => (lo s).bind fun l t => (hi t).bind fun h u => match x with | .lst xs => .ok (cut xs l h) u | _ => .bad := rfl
@[simp] theorem ev_Step : mStep ma mb σ = (ma σ).bind fun x s => (mb s).bind fun k t => match x, k with | .tup xs, .int k => if k = 1 then .ok (.tup xs) t else if k = -1 then .ok (.tup xs.reverse) t else .bad | _, _ => .bad := rfl
@[simp] theorem ev_Set : mSet ma g σ = (ma σ).run fun d s => match g d s with | some s' => .nx s' | none => .bad := rfl
@[simp] theorem ev_Own : mOwn i ml σ = (ml σ).run fun xs s => .nx (s.set i (Sl.own false xs)) := rfl
@[simp] theorem ev_Seq : mSeq m1 m2 σ = (m1 σ).seq m2 := rfl
@[simp] theorem ev_Nx : mNx σ = .nx σ := rfl
@[simp] theorem ev_Brk : mBrk σ = .brk σ := rfl
@[simp] theorem ev_Cont : mCont σ = .cont σ := rfl
@[simp] theorem ev_Ret : mRet ma σ = (ma σ).run fun d s => .ret (.v d) s := rfl
@[simp] theorem ev_RetL : mRetL ml σ = (ml σ).run fun xs s => .ret (.l xs) s := rfl
@[simp] theorem ev_Drop : mDrop ma σ = (ma σ).run fun _ s => .nx s := rfl
@[simp] theorem ev_IfS : mIfS tc m1 m2 σ = (tc σ).run fun k s => if k = true then m1 s else m2 s := rfl
@[simp] theorem ev_AppO : mAppO i ma σ = if isOwn i σ = true then (ma σ).run fun d s => match s[i]? with | some (Sl.own b xs) => if xs.length < sizeLine then .nx (s.set i (Sl.own b (xs ++ [d]))) else .bad | _ => .bad else .bad := rfl
@[simp] theorem ev_Pop : mPop i σ = match σ[i]? with | some (Sl.own b xs) => (match xs.getLast? with | some d => .ok d (σ.set i (Sl.own b xs.dropLast)) | none => .bad) | _ => .bad := rfl
@[simp] theorem ev_Put : mPut i ma mb σ = (ma σ).run fun d s => if isOwn i s = true then (mb s).run fun k t => putAt i d k t else .bad := rfl
@[simp] theorem ev_LenO : mLenO i σ = match σ[i]? with | some (Sl.own _ xs) => .ok (.int xs.length) σ | _ => .bad := rfl
@[simp] theorem ev_IxO : mIxO i ma σ = if isOwn i σ = true then (ma σ).bind fun k t => ixAt i k t else .bad := rfl
@[simp] theorem ev_Look : mLook i f mb σ = if isOwn i σ = true then (mb σ).bind fun y t => match t[i]? with | some (Sl.own _ xs) => R.opt (f (.lst xs) y) t | _ => .bad else .bad := rfl
@[simp] theorem ev_Mn : mMn σ = .ok [] σ := rfl
@[simp] theorem ev_Mv : mMv ma sl σ = (ma σ).bind fun x s => (sl s).bind fun xs t => .ok (Sl.val x :: xs) t := rfl
@[simp] theorem ev_Ml : mMl ml sl σ = (ml σ).bind fun x s => (sl s).bind fun xs t => .ok (Sl.own false x :: xs) t := rfl
@[simp] theorem ev_P2 : mPar2 i j sl σ = (sl σ).run fun l s => match l with | [a, b] => .nx ((s.set i a).set j b) | _ => .bad := rfl
@[simp] theorem ev_P3 : mPar3 i j l sl σ = (sl σ).run fun q s => match q with | [a, b, c] => .nx (((s.set i a).set j b).set l c) | _ => .bad := rfl
@[simp] theorem ev_For : mFor ml g m1 σ = (ml σ).run fun ds s => forM' g m1 ds s := rfl
@[simp] theorem ev_Items : mItems' ma σ = (ma σ).bind fun x s => R.opt (items? x) s := rfl
@[simp] theorem ev_It : mIt fl ms σ = (ms σ).bind fun ds s => R.opt (fl ds) s := rfl
@[simp] theorem ev_Lc {vs : List Nat} : mLc ml vs g tc ma σ = (ml σ).bind fun ds s => lcRest vs g tc ma ds s [] := rfl
@[simp] theorem ev_Yes : mYes σ = .ok true σ := rfl
@[simp] theorem ev_Call : mCall F xs ms σ = (ms σ).bind fun ds s => (F (ds ++ xs)).at s := rfl
@[simp] theorem ev_CallL : mCallL F xs ms σ = (ms σ).bind fun ds s => (F (ds ++ xs)).atL s := rfl
@[simp] theorem ev_CallB : mCallB i FB ms σ = if isOwn i σ = true then (ms σ).bind fun ds s => if isOwn i s = true then R0.atB i (FB (ownXs i s) ds) s else .bad else .bad := rfl
@[simp] theorem ev_CallK : mCallK F pm i l ms mk σ = (ms σ).bind fun ds s => (mk s).bind fun es t => if ds.length = i ∧ es.length = l then (F (permG pm ds es)).at t else .bad := rfl
@[simp] theorem ev_Rg2T : mRg2T ma mb σ = (ma σ).bind fun x s => (mb s).bind fun y t => match x, y with | .int a, .int b => if rgOk a b then .ok (.tup (rngs a b)) t else .bad | _, _ => .bad := rfl
@[simp] theorem ev_Rg2L : mRg2L ma mb σ = (ma σ).bind fun x s => (mb s).bind fun y t => match x, y with | .int a, .int b => if rgOk a b then .ok (rngs a b) t else .bad | _, _ => .bad := rfl
@[simp] theorem ev_Raise {x fld : Str} : mRaise x fld ma σ = (ma σ).run fun d s => .err x [(fld, d)] s := rfl
@[simp] theorem ev_gN : gNm i d σ = some (σ.set i (.val d)) := rfl
@[simp] theorem ev_gO : gNo [] σ = some σ := rfl
@[simp] theorem ev_gC : gCo g gs (d :: xs) σ = (g d σ).bind fun s => gs xs s := rfl
@[simp] theorem ev_gT : gTu i gs (.tup xs) σ = if xs.length = i then gs xs σ else none := rfl
@[simp] theorem ev_gL : gTu i gs (.lst xs) σ = if xs.length = i then gs xs σ else none := rfl
@[simp] theorem ev_itL : items? (.lst xs) = some xs := rfl
@[simp] theorem ev_itT : items? (.tup xs) = some xs := rfl
@[simp] theorem ev_atv {v : D} : R0.at (.ok (.v v)) σ = .ok v σ := rfl
@[simp] theorem ev_atl : R0.at (.ok (.l xs)) σ = .ok (.lst xs) σ := rfl
@[simp] theorem ev_ate : R0.at (.err c fs) σ = .err c fs σ := rfl
@[simp] theorem ev_alv : R0.atL (.ok (.l xs)) σ = .ok xs σ := rfl
@[simp] theorem ev_ale : R0.atL (.err c fs) σ = .err c fs σ := rfl
end
/-- what a body hands back -/
def SO.out : SO → R0 Rt
  | .ret r _ => .ok r
  | .nx _ => .ok (.v .non)
  | .err c fs _ => .err c fs
  | _ => .bad
@[simp] theorem out_ret {r : Rt} {σ : DSt} : (SO.ret r σ).out = .ok r := rfl
@[simp] theorem out_nx {σ : DSt} : (SO.nx σ).out = .ok (.v .non) := rfl
@[simp] theorem out_err {c : Str} {fs : List (Str × D)} {σ : DSt} : (SO.err c fs σ).out = .err c fs := rfl
theorem fb_eq {n l : Nat} {m : MS} {ds : List D} (h : ds.length = n) : fbody n l m ds = (m (ds.map Sl.val ++ List.replicate (l - n) Sl.no)).out := by
  unfold fbody
  rw [if_pos h]
  cases m (ds.map Sl.val ++ List.replicate (l - n) Sl.no) <;> rfl
def SO.outB : SO → R0 (Rt × List D)
  | .ret r σ => match own0? σ with
    | some xs => .ok (r, xs)
    | none => .bad
  | .nx σ => match own0? σ with
    | some xs => .ok (.v .non, xs)
    | none => .bad
  | _ => .bad
@[simp] theorem outB_ret {r : Rt} {xs : List D} {σ : DSt} : (SO.ret r (Sl.own true xs :: σ)).outB = .ok (r, xs) := rfl
@[simp] theorem outB_nx {xs : List D} {σ : DSt} : (SO.nx (Sl.own true xs :: σ)).outB = .ok (.v .non, xs) := rfl
theorem fbB_eq {n l : Nat} {m : MS} {xs ds : List D} (h : ds.length + 1 = n) : fbodyB n l m xs ds = (m (Sl.own true xs :: ds.map Sl.val ++ List.replicate (l - n) Sl.no)).outB := by
  unfold fbodyB
  rw [if_pos h]
  cases m (Sl.own true xs :: ds.map Sl.val ++ List.replicate (l - n) Sl.no) <;> rfl
end DL
end

section
set_option Elab.async false
set_option linter.all false
set_option maxRecDepth 100000
set_option maxHeartbeats 2000000
set_option autoImplicit false
/-! DL18: comprehensions of pure elements; equality and text of data. -/
namespace DL
open PySem L2
theorem lc_all {vs : List Nat} {g : G} {tt : M Bool} {te : M D} {σ0 : DSt} (p : D → Bool) (h : D → D) : ∀ (ds : List D) (σ : DSt) (acc : List D), wipeD σ vs = σ0 → (∀ d ∈ ds, ∃ s, g d σ0 = some s ∧ wipeD s vs = σ0 ∧ tt s = .ok (p d) s ∧ (p d = true → te s = .ok (h d) s)) → acc.length + ds.length ≤ sizeLine →
    lcRest vs g tt te ds σ acc = .ok (acc ++ (ds.filter p).map h) σ0
  | [], σ, acc, hw, _, _ => by
    unfold lcRest
    rw [hw, List.filter_nil, List.map_nil, List.append_nil]
  | d :: ds, σ, acc, hw, hd, hl => by
    obtain ⟨s, h1, h2, h3, h4⟩ := hd d List.mem_cons_self
    have ih := fun acc' (hl' : acc'.length + ds.length ≤ sizeLine) => lc_all p h ds s acc' h2 (fun x hx => hd x (List.mem_cons_of_mem _ hx)) hl'
    rw [List.length_cons] at hl
    unfold lcRest
    rw [hw, h1]
    show (match tt s with | .ok true t => (match te t with | .ok y u => if acc.length < sizeLine then lcRest vs g tt te ds u (acc ++ [y]) else .bad | _ => .bad) | .ok false t => lcRest vs g tt te ds t acc | _ => .bad) = _
    rw [h3]
    cases hp : p d with
    | true =>
      show (match te s with | .ok y u => if acc.length < sizeLine then lcRest vs g tt te ds u (acc ++ [y]) else .bad | _ => .bad) = _
      rw [h4 hp]
      show (if acc.length < sizeLine then lcRest vs g tt te ds s (acc ++ [h d]) else .bad) = _
      rw [if_pos (by omega), ih _ (by rw [List.length_append, List.length_singleton]; omega), List.filter_cons_of_pos hp, List.map_cons, List.append_assoc]
      rfl
    | false =>
      show lcRest vs g tt te ds s acc = _
      rw [ih _ (by omega), List.filter_cons_of_neg (by rw [hp]; exact Bool.false_ne_true)]
theorem lc_map {vs : List Nat} {g : G} {te : M D} {σ0 : DSt} (h : D → D) (ds : List D) (σ : DSt) (hw : wipeD σ vs = σ0) (hd : ∀ d ∈ ds, ∃ s, g d σ0 = some s ∧ wipeD s vs = σ0 ∧ te s = .ok (h d) s) (hl : ds.length ≤ sizeLine) : lcRest vs g mYes te ds σ [] = .ok (ds.map h) σ0 := by
  have z := lc_all (tt := mYes) (fun _ => true) h ds σ [] hw (fun d hx => by
    obtain ⟨s, a, b, c⟩ := hd d hx
    exact ⟨s, a, b, rfl, fun _ => c⟩) (by rw [List.length_nil]; omega)
  rw [z, List.nil_append, List.filter_eq_self.mpr (fun _ _ => rfl)]
/-! operations -/
@[simp] theorem addI (i j : Int) : addD (.int i) (.int j) = some (.int (i + j)) := rfl
@[simp] theorem subI (i j : Int) : subD (.int i) (.int j) = some (.int (i - j)) := rfl
@[simp] theorem negI (i : Int) : negD (.int i) = some (.int (-i)) := rfl
@[simp] theorem ltI (i j : Int) : ltD (.int i) (.int j) = some (.bl (decide (i < j))) := rfl
@[simp] theorem leI (i j : Int) : leD (.int i) (.int j) = some (.bl (decide (i ≤ j))) := rfl
@[simp] theorem gtI (i j : Int) : gtD (.int i) (.int j) = some (.bl (decide (j < i))) := rfl
@[simp] theorem geI (i j : Int) : geD (.int i) (.int j) = some (.bl (decide (j ≤ i))) := rfl
theorem addT {xs ys : List D} (h : xs.length + ys.length ≤ sizeLine) : addD (.tup xs) (.tup ys) = some (.tup (xs ++ ys)) := by
  show (if xs.length + ys.length ≤ sizeLine then some (D.tup (xs ++ ys)) else none) = _
  rw [if_pos h]
theorem modI {i j : Int} (h : 0 < j) : modD (.int i) (.int j) = some (.int (i % j)) := by
  show (if 0 < j then some (D.int (i % j)) else none) = _
  rw [if_pos h]
theorem divI {i j : Int} (h : 0 < j ∧ j < 1073741824) : divD (.int i) (.int j) = some (.int (i / j)) := by
  show (if 0 < j ∧ j < 1073741824 then some (D.int (i / j)) else none) = _
  rw [if_pos h]
theorem mulR {i j : Int} (h : -(2 ^ 64) < j ∧ j < 2 ^ 64) : mulD (.int i) (.int j) = some (.int (i * j)) := by
  show (if (-(2 ^ 64) < i ∧ i < 2 ^ 64) ∨ (-(2 ^ 64) < j ∧ j < 2 ^ 64) then some (D.int (i * j)) else none) = _
  rw [if_pos (.inr h)]
theorem mulL {i j : Int} (h : -(2 ^ 64) < i ∧ i < 2 ^ 64) : mulD (.int i) (.int j) = some (.int (i * j)) := by
  show (if (-(2 ^ 64) < i ∧ i < 2 ^ 64) ∨ (-(2 ^ 64) < j ∧ j < 2 ^ 64) then some (D.int (i * j)) else none) = _
  rw [if_pos (.inl h)]
@[simp] theorem isNonN : isD .non .non = some (.bl true) := rfl
@[simp] theorem isNonT (xs : List D) : isD (.tup xs) .non = some (.bl false) := rfl
@[simp] theorem isNotNonN : isNotD .non .non = some (.bl false) := rfl
@[simp] theorem isNotNonT (xs : List D) : isNotD (.tup xs) .non = some (.bl true) := rfl
/-! loops -/
def SO.loop (r : SO) (k : DSt → SO) : SO := match r with
  | .nx t => k t
  | .cont t => k t
  | .brk t => .nx t
  | .ret r t => .ret r t
  | .err c fs t => .err c fs t
  | .bad => .bad
@[simp] theorem lo_nx {t : DSt} {k : DSt → SO} : (SO.nx t).loop k = k t := rfl
@[simp] theorem lo_ct {t : DSt} {k : DSt → SO} : (SO.cont t).loop k = k t := rfl
@[simp] theorem lo_bk {t : DSt} {k : DSt → SO} : (SO.brk t).loop k = .nx t := rfl
@[simp] theorem lo_rt {r : Rt} {t : DSt} {k : DSt → SO} : (SO.ret r t).loop k = .ret r t := rfl
@[simp] theorem lo_er {c : Str} {fs : List (Str × D)} {t : DSt} {k : DSt → SO} : (SO.err c fs t).loop k = .err c fs t := rfl
@[simp] theorem for_nil {g : G} {b : MS} {σ : DSt} : forM' g b [] σ = .nx σ := rfl
theorem for_eq {g : G} {b : MS} {d : D} {ds : List D} {σ : DSt} : forM' g b (d :: ds) σ = match g d σ with | none => SO.bad | some s => (b s).loop (forM' g b ds) := by
  show (match g d σ with | none => SO.bad | some s => (match b s with | .nx t => forM' g b ds t | .cont t => forM' g b ds t | .brk t => .nx t | .ret r t => .ret r t | .err c fs t => .err c fs t | .bad => SO.bad)) = _
  cases g d σ with
  | none => rfl
  | some s =>
    show (match b s with | .nx t => forM' g b ds t | .cont t => forM' g b ds t | .brk t => .nx t | .ret r t => .ret r t | .err c fs t => .err c fs t | .bad => SO.bad) = (b s).loop (forM' g b ds)
    cases b s <;> rfl
theorem for_cons {g : G} {b : MS} {d : D} {ds : List D} {σ s : DSt} (h : g d σ = some s) : forM' g b (d :: ds) σ = (b s).loop (forM' g b ds) := by
  rw [for_eq]
  show (match g d σ with | none => SO.bad | some s => (b s).loop (forM' g b ds)) = _
  rw [h]
/-! equality -/
theorem len_toPs : ∀ xs : List D, (toPs xs).length = xs.length
  | [] => by unfold toPs; rfl
  | x :: xs => by
    unfold toPs
    rw [List.length_cons, List.length_cons, len_toPs xs]
theorem plains_ints : ∀ xs : List Int, plains (xs.map D.int) = true
  | [] => by unfold plains; rfl
  | x :: xs => by
    rw [List.map_cons]
    unfold plains plain
    rw [plains_ints xs]
    rfl
theorem lay_ints : ∀ xs : List Int, PyData.canLayAll0 (toPs (xs.map D.int)) = true
  | [] => by unfold toPs; rfl
  | x :: xs => by
    rw [List.map_cons]
    unfold toPs PyData.canLayAll0
    rw [lay_ints xs]
    unfold toP PyData.canLay0
    rfl
theorem dep_ints : ∀ xs : List Int, PyData.depthAll (toPs (xs.map D.int)) = 0
  | [] => by unfold toPs; rfl
  | x :: xs => by
    rw [List.map_cons]
    unfold toPs PyData.depthAll
    rw [dep_ints xs]
    unfold toP PyData.depth
    rfl
theorem eqvAll_ints : ∀ xs ys : List Int, PyData.eqvAll (toPs (xs.map D.int)) (toPs (ys.map D.int)) = decide (xs = ys)
  | [], [] => by unfold toPs; rfl
  | [], y :: ys => by
    rw [List.map_cons, List.map_nil]
    unfold toPs PyData.eqvAll
    simp
  | x :: xs, [] => by
    rw [List.map_cons, List.map_nil]
    unfold toPs PyData.eqvAll
    simp
  | x :: xs, y :: ys => by
    rw [List.map_cons, List.map_cons]
    unfold toPs PyData.eqvAll
    rw [eqvAll_ints xs ys]
    unfold toP PyData.eqv
    by_cases h : x = y <;> by_cases h2 : xs = ys <;> simp [h, h2]
abbrev TI' (xs : List Int) : D := .tup (xs.map D.int)
abbrev LI' (xs : List Int) : D := .lst (xs.map D.int)
theorem ok_T (xs : List Int) : eqOk (TI' xs) = true := by
  unfold eqOk SeqAt.shaped plain toP PyData.canLay0 PyData.depth
  rw [plains_ints, lay_ints, dep_ints]
  rfl
theorem ok_L (xs : List Int) : eqOk (LI' xs) = true := by
  unfold eqOk SeqAt.shaped plain toP PyData.canLay0 PyData.depth
  rw [plains_ints, lay_ints, dep_ints]
  rfl
theorem ok_non : eqOk .non = true := by decide +kernel
theorem ok_int (i : Int) : eqOk (.int i) = true := by
  unfold eqOk SeqAt.shaped plain toP PyData.canLay0 PyData.depth
  rfl
theorem ok_bl (i : Bool) : eqOk (.bl i) = true := by cases i <;> decide +kernel
theorem eqv_T (xs ys : List Int) : eqv (TI' xs) (TI' ys) = decide (xs = ys) := by
  unfold eqv toP PyData.eqv
  exact eqvAll_ints xs ys
theorem eqv_L (xs ys : List Int) : eqv (LI' xs) (LI' ys) = decide (xs = ys) := by
  unfold eqv toP PyData.eqv
  exact eqvAll_ints xs ys
theorem neT_T (xs ys : List Int) : neD (TI' xs) (TI' ys) = some (.bl (!decide (xs = ys))) := by
  unfold neD
  rw [ok_T, ok_T, eqv_T]
  rfl
theorem eqT_T (xs ys : List Int) : eqD (TI' xs) (TI' ys) = some (.bl (decide (xs = ys))) := by
  unfold eqD
  rw [ok_T, ok_T, eqv_T]
  rfl
theorem neL_L (xs ys : List Int) : neD (LI' xs) (LI' ys) = some (.bl (!decide (xs = ys))) := by
  unfold neD
  rw [ok_L, ok_L, eqv_L]
  rfl
theorem eqL_L (xs ys : List Int) : eqD (LI' xs) (LI' ys) = some (.bl (decide (xs = ys))) := by
  unfold eqD
  rw [ok_L, ok_L, eqv_L]
  rfl
theorem neT_N (xs : List Int) : neD (TI' xs) .non = some (.bl true) := by
  unfold neD
  rw [ok_T, ok_non]
  unfold eqv toP PyData.eqv
  rfl
theorem eqI_I (x y : Int) : eqD (.int x) (.int y) = some (.bl (decide (x = y))) := by
  unfold eqD
  rw [ok_int, ok_int]
  unfold eqv toP PyData.eqv
  by_cases h : x = y <;> simp [h]
theorem neI_I (x y : Int) : neD (.int x) (.int y) = some (.bl (!decide (x = y))) := by
  unfold neD
  rw [ok_int, ok_int]
  unfold eqv toP PyData.eqv
  by_cases h : x = y <;> simp [h]
theorem neB_B (x y : Bool) : neD (.bl x) (.bl y) = some (.bl (x != y)) := by
  unfold neD
  rw [ok_bl, ok_bl]
  unfold eqv toP PyData.eqv
  cases x <;> cases y <;> rfl
/-! texts of data -/
structure Sh (c k : Nat) (d : D) : Prop where
  pl : plain d = true
  sh : (toP d).showable = true
  dp : (toP d).depth ≤ k
  nd : (toP d).hasDict = false
  ok : PyData.strOk (toP d).shown = true
  le : (toP d).shown.length ≤ c
structure Shs (c k n : Nat) (ds : List D) : Prop where
  pl : plains ds = true
  sh : PyData.showableAll (toPs ds) = true
  dp : PyData.depthAll (toPs ds) ≤ k
  nd : PyData.hasDictAll (toPs ds) = false
  ok : ∀ t ∈ PyData.shownAll (toPs ds), PyData.strOk t = true
  le : piled (PyData.shownAll (toPs ds)) ≤ (c + 2) * n
theorem shs_nil {c k : Nat} : Shs c k 0 [] where
  pl := by unfold plains; rfl
  sh := by unfold toPs PyData.showableAll; rfl
  dp := by unfold toPs PyData.depthAll; omega
  nd := by unfold toPs PyData.hasDictAll; rfl
  ok := by
    unfold toPs PyData.shownAll
    intro t h
    cases h
  le := by unfold toPs PyData.shownAll; rw [piled_nil]; omega
theorem shs_cons {c k n : Nat} {d : D} {ds : List D} (h : Sh c k d) (hs : Shs c k n ds) : Shs c k (n + 1) (d :: ds) where
  pl := by unfold plains; rw [h.pl, hs.pl]; rfl
  sh := by unfold toPs PyData.showableAll; rw [h.sh, hs.sh]; rfl
  dp := by
    unfold toPs PyData.depthAll
    exact Nat.max_le.mpr ⟨h.dp, hs.dp⟩
  nd := by unfold toPs PyData.hasDictAll; rw [h.nd, hs.nd]; rfl
  ok := by
    unfold toPs PyData.shownAll
    intro t ht
    rcases List.mem_cons.mp ht with e | e
    · rw [e]
      exact h.ok
    · exact hs.ok t e
  le := by
    unfold toPs PyData.shownAll
    rw [piled_cons]
    have := h.le
    have := hs.le
    have e : (c + 2) * (n + 1) = (c + 2) * n + (c + 2) := by rw [Nat.mul_add, Nat.mul_one]
    omega
theorem shs_all {c k : Nat} : ∀ {ds : List D}, (∀ d ∈ ds, Sh c k d) → Shs c k ds.length ds
  | [], _ => shs_nil
  | d :: ds, h => shs_cons (h d List.mem_cons_self) (shs_all fun x hx => h x (List.mem_cons_of_mem _ hx))
theorem strOk_app {a b : Str} (h1 : PyData.strOk a = true) (h2 : PyData.strOk b = true) : PyData.strOk (a ++ b) = true := by
  unfold PyData.strOk at h1 h2 ⊢
  show (a.cps ++ b.cps).all _ = true
  rw [Array.all_append, h1, h2]
  rfl
theorem strOk_join : ∀ ts : List Str, (∀ t ∈ ts, PyData.strOk t = true) → PyData.strOk (Str.join ", " ts) = true
  | [], _ => by decide +kernel
  | [x], h => h x List.mem_cons_self
  | x :: y :: r, h => by
    show PyData.strOk (x ++ ", " ++ Str.join ", " (y :: r)) = true
    exact strOk_app (strOk_app (h x List.mem_cons_self) (by decide +kernel)) (strOk_join (y :: r) fun t ht => h t (List.mem_cons_of_mem _ ht))
theorem join_le (ts : List Str) : (Str.join ", " ts).length ≤ piled ts := by
  cases ts with
  | nil => decide
  | cons t r =>
    have := join_length_add (t :: r) (by simp)
    omega
theorem sh_tup {c k n : Nat} {ds : List D} (h : Shs c k n ds) : Sh ((c + 2) * n + 3) (k + 1) (.tup ds) where
  pl := by unfold plain; exact h.pl
  sh := by unfold toP PyData.showable; exact h.sh
  dp := by unfold toP PyData.depth; exact Nat.succ_le_succ h.dp
  nd := by unfold toP PyData.hasDict; exact h.nd
  ok := by
    unfold toP PyData.shown tupleText
    refine strOk_app (strOk_app (by decide +kernel) (strOk_join _ h.ok)) ?_
    split <;> decide +kernel
  le := by
    unfold toP PyData.shown tupleText
    have e1 := join_le (PyData.shownAll (toPs ds))
    have e2 := h.le
    have e3 : (((if (PyData.shownAll (toPs ds)).length == 1 then ",)" else ")" : String) : Str)).length ≤ 2 := by split <;> decide
    have e4 : ((("(" : String) : Str)).length = 1 := rfl
    rw [strLen_append, strLen_append, e4]
    omega
theorem sh_int {i : Int} (h1 : -100 < i) (h2 : i < 100) {k : Nat} : Sh 3 k (.int i) := by
  have key : ∀ j : Fin 199, PyData.strOk ((PyData.int ((j.val : Int) - 99)).shown) = true ∧ ((PyData.int ((j.val : Int) - 99)).shown).length ≤ 3 ∧ (PyData.int ((j.val : Int) - 99)).showable = true := by
    decide +kernel
  have e := key ⟨(i + 99).toNat, by omega⟩
  have e2 : (((i + 99).toNat : Nat) : Int) - 99 = i := by omega
  rw [e2] at e
  exact ⟨by unfold plain; rfl, by unfold toP; exact e.2.2, by unfold toP PyData.depth; omega, by unfold toP PyData.hasDict; rfl, by unfold toP; exact e.1, by unfold toP; exact e.2.1⟩
theorem sh_non {k : Nat} : Sh 4 k .non := ⟨by unfold plain; rfl, by unfold toP PyData.showable; rfl, by unfold toP PyData.depth; omega, by unfold toP PyData.hasDict; rfl, by decide +kernel, by decide +kernel⟩
theorem repr_sh {c k : Nat} {d : D} (h : Sh c k d) (hc : c ≤ 10000) (hk : k ≤ 60) : reprD [d] = some (.str (toP d).shown) := by
  unfold reprD
  show (if repOk d = true then _ else _) = _
  have hl : (toP d).shown.length ≤ sizeLine := Nat.le_trans h.le (Nat.le_trans hc (by decide))
  have : repOk d = true := by
    unfold repOk
    rw [h.pl, h.sh, decide_eq_true hl, decide_eq_true (Nat.le_trans h.dp hk), h.nd]
    rfl
  rw [if_pos this]
theorem ne_same {s : Str} (h : PyData.strOk s = true) : neD (.str s) (.str s) = some (.bl false) := by
  have e : eqOk (.str s) = true := by
    unfold eqOk SeqAt.shaped plain toP PyData.canLay0 PyData.depth
    rw [h]
    rfl
  unfold neD
  rw [e]
  unfold eqv toP PyData.eqv
  simp
end DL
end

section
set_option Elab.async false
set_option linter.all false
set_option maxRecDepth 100000
set_option maxHeartbeats 2000000
set_option autoImplicit false
/-! DL19: parallel targets of which a comprehension reads one. -/
namespace DL
open PySem L2
theorem ss_par2c {X : Cx} {ms : M (List Sl)} {pos : Pos} {i j : Nat} {x y : Str} {a b : Expr} {px py pt : Pos} {kt k2 : Nat} {pt2 : Pos} (hc : X.calm = true) (hN : X.N.Nodup) (hi : X.N[i]? = some x) (hj : X.N[j]? = some y)
    (hx : Loc X.env.scope x) (hy : Loc X.env.scope y) (ha : SM X [a, b] ms)
    (hfx : X.fn x = true ∨ X.env.scope.names.lookup x = some .local) (hfy : X.fn y = true ∨ X.env.scope.names.lookup y = some .local)
    (hw : swappedStores [.Tuple [.Name x px, .Name y py] kt pt] (.Tuple [a, b] k2 pt2) X.env = pure none)
    (hs : swapsWithSole [.Tuple [.Name x px, .Name y py] kt pt] (.Tuple [a, b] k2 pt2) pos.line X.env = pure false := by rfl)
    (h1 : (assignEach [.Tuple [.Name x px, .Name y py] kt pt] X.env).map (·.2) = [assign (.Tuple [.Name x px, .Name y py] kt pt) X.env] := by rfl)
    (g2 : (assignEach [.Name y py] X.env).map (·.2) = assign (.Name y py) X.env :: (assignEach [] X.env).map (·.2) := by rfl)
    (g1 : (assignEach [.Name x px, .Name y py] X.env).map (·.2) = assign (.Name x px) X.env :: (assignEach [.Name y py] X.env).map (·.2) := by rfl)
    (hn : (assignEach [.Name x px, .Name y py] X.env).length = 2 := by rfl) (hst : (assignEach [.Name x px, .Name y py] X.env).findIdx? (·.1) = none := by rfl) :
    SS X (.Assign [.Tuple [.Name x px, .Name y py] kt pt] (.Tuple [a, b] k2 pt2) pos) (mPar2 i j ms) :=
  fun W tk => PS.imp (ps_asg (pe_tup (ha W tk)) (pg_tup hc (pgs_cons (pg_name hN hi hx hfx) (pgs_cons (pg_name hN hj hy hfy) pgs_nil g2) g1) hn hst) hs hw h1) fun D σv H ⟨B, F, σ, r, h⟩ => (rd1S (P := tM (Cx.par X)) r h).imp fun vs H1 ⟨F1, s1, d, r1, e1, v1, h1⟩ => by
    match d, v1 with
    | [], _ => exact h1.elim
    | [_], _ => exact h1.elim
    | [s, t], v1 =>
      match vs, v1 with
      | [], v1 => exact absurd v1.len (by simp)
      | [_], v1 => exact absurd v1.len (by simp)
      | _ :: _ :: _ :: _, v1 => exact absurd v1.len (by simp)
      | [v, z], v1 =>
        refine ⟨by show 2 ≤ sizeLine; decide, fun q hq => ?_⟩
        obtain ⟨r2, t2⟩ := Tells.step (i := i) r1 v1
        obtain ⟨r3, _⟩ := Tells.step (i := j) r2 t2
        have n : New F1 H1 F1 (upd H1 q (.tup [v, z])) := New.tup r1.dom hq
        exact ⟨q, [v, z], rfl, .inl (.inl upd_same), rfl, v, [z], rfl, z, [], rfl, rfl, h1 _ F1 _ (r3.new n) (n.ext r1.dom)⟩
    | _ :: _ :: _ :: _, _ => exact h1.elim
end DL
end

section
set_option Elab.async false
set_option linter.all false
set_option maxRecDepth 100000
set_option maxHeartbeats 2000000
set_option autoImplicit false
/-! DL20: max of a list of whole numbers. -/
namespace DL
open PySem L2
def ints? : List D → Option (List Int)
  | [] => some []
  | .int n :: r => (ints? r).map (n :: ·)
  | _ :: _ => none
def maxLD : List D → Option D
  | [.lst (.int n :: r)] => (ints? r).map fun ns => .int (ns.foldl max n)
  | _ => none
theorem ints_map : ∀ ns : List Int, ints? (ns.map D.int) = some ns
  | [] => rfl
  | n :: ns => by
    show (ints? (ns.map D.int)).map (n :: ·) = _
    rw [ints_map ns]
    rfl
theorem maxLD_ints (n : Int) (ns : List Int) : maxLD [.lst ((n :: ns).map D.int)] = some (.int (ns.foldl max n)) := by
  show (ints? (ns.map D.int)).map _ = _
  rw [ints_map]
  rfl
section
variable {X : Cx} {p : Par} {F : Addr → Prop} {H : Hp}
theorem ints_at : ∀ {vs : List V} {xs : List D} {ns : List Int}, DVs p F H vs xs → ints? xs = some ns → vs = ns.map V.int
  | _, [], ns, .nil, e => by
    cases e
    rfl
  | _, _ :: xs, ns, .cons h1 h2, e => by
    cases h1 with
    | int n =>
      cases e1 : ints? xs with
      | none =>
        have e : (ints? xs).map (n :: ·) = some ns := e
        rw [e1] at e
        cases e
      | some ms =>
        have e : (ints? xs).map (n :: ·) = some ns := e
        rw [e1] at e
        cases e
        rw [ints_at h2 e1]
        rfl
    | _ => cases e
theorem reads_ints {h : Heap} : ∀ {ns : List Int} {its : List Value}, Vals (ns.map V.int) its → ReadsAll h its (ns.map PyData.int) []
  | [], _, .nil => .nil
  | n :: ns, _, .cons r rr => by
    obtain ⟨t, rfl⟩ := r
    exact .cons (as := []) (bs := []) (.int n t) (reads_ints rr)
def rMaxI (K : PySem.W.Frag) : List V → Hp → VK → Prop := fun vs H Q => ∃ (q : Addr) (n : Int) (ns : List Int), vs = [.ref q] ∧ SqL K H q ((n :: ns).map V.int) ∧ Q (.int (ns.foldl max n)) H
theorem alike_ints : ∀ ns : List Int, PySem.W.AlikeAll (ns.map PyData.int) := fun ns => ⟨fun x hx y hy => by
  obtain ⟨i, _, rfl⟩ := List.mem_map.mp hx
  obtain ⟨j, _, rfl⟩ := List.mem_map.mp hy
  rfl, fun x hx => by
  obtain ⟨i, _, rfl⟩ := List.mem_map.mp hx
  intro z
  cases z⟩
theorem depth_ints : ∀ ns : List Int, PyData.depthAll (ns.map PyData.int) = 0
  | [] => rfl
  | n :: ns => by
    rw [List.map_cons]
    unfold PyData.depthAll
    rw [depth_ints ns]
    unfold PyData.depth
    rfl
theorem call_maxI (hc : X.calm = true) (hu : X.A.units + 65 < cLine) : CallR X (.builtin "max") (rMaxI X.K) := by
  intro pins s σ H vs us Q I r h
  obtain ⟨q, n, ns, rfl, hs, k⟩ := h
  obtain ⟨its, rv, hl, _⟩ := I.list hs
  rw [Vals.ref1 r]
  have hr := reads_ints (h := s.heap) (ns := n :: ns) rv
  refine PySem.W.max_list_data (x := .int n) (xs := ns.map PyData.int) (I.ok.hd hc) hl.isList hr (alike_ints (n :: ns)) (by
    have := depth_ints (n :: ns)
    rw [List.map_cons] at this
    rw [this]
    omega) fun i v h' tk bs hv hr' hk => ?_
  rw [PySem.W.maxD_ints] at hr'
  cases hr'
  exact ⟨.int _, H, I.kept hk, ⟨_, rfl⟩, k⟩
theorem pc_maxI : PC1 (Cx.par X) (rMaxI X.K) maxLD := by
  intro F H vs ds d Q hd hv hf k
  unfold maxLD at hf
  split at hf
  · rename_i n r
    cases e : ints? r with
    | none =>
      rw [e] at hf
      cases hf
    | some ns =>
      rw [e] at hf
      cases hf
      cases hv with
      | cons h1 h2 =>
        cases h2
        cases h1 with
        | @lst a ws _ g1 g2 =>
          have e2 : ints? (.int n :: r) = some (n :: ns) := by
            show (ints? r).map (n :: ·) = _
            rw [e]
            rfl
          exact ⟨a, n, ns, rfl, by rw [← ints_at g2 e2]; exact g1.sq, po_same hd k (.int _)⟩
  · cases hf
theorem bMaxL {k : Nat} {e : Expr} {ms : M (List D)} {q pos : Pos} (hr : Room k X.A) (hc : X.calm = true) (hm : X.mg "max" = none) (hs : SA X [e] ms) (hg : Gl X "max" := by rfl) (he : starEach [e] X.env = (false, eval e X.env) :: starEach [] X.env := by rfl) (hpl : (backTo pos (starEach [] X.env)).any (·.1) = false := by rfl) :
    SE X (.Call (.Name "max" q) [e] [] pos) (mFn maxLD ms) := se_cb (call_maxI hc (u65 hr)) pc_maxI hg hm (by first | boot_by_name | rfl | kernel_rfl) hs (by decide) (by decide) he hpl
end
end DL
end

section
set_option Elab.async false
set_option linter.all false
set_option maxRecDepth 100000
set_option maxHeartbeats 2000000
set_option autoImplicit false
/-! DL21: list + list. -/
namespace DL
open PySem L2 PySem.SeqAt
def addLD : D → D → Option D
  | .lst a, .lst b => if a.length + b.length ≤ sizeLine then some (.lst (a ++ b)) else none
  | _, _ => none
def rCatL (K : PySem.W.Frag) : R2 := fun x y H Q => ∃ l b xs zs, x = .ref l ∧ y = .ref b ∧ SqL K H l xs ∧ SqL K H b zs ∧ xs.length + zs.length ≤ sizeLine ∧ ∀ p, H p = none → Q (.ref p) (upd H p (.lst (xs ++ zs)))
section
variable {X : Cx} {p : Par}
theorem op_catL : OpR X (binaryOp .Add) (rCatL X.K) := by
  intro pins s σ H x y v u Q I rx ry h
  obtain ⟨l, b, xs, zs, rfl, rfl, hH, hB, hz, q⟩ := h
  cases rx
  cases ry
  obtain ⟨its, r, ⟨o, n, e, c1, d1, e1⟩, hl⟩ := I.list hH
  obtain ⟨its2, r2, ⟨o2, n2, e2, c2, d2, e3⟩, hl2⟩ := I.list hB
  obtain ⟨cls, dd, data, sl⟩ := o
  obtain ⟨cls2, dd2, data2, sl2⟩ := o2
  cases c1
  cases c2
  cases d1
  cases d2
  cases e1
  cases e3
  have ea : its.toArray ++ its2.toArray = (its ++ its2).toArray := by simp
  refine concat_meets ⟨_, e, rfl⟩ ⟨_, e2, rfl⟩ PySem.noFill_list_add PySem.seq_list_add PySem.F.slot_list_add PySem.F.entry_list_add (PySem.F.args_list_add_2 _ _) (PyProof.Rows.list_addW l b its.toArray its2.toArray n n2 none none sl sl2 (by
    have := r.length
    have := r2.length
    rw [List.size_toArray, List.size_toArray]
    omega)) ⟨e, e2, ?_⟩
  rw [ea]
  exact ⟨.ref _, _, I.lnew (t' := s.toks) (r.append r2) (by rw [List.length_append]; omega), rfl, q _ I.fresh⟩
theorem po_catL : PO2 p (rCatL p.K) addLD := by
  intro F H x y dx dy d Q hd hx hy hf k
  unfold addLD at hf
  split at hf
  · split at hf
    · rename_i hl
      cases hf
      cases hx with
      | @lst a vs _ g1 g2 =>
        cases hy with
        | @lst b ws _ g3 g4 =>
          refine ⟨a, b, vs, ws, rfl, rfl, g1.sq, g3.sq, by rw [g2.length, g4.length]; exact hl, fun q hq => ?_⟩
          have n := New.lst (xs := vs ++ ws) hd hq
          exact k _ _ _ n (.lst (.inl ⟨.inr rfl, upd_same⟩) ((g2.append g4).ext (n.ext hd)))
    · cases hf
  · cases hf
theorem oAddL {a b : Expr} {ma mb : M D} {pos : Pos} (ha : SE X a ma) (hb : SE X b mb) : SE X (.BinOp a .Add b pos) (mOp2 addLD ma mb) := se_op2 op_catL po_catL ha hb
end
end DL
end

section
set_option Elab.async false
set_option linter.all false
set_option maxRecDepth 100000
set_option maxHeartbeats 2000000
set_option autoImplicit false
/-! DL22: slots that are read no more are forgotten. -/
namespace DL
open PySem L2
def fgt (js : List Nat) (σ : DSt) : DSt := js.foldl (fun s j => s.set j .no) σ
def SO.fgt (js : List Nat) : SO → SO
  | .nx s => .nx (DL.fgt js s)
  | .cont s => .cont (DL.fgt js s)
  | .brk s => .brk (DL.fgt js s)
  | .ret r s => .ret r s
  | .err c fs s => .err c fs s
  | .bad => .bad
def mFgt (js : List Nat) (m : MS) : MS := fun σ => (m σ).fgt js
section
variable {p : Par} {W : WX} {B : Ent} {F : Addr → Prop} {σv : L2.St} {H : Hp} {σ : DSt}
theorem Rel.no (r : Rel p B F σv H σ) (i : Nat) : Rel p B F σv H (σ.set i .no) where
  len := by rw [List.length_set]; exact r.len
  dom := r.dom
  f0 := r.f0
  nw := r.nw
  keep := r.keep
  bw := r.bw
  wl := r.wl
  sl := fun j s e => by
    by_cases hj : i = j
    · subst hj
      have hl : i < σ.length := by
        have := (List.getElem?_eq_some_iff.mp e).1
        rw [List.length_set] at this
        exact this
      rw [List.getElem?_set_self hl] at e
      have e' := Option.some.inj e
      subst e'
      obtain ⟨o, e2, _⟩ := r.sl i _ (List.getElem?_eq_getElem hl)
      exact ⟨o, e2, trivial⟩
    · rw [List.getElem?_set_ne hj] at e
      exact r.sl j s e
  sep := fun j k b c xs ys hne h1 h2 => by
    have n1 : i ≠ j := fun z => by
      subst z
      rw [List.getElem?_set] at h1
      split at h1
      · split at h1
        · cases h1
        · cases h1
      · exact absurd rfl ‹_›
    have n2 : i ≠ k := fun z => by
      subst z
      rw [List.getElem?_set] at h2
      split at h2
      · split at h2
        · cases h2
        · cases h2
      · exact absurd rfl ‹_›
    rw [List.getElem?_set_ne n1] at h1
    rw [List.getElem?_set_ne n2] at h2
    exact r.sep j k b c xs ys hne h1 h2
theorem Rel.fgt : ∀ (js : List Nat) {σ : DSt}, Rel p B F σv H σ → Rel p B F σv H (fgt js σ)
  | [], _, r => r
  | j :: js, _, r => Rel.fgt js (r.no j)
theorem coreS_fgt {D : Ends} (js : List Nat) {r : SO} (h : coreS p W D B F σv H (r.fgt js)) : coreS p W D B F σv H r := by
  cases r with
  | nx s => exact fun b G K q x => h b G K (q.fgt js) x
  | cont s => exact fun b G K q x => h b G K (q.fgt js) x
  | brk s => exact fun b G K q x => h b G K (q.fgt js) x
  | ret a s => exact h
  | err c fs s => exact h
  | bad => exact h
end
section
variable {X : Cx} {st : Stmt} {sts : List Stmt} {m : MS}
theorem ss_fgt (js : List Nat) (h : SS X st m) : SS X st (mFgt js m) := fun W tk => PS.imp (h W tk) fun D σv H ⟨B, F, σ, r, h⟩ => ⟨B, F, σ, r, coreS_fgt js h⟩
theorem sss_fgt (js : List Nat) (h : SSs X sts m) : SSs X sts (mFgt js m) := fun W tk => PSs.imp (h W tk) fun D σv H ⟨B, F, σ, r, h⟩ => ⟨B, F, σ, r, coreS_fgt js h⟩
end
/-- what is handed back, or an error, leaves no slots but the first k -/
def wr (k : Nat) (σ : DSt) : DSt := σ.take k ++ (σ.drop k).map fun _ => Sl.no
def SO.wr (k : Nat) : SO → SO
  | .nx s => .nx s
  | .cont s => .cont s
  | .brk s => .brk s
  | .ret r s => .ret r (DL.wr k s)
  | .err c fs s => .err c fs (DL.wr k s)
  | .bad => .bad
def mFgR (k : Nat) (m : MS) : MS := fun σ => (m σ).wr k
section
variable {p : Par} {W : WX} {B : Ent} {F : Addr → Prop} {σv : L2.St} {H : Hp} {σ : DSt}
theorem Rel.len' (r : Rel p B F σv H σ) : σ.length = σv.length := r.len
theorem Rel.nos (r : Rel p B F σv H σ) {τ : DSt} (hl : τ.length = σ.length) (h : ∀ (i : Nat) (s : Sl), τ[i]? = some s → s = .no ∨ σ[i]? = some s) : Rel p B F σv H τ where
  len := by rw [hl]; exact r.len
  dom := r.dom
  f0 := r.f0
  nw := r.nw
  keep := r.keep
  bw := r.bw
  wl := r.wl
  sl := fun j s e => by
    rcases h j s e with z | z
    · subst z
      have hlt : j < σ.length := by
        have := (List.getElem?_eq_some_iff.mp e).1
        omega
      obtain ⟨o, e2, _⟩ := r.sl j _ (List.getElem?_eq_getElem hlt)
      exact ⟨o, e2, trivial⟩
    · exact r.sl j s z
  sep := fun j k b c xs ys hne h1 h2 => by
    rcases h j _ h1 with z | z
    · cases z
    · rcases h k _ h2 with y | y
      · cases y
      · exact r.sep j k b c xs ys hne z y
theorem Rel.wr (k : Nat) (r : Rel p B F σv H σ) : Rel p B F σv H (wr k σ) := r.nos (by
  unfold DL.wr
  rw [List.length_append, List.length_map, List.length_take, List.length_drop]
  omega) fun i s e => by
  unfold DL.wr at e
  by_cases h : i < (σ.take k).length
  · rw [List.getElem?_append_left h, List.getElem?_take] at e
    split at e
    · exact .inr e
    · cases e
  · rw [List.getElem?_append_right (Nat.le_of_not_lt h), List.getElem?_map] at e
    cases q : (σ.drop k)[i - (σ.take k).length]? with
    | none =>
      rw [q] at e
      cases e
    | some t =>
      rw [q] at e
      cases e
      exact .inl rfl
/-- only what is told changes, for .ret with data -/
theorem RtE_wr {σ τ : DSt} {v : V} {r : Rt} (hl : ∀ (i : Nat) (s : Sl), τ[i]? = some s → s = .no ∨ σ[i]? = some s) (h : RtE p B F σv H σ v r) : RtE p B F σv H τ v r := by
  cases r with
  | v d => exact h
  | l xs =>
    obtain ⟨q, e, f⟩ := h
    exact ⟨q, e, f.at_, f.nf, f.nb, fun j b ys e2 => by
      rcases hl j _ e2 with z | z
      · cases z
      · exact f.ns j b ys z⟩
theorem wr_sub (k : Nat) (σ : DSt) (i : Nat) (s : Sl) (e : (wr k σ)[i]? = some s) : s = .no ∨ σ[i]? = some s := by
  unfold DL.wr at e
  by_cases h : i < (σ.take k).length
  · rw [List.getElem?_append_left h, List.getElem?_take] at e
    split at e
    · exact .inr e
    · cases e
  · rw [List.getElem?_append_right (Nat.le_of_not_lt h), List.getElem?_map] at e
    cases q : (σ.drop k)[i - (σ.take k).length]? with
    | none =>
      rw [q] at e
      cases e
    | some t =>
      rw [q] at e
      cases e
      exact .inl rfl
theorem coreS_wr {D : Ends} (k : Nat) {r : SO} (h : coreS p W D B F σv H (r.wr k)) : coreS p W D B F σv H r := by
  cases r with
  | nx s => exact h
  | cont s => exact h
  | brk s => exact h
  | ret a s => exact fun v b G K q x t => h v b G K (q.wr k) x (RtE_wr (wr_sub k s) t)
  | err c fs s => exact fun b G K dx C q x => h b G K dx C (q.wr k) x
  | bad => exact h
theorem sss_fgr {X : Cx} {sts : List Stmt} {m : MS} (k : Nat) (h : SSs X sts m) : SSs X sts (mFgR k m) := fun W tk => PSs.imp (h W tk) fun D σv H ⟨B, F, σ, r, h⟩ => ⟨B, F, σ, r, coreS_wr k h⟩
end
end DL
end

section
set_option Elab.async false
set_option linter.all false
set_option maxRecDepth 100000
set_option maxHeartbeats 2000000
set_option autoImplicit false
/-! DL23: evaluation, one row each. -/
namespace DL
open PySem L2
section
variable {d : D} {xs ys : List D} {b : Bool} {l : DSt} {s t : Sl}
theorem vv0 : mVar 0 (.val d :: l) = .ok d (.val d :: l) := rfl
theorem vo0 : mVar 0 (Sl.own false xs :: l) = .ok (.lst xs) (.val (.lst xs) :: l) := rfl
theorem gt0 {α : Type} {s t : α} {l : List α} : (s :: l)[0]? = some s := rfl
theorem st0 {α : Type} {s t : α} {l : List α} : (s :: l).set 0 t = t :: l := rfl
theorem vv1 {a0 : Sl} : mVar 1 (a0 :: .val d :: l) = .ok d (a0 :: .val d :: l) := rfl
theorem vo1 {a0 : Sl} : mVar 1 (a0 :: Sl.own false xs :: l) = .ok (.lst xs) (a0 :: .val (.lst xs) :: l) := rfl
theorem gt1 {α : Type} {s t : α} {l : List α} {a0 : α} : (a0 :: s :: l)[1]? = some s := rfl
theorem st1 {α : Type} {s t : α} {l : List α} {a0 : α} : (a0 :: s :: l).set 1 t = a0 :: t :: l := rfl
theorem vv2 {a0 a1 : Sl} : mVar 2 (a0 :: a1 :: .val d :: l) = .ok d (a0 :: a1 :: .val d :: l) := rfl
theorem vo2 {a0 a1 : Sl} : mVar 2 (a0 :: a1 :: Sl.own false xs :: l) = .ok (.lst xs) (a0 :: a1 :: .val (.lst xs) :: l) := rfl
theorem gt2 {α : Type} {s t : α} {l : List α} {a0 a1 : α} : (a0 :: a1 :: s :: l)[2]? = some s := rfl
theorem st2 {α : Type} {s t : α} {l : List α} {a0 a1 : α} : (a0 :: a1 :: s :: l).set 2 t = a0 :: a1 :: t :: l := rfl
theorem vv3 {a0 a1 a2 : Sl} : mVar 3 (a0 :: a1 :: a2 :: .val d :: l) = .ok d (a0 :: a1 :: a2 :: .val d :: l) := rfl
theorem vo3 {a0 a1 a2 : Sl} : mVar 3 (a0 :: a1 :: a2 :: Sl.own false xs :: l) = .ok (.lst xs) (a0 :: a1 :: a2 :: .val (.lst xs) :: l) := rfl
theorem gt3 {α : Type} {s t : α} {l : List α} {a0 a1 a2 : α} : (a0 :: a1 :: a2 :: s :: l)[3]? = some s := rfl
theorem st3 {α : Type} {s t : α} {l : List α} {a0 a1 a2 : α} : (a0 :: a1 :: a2 :: s :: l).set 3 t = a0 :: a1 :: a2 :: t :: l := rfl
theorem vv4 {a0 a1 a2 a3 : Sl} : mVar 4 (a0 :: a1 :: a2 :: a3 :: .val d :: l) = .ok d (a0 :: a1 :: a2 :: a3 :: .val d :: l) := rfl
theorem vo4 {a0 a1 a2 a3 : Sl} : mVar 4 (a0 :: a1 :: a2 :: a3 :: Sl.own false xs :: l) = .ok (.lst xs) (a0 :: a1 :: a2 :: a3 :: .val (.lst xs) :: l) := rfl
theorem gt4 {α : Type} {s t : α} {l : List α} {a0 a1 a2 a3 : α} : (a0 :: a1 :: a2 :: a3 :: s :: l)[4]? = some s := rfl
theorem st4 {α : Type} {s t : α} {l : List α} {a0 a1 a2 a3 : α} : (a0 :: a1 :: a2 :: a3 :: s :: l).set 4 t = a0 :: a1 :: a2 :: a3 :: t :: l := rfl
theorem vv5 {a0 a1 a2 a3 a4 : Sl} : mVar 5 (a0 :: a1 :: a2 :: a3 :: a4 :: .val d :: l) = .ok d (a0 :: a1 :: a2 :: a3 :: a4 :: .val d :: l) := rfl
theorem vo5 {a0 a1 a2 a3 a4 : Sl} : mVar 5 (a0 :: a1 :: a2 :: a3 :: a4 :: Sl.own false xs :: l) = .ok (.lst xs) (a0 :: a1 :: a2 :: a3 :: a4 :: .val (.lst xs) :: l) := rfl
theorem gt5 {α : Type} {s t : α} {l : List α} {a0 a1 a2 a3 a4 : α} : (a0 :: a1 :: a2 :: a3 :: a4 :: s :: l)[5]? = some s := rfl
theorem st5 {α : Type} {s t : α} {l : List α} {a0 a1 a2 a3 a4 : α} : (a0 :: a1 :: a2 :: a3 :: a4 :: s :: l).set 5 t = a0 :: a1 :: a2 :: a3 :: a4 :: t :: l := rfl
theorem vv6 {a0 a1 a2 a3 a4 a5 : Sl} : mVar 6 (a0 :: a1 :: a2 :: a3 :: a4 :: a5 :: .val d :: l) = .ok d (a0 :: a1 :: a2 :: a3 :: a4 :: a5 :: .val d :: l) := rfl
theorem vo6 {a0 a1 a2 a3 a4 a5 : Sl} : mVar 6 (a0 :: a1 :: a2 :: a3 :: a4 :: a5 :: Sl.own false xs :: l) = .ok (.lst xs) (a0 :: a1 :: a2 :: a3 :: a4 :: a5 :: .val (.lst xs) :: l) := rfl
theorem gt6 {α : Type} {s t : α} {l : List α} {a0 a1 a2 a3 a4 a5 : α} : (a0 :: a1 :: a2 :: a3 :: a4 :: a5 :: s :: l)[6]? = some s := rfl
theorem st6 {α : Type} {s t : α} {l : List α} {a0 a1 a2 a3 a4 a5 : α} : (a0 :: a1 :: a2 :: a3 :: a4 :: a5 :: s :: l).set 6 t = a0 :: a1 :: a2 :: a3 :: a4 :: a5 :: t :: l := rfl
theorem vv7 {a0 a1 a2 a3 a4 a5 a6 : Sl} : mVar 7 (a0 :: a1 :: a2 :: a3 :: a4 :: a5 :: a6 :: .val d :: l) = .ok d (a0 :: a1 :: a2 :: a3 :: a4 :: a5 :: a6 :: .val d :: l) := rfl
theorem vo7 {a0 a1 a2 a3 a4 a5 a6 : Sl} : mVar 7 (a0 :: a1 :: a2 :: a3 :: a4 :: a5 :: a6 :: Sl.own false xs :: l) = .ok (.lst xs) (a0 :: a1 :: a2 :: a3 :: a4 :: a5 :: a6 :: .val (.lst xs) :: l) := rfl
theorem gt7 {α : Type} {s t : α} {l : List α} {a0 a1 a2 a3 a4 a5 a6 : α} : (a0 :: a1 :: a2 :: a3 :: a4 :: a5 :: a6 :: s :: l)[7]? = some s := rfl
theorem st7 {α : Type} {s t : α} {l : List α} {a0 a1 a2 a3 a4 a5 a6 : α} : (a0 :: a1 :: a2 :: a3 :: a4 :: a5 :: a6 :: s :: l).set 7 t = a0 :: a1 :: a2 :: a3 :: a4 :: a5 :: a6 :: t :: l := rfl
theorem vv8 {a0 a1 a2 a3 a4 a5 a6 a7 : Sl} : mVar 8 (a0 :: a1 :: a2 :: a3 :: a4 :: a5 :: a6 :: a7 :: .val d :: l) = .ok d (a0 :: a1 :: a2 :: a3 :: a4 :: a5 :: a6 :: a7 :: .val d :: l) := rfl
theorem vo8 {a0 a1 a2 a3 a4 a5 a6 a7 : Sl} : mVar 8 (a0 :: a1 :: a2 :: a3 :: a4 :: a5 :: a6 :: a7 :: Sl.own false xs :: l) = .ok (.lst xs) (a0 :: a1 :: a2 :: a3 :: a4 :: a5 :: a6 :: a7 :: .val (.lst xs) :: l) := rfl
theorem gt8 {α : Type} {s t : α} {l : List α} {a0 a1 a2 a3 a4 a5 a6 a7 : α} : (a0 :: a1 :: a2 :: a3 :: a4 :: a5 :: a6 :: a7 :: s :: l)[8]? = some s := rfl
theorem st8 {α : Type} {s t : α} {l : List α} {a0 a1 a2 a3 a4 a5 a6 a7 : α} : (a0 :: a1 :: a2 :: a3 :: a4 :: a5 :: a6 :: a7 :: s :: l).set 8 t = a0 :: a1 :: a2 :: a3 :: a4 :: a5 :: a6 :: a7 :: t :: l := rfl
theorem vv9 {a0 a1 a2 a3 a4 a5 a6 a7 a8 : Sl} : mVar 9 (a0 :: a1 :: a2 :: a3 :: a4 :: a5 :: a6 :: a7 :: a8 :: .val d :: l) = .ok d (a0 :: a1 :: a2 :: a3 :: a4 :: a5 :: a6 :: a7 :: a8 :: .val d :: l) := rfl
theorem vo9 {a0 a1 a2 a3 a4 a5 a6 a7 a8 : Sl} : mVar 9 (a0 :: a1 :: a2 :: a3 :: a4 :: a5 :: a6 :: a7 :: a8 :: Sl.own false xs :: l) = .ok (.lst xs) (a0 :: a1 :: a2 :: a3 :: a4 :: a5 :: a6 :: a7 :: a8 :: .val (.lst xs) :: l) := rfl
theorem gt9 {α : Type} {s t : α} {l : List α} {a0 a1 a2 a3 a4 a5 a6 a7 a8 : α} : (a0 :: a1 :: a2 :: a3 :: a4 :: a5 :: a6 :: a7 :: a8 :: s :: l)[9]? = some s := rfl
theorem st9 {α : Type} {s t : α} {l : List α} {a0 a1 a2 a3 a4 a5 a6 a7 a8 : α} : (a0 :: a1 :: a2 :: a3 :: a4 :: a5 :: a6 :: a7 :: a8 :: s :: l).set 9 t = a0 :: a1 :: a2 :: a3 :: a4 :: a5 :: a6 :: a7 :: a8 :: t :: l := rfl
theorem vv10 {a0 a1 a2 a3 a4 a5 a6 a7 a8 a9 : Sl} : mVar 10 (a0 :: a1 :: a2 :: a3 :: a4 :: a5 :: a6 :: a7 :: a8 :: a9 :: .val d :: l) = .ok d (a0 :: a1 :: a2 :: a3 :: a4 :: a5 :: a6 :: a7 :: a8 :: a9 :: .val d :: l) := rfl
theorem vo10 {a0 a1 a2 a3 a4 a5 a6 a7 a8 a9 : Sl} : mVar 10 (a0 :: a1 :: a2 :: a3 :: a4 :: a5 :: a6 :: a7 :: a8 :: a9 :: Sl.own false xs :: l) = .ok (.lst xs) (a0 :: a1 :: a2 :: a3 :: a4 :: a5 :: a6 :: a7 :: a8 :: a9 :: .val (.lst xs) :: l) := rfl
theorem gt10 {α : Type} {s t : α} {l : List α} {a0 a1 a2 a3 a4 a5 a6 a7 a8 a9 : α} : (a0 :: a1 :: a2 :: a3 :: a4 :: a5 :: a6 :: a7 :: a8 :: a9 :: s :: l)[10]? = some s := rfl
theorem st10 {α : Type} {s t : α} {l : List α} {a0 a1 a2 a3 a4 a5 a6 a7 a8 a9 : α} : (a0 :: a1 :: a2 :: a3 :: a4 :: a5 :: a6 :: a7 :: a8 :: a9 :: s :: l).set 10 t = a0 :: a1 :: a2 :: a3 :: a4 :: a5 :: a6 :: a7 :: a8 :: a9 :: t :: l := rfl
theorem vv11 {a0 a1 a2 a3 a4 a5 a6 a7 a8 a9 a10 : Sl} : mVar 11 (a0 :: a1 :: a2 :: a3 :: a4 :: a5 :: a6 :: a7 :: a8 :: a9 :: a10 :: .val d :: l) = .ok d (a0 :: a1 :: a2 :: a3 :: a4 :: a5 :: a6 :: a7 :: a8 :: a9 :: a10 :: .val d :: l) := rfl
theorem vo11 {a0 a1 a2 a3 a4 a5 a6 a7 a8 a9 a10 : Sl} : mVar 11 (a0 :: a1 :: a2 :: a3 :: a4 :: a5 :: a6 :: a7 :: a8 :: a9 :: a10 :: Sl.own false xs :: l) = .ok (.lst xs) (a0 :: a1 :: a2 :: a3 :: a4 :: a5 :: a6 :: a7 :: a8 :: a9 :: a10 :: .val (.lst xs) :: l) := rfl
theorem gt11 {α : Type} {s t : α} {l : List α} {a0 a1 a2 a3 a4 a5 a6 a7 a8 a9 a10 : α} : (a0 :: a1 :: a2 :: a3 :: a4 :: a5 :: a6 :: a7 :: a8 :: a9 :: a10 :: s :: l)[11]? = some s := rfl
theorem st11 {α : Type} {s t : α} {l : List α} {a0 a1 a2 a3 a4 a5 a6 a7 a8 a9 a10 : α} : (a0 :: a1 :: a2 :: a3 :: a4 :: a5 :: a6 :: a7 :: a8 :: a9 :: a10 :: s :: l).set 11 t = a0 :: a1 :: a2 :: a3 :: a4 :: a5 :: a6 :: a7 :: a8 :: a9 :: a10 :: t :: l := rfl
theorem vv12 {a0 a1 a2 a3 a4 a5 a6 a7 a8 a9 a10 a11 : Sl} : mVar 12 (a0 :: a1 :: a2 :: a3 :: a4 :: a5 :: a6 :: a7 :: a8 :: a9 :: a10 :: a11 :: .val d :: l) = .ok d (a0 :: a1 :: a2 :: a3 :: a4 :: a5 :: a6 :: a7 :: a8 :: a9 :: a10 :: a11 :: .val d :: l) := rfl
theorem vo12 {a0 a1 a2 a3 a4 a5 a6 a7 a8 a9 a10 a11 : Sl} : mVar 12 (a0 :: a1 :: a2 :: a3 :: a4 :: a5 :: a6 :: a7 :: a8 :: a9 :: a10 :: a11 :: Sl.own false xs :: l) = .ok (.lst xs) (a0 :: a1 :: a2 :: a3 :: a4 :: a5 :: a6 :: a7 :: a8 :: a9 :: a10 :: a11 :: .val (.lst xs) :: l) := rfl
theorem gt12 {α : Type} {s t : α} {l : List α} {a0 a1 a2 a3 a4 a5 a6 a7 a8 a9 a10 a11 : α} : (a0 :: a1 :: a2 :: a3 :: a4 :: a5 :: a6 :: a7 :: a8 :: a9 :: a10 :: a11 :: s :: l)[12]? = some s := rfl
theorem st12 {α : Type} {s t : α} {l : List α} {a0 a1 a2 a3 a4 a5 a6 a7 a8 a9 a10 a11 : α} : (a0 :: a1 :: a2 :: a3 :: a4 :: a5 :: a6 :: a7 :: a8 :: a9 :: a10 :: a11 :: s :: l).set 12 t = a0 :: a1 :: a2 :: a3 :: a4 :: a5 :: a6 :: a7 :: a8 :: a9 :: a10 :: a11 :: t :: l := rfl
theorem vv13 {a0 a1 a2 a3 a4 a5 a6 a7 a8 a9 a10 a11 a12 : Sl} : mVar 13 (a0 :: a1 :: a2 :: a3 :: a4 :: a5 :: a6 :: a7 :: a8 :: a9 :: a10 :: a11 :: a12 :: .val d :: l) = .ok d (a0 :: a1 :: a2 :: a3 :: a4 :: a5 :: a6 :: a7 :: a8 :: a9 :: a10 :: a11 :: a12 :: .val d :: l) := rfl
theorem vo13 {a0 a1 a2 a3 a4 a5 a6 a7 a8 a9 a10 a11 a12 : Sl} : mVar 13 (a0 :: a1 :: a2 :: a3 :: a4 :: a5 :: a6 :: a7 :: a8 :: a9 :: a10 :: a11 :: a12 :: Sl.own false xs :: l) = .ok (.lst xs) (a0 :: a1 :: a2 :: a3 :: a4 :: a5 :: a6 :: a7 :: a8 :: a9 :: a10 :: a11 :: a12 :: .val (.lst xs) :: l) := rfl
theorem gt13 {α : Type} {s t : α} {l : List α} {a0 a1 a2 a3 a4 a5 a6 a7 a8 a9 a10 a11 a12 : α} : (a0 :: a1 :: a2 :: a3 :: a4 :: a5 :: a6 :: a7 :: a8 :: a9 :: a10 :: a11 :: a12 :: s :: l)[13]? = some s := rfl
theorem st13 {α : Type} {s t : α} {l : List α} {a0 a1 a2 a3 a4 a5 a6 a7 a8 a9 a10 a11 a12 : α} : (a0 :: a1 :: a2 :: a3 :: a4 :: a5 :: a6 :: a7 :: a8 :: a9 :: a10 :: a11 :: a12 :: s :: l).set 13 t = a0 :: a1 :: a2 :: a3 :: a4 :: a5 :: a6 :: a7 :: a8 :: a9 :: a10 :: a11 :: a12 :: t :: l := rfl
theorem vv14 {a0 a1 a2 a3 a4 a5 a6 a7 a8 a9 a10 a11 a12 a13 : Sl} : mVar 14 (a0 :: a1 :: a2 :: a3 :: a4 :: a5 :: a6 :: a7 :: a8 :: a9 :: a10 :: a11 :: a12 :: a13 :: .val d :: l) = .ok d (a0 :: a1 :: a2 :: a3 :: a4 :: a5 :: a6 :: a7 :: a8 :: a9 :: a10 :: a11 :: a12 :: a13 :: .val d :: l) := rfl
theorem vo14 {a0 a1 a2 a3 a4 a5 a6 a7 a8 a9 a10 a11 a12 a13 : Sl} : mVar 14 (a0 :: a1 :: a2 :: a3 :: a4 :: a5 :: a6 :: a7 :: a8 :: a9 :: a10 :: a11 :: a12 :: a13 :: Sl.own false xs :: l) = .ok (.lst xs) (a0 :: a1 :: a2 :: a3 :: a4 :: a5 :: a6 :: a7 :: a8 :: a9 :: a10 :: a11 :: a12 :: a13 :: .val (.lst xs) :: l) := rfl
theorem gt14 {α : Type} {s t : α} {l : List α} {a0 a1 a2 a3 a4 a5 a6 a7 a8 a9 a10 a11 a12 a13 : α} : (a0 :: a1 :: a2 :: a3 :: a4 :: a5 :: a6 :: a7 :: a8 :: a9 :: a10 :: a11 :: a12 :: a13 :: s :: l)[14]? = some s := rfl
theorem st14 {α : Type} {s t : α} {l : List α} {a0 a1 a2 a3 a4 a5 a6 a7 a8 a9 a10 a11 a12 a13 : α} : (a0 :: a1 :: a2 :: a3 :: a4 :: a5 :: a6 :: a7 :: a8 :: a9 :: a10 :: a11 :: a12 :: a13 :: s :: l).set 14 t = a0 :: a1 :: a2 :: a3 :: a4 :: a5 :: a6 :: a7 :: a8 :: a9 :: a10 :: a11 :: a12 :: a13 :: t :: l := rfl
theorem vv15 {a0 a1 a2 a3 a4 a5 a6 a7 a8 a9 a10 a11 a12 a13 a14 : Sl} : mVar 15 (a0 :: a1 :: a2 :: a3 :: a4 :: a5 :: a6 :: a7 :: a8 :: a9 :: a10 :: a11 :: a12 :: a13 :: a14 :: .val d :: l) = .ok d (a0 :: a1 :: a2 :: a3 :: a4 :: a5 :: a6 :: a7 :: a8 :: a9 :: a10 :: a11 :: a12 :: a13 :: a14 :: .val d :: l) := rfl
theorem vo15 {a0 a1 a2 a3 a4 a5 a6 a7 a8 a9 a10 a11 a12 a13 a14 : Sl} : mVar 15 (a0 :: a1 :: a2 :: a3 :: a4 :: a5 :: a6 :: a7 :: a8 :: a9 :: a10 :: a11 :: a12 :: a13 :: a14 :: Sl.own false xs :: l) = .ok (.lst xs) (a0 :: a1 :: a2 :: a3 :: a4 :: a5 :: a6 :: a7 :: a8 :: a9 :: a10 :: a11 :: a12 :: a13 :: a14 :: .val (.lst xs) :: l) := rfl
theorem gt15 {α : Type} {s t : α} {l : List α} {a0 a1 a2 a3 a4 a5 a6 a7 a8 a9 a10 a11 a12 a13 a14 : α} : (a0 :: a1 :: a2 :: a3 :: a4 :: a5 :: a6 :: a7 :: a8 :: a9 :: a10 :: a11 :: a12 :: a13 :: a14 :: s :: l)[15]? = some s := rfl
theorem st15 {α : Type} {s t : α} {l : List α} {a0 a1 a2 a3 a4 a5 a6 a7 a8 a9 a10 a11 a12 a13 a14 : α} : (a0 :: a1 :: a2 :: a3 :: a4 :: a5 :: a6 :: a7 :: a8 :: a9 :: a10 :: a11 :: a12 :: a13 :: a14 :: s :: l).set 15 t = a0 :: a1 :: a2 :: a3 :: a4 :: a5 :: a6 :: a7 :: a8 :: a9 :: a10 :: a11 :: a12 :: a13 :: a14 :: t :: l := rfl
theorem vv16 {a0 a1 a2 a3 a4 a5 a6 a7 a8 a9 a10 a11 a12 a13 a14 a15 : Sl} : mVar 16 (a0 :: a1 :: a2 :: a3 :: a4 :: a5 :: a6 :: a7 :: a8 :: a9 :: a10 :: a11 :: a12 :: a13 :: a14 :: a15 :: .val d :: l) = .ok d (a0 :: a1 :: a2 :: a3 :: a4 :: a5 :: a6 :: a7 :: a8 :: a9 :: a10 :: a11 :: a12 :: a13 :: a14 :: a15 :: .val d :: l) := rfl
theorem vo16 {a0 a1 a2 a3 a4 a5 a6 a7 a8 a9 a10 a11 a12 a13 a14 a15 : Sl} : mVar 16 (a0 :: a1 :: a2 :: a3 :: a4 :: a5 :: a6 :: a7 :: a8 :: a9 :: a10 :: a11 :: a12 :: a13 :: a14 :: a15 :: Sl.own false xs :: l) = .ok (.lst xs) (a0 :: a1 :: a2 :: a3 :: a4 :: a5 :: a6 :: a7 :: a8 :: a9 :: a10 :: a11 :: a12 :: a13 :: a14 :: a15 :: .val (.lst xs) :: l) := rfl
theorem gt16 {α : Type} {s t : α} {l : List α} {a0 a1 a2 a3 a4 a5 a6 a7 a8 a9 a10 a11 a12 a13 a14 a15 : α} : (a0 :: a1 :: a2 :: a3 :: a4 :: a5 :: a6 :: a7 :: a8 :: a9 :: a10 :: a11 :: a12 :: a13 :: a14 :: a15 :: s :: l)[16]? = some s := rfl
theorem st16 {α : Type} {s t : α} {l : List α} {a0 a1 a2 a3 a4 a5 a6 a7 a8 a9 a10 a11 a12 a13 a14 a15 : α} : (a0 :: a1 :: a2 :: a3 :: a4 :: a5 :: a6 :: a7 :: a8 :: a9 :: a10 :: a11 :: a12 :: a13 :: a14 :: a15 :: s :: l).set 16 t = a0 :: a1 :: a2 :: a3 :: a4 :: a5 :: a6 :: a7 :: a8 :: a9 :: a10 :: a11 :: a12 :: a13 :: a14 :: a15 :: t :: l := rfl
theorem vv17 {a0 a1 a2 a3 a4 a5 a6 a7 a8 a9 a10 a11 a12 a13 a14 a15 a16 : Sl} : mVar 17 (a0 :: a1 :: a2 :: a3 :: a4 :: a5 :: a6 :: a7 :: a8 :: a9 :: a10 :: a11 :: a12 :: a13 :: a14 :: a15 :: a16 :: .val d :: l) = .ok d (a0 :: a1 :: a2 :: a3 :: a4 :: a5 :: a6 :: a7 :: a8 :: a9 :: a10 :: a11 :: a12 :: a13 :: a14 :: a15 :: a16 :: .val d :: l) := rfl
theorem vo17 {a0 a1 a2 a3 a4 a5 a6 a7 a8 a9 a10 a11 a12 a13 a14 a15 a16 : Sl} : mVar 17 (a0 :: a1 :: a2 :: a3 :: a4 :: a5 :: a6 :: a7 :: a8 :: a9 :: a10 :: a11 :: a12 :: a13 :: a14 :: a15 :: a16 :: Sl.own false xs :: l) = .ok (.lst xs) (a0 :: a1 :: a2 :: a3 :: a4 :: a5 :: a6 :: a7 :: a8 :: a9 :: a10 :: a11 :: a12 :: a13 :: a14 :: a15 :: a16 :: .val (.lst xs) :: l) := rfl
theorem gt17 {α : Type} {s t : α} {l : List α} {a0 a1 a2 a3 a4 a5 a6 a7 a8 a9 a10 a11 a12 a13 a14 a15 a16 : α} : (a0 :: a1 :: a2 :: a3 :: a4 :: a5 :: a6 :: a7 :: a8 :: a9 :: a10 :: a11 :: a12 :: a13 :: a14 :: a15 :: a16 :: s :: l)[17]? = some s := rfl
theorem st17 {α : Type} {s t : α} {l : List α} {a0 a1 a2 a3 a4 a5 a6 a7 a8 a9 a10 a11 a12 a13 a14 a15 a16 : α} : (a0 :: a1 :: a2 :: a3 :: a4 :: a5 :: a6 :: a7 :: a8 :: a9 :: a10 :: a11 :: a12 :: a13 :: a14 :: a15 :: a16 :: s :: l).set 17 t = a0 :: a1 :: a2 :: a3 :: a4 :: a5 :: a6 :: a7 :: a8 :: a9 :: a10 :: a11 :: a12 :: a13 :: a14 :: a15 :: a16 :: t :: l := rfl
theorem vv18 {a0 a1 a2 a3 a4 a5 a6 a7 a8 a9 a10 a11 a12 a13 a14 a15 a16 a17 : Sl} : mVar 18 (a0 :: a1 :: a2 :: a3 :: a4 :: a5 :: a6 :: a7 :: a8 :: a9 :: a10 :: a11 :: a12 :: a13 :: a14 :: a15 :: a16 :: a17 :: .val d :: l) = .ok d (a0 :: a1 :: a2 :: a3 :: a4 :: a5 :: a6 :: a7 :: a8 :: a9 :: a10 :: a11 :: a12 :: a13 :: a14 :: a15 :: a16 :: a17 :: .val d :: l) := rfl
theorem vo18 {a0 a1 a2 a3 a4 a5 a6 a7 a8 a9 a10 a11 a12 a13 a14 a15 a16 a17 : Sl} : mVar 18 (a0 :: a1 :: a2 :: a3 :: a4 :: a5 :: a6 :: a7 :: a8 :: a9 :: a10 :: a11 :: a12 :: a13 :: a14 :: a15 :: a16 :: a17 :: Sl.own false xs :: l) = .ok (.lst xs) (a0 :: a1 :: a2 :: a3 :: a4 :: a5 :: a6 :: a7 :: a8 :: a9 :: a10 :: a11 :: a12 :: a13 :: a14 :: a15 :: a16 :: a17 :: .val (.lst xs) :: l) := rfl
theorem gt18 {α : Type} {s t : α} {l : List α} {a0 a1 a2 a3 a4 a5 a6 a7 a8 a9 a10 a11 a12 a13 a14 a15 a16 a17 : α} : (a0 :: a1 :: a2 :: a3 :: a4 :: a5 :: a6 :: a7 :: a8 :: a9 :: a10 :: a11 :: a12 :: a13 :: a14 :: a15 :: a16 :: a17 :: s :: l)[18]? = some s := rfl
theorem st18 {α : Type} {s t : α} {l : List α} {a0 a1 a2 a3 a4 a5 a6 a7 a8 a9 a10 a11 a12 a13 a14 a15 a16 a17 : α} : (a0 :: a1 :: a2 :: a3 :: a4 :: a5 :: a6 :: a7 :: a8 :: a9 :: a10 :: a11 :: a12 :: a13 :: a14 :: a15 :: a16 :: a17 :: s :: l).set 18 t = a0 :: a1 :: a2 :: a3 :: a4 :: a5 :: a6 :: a7 :: a8 :: a9 :: a10 :: a11 :: a12 :: a13 :: a14 :: a15 :: a16 :: a17 :: t :: l := rfl
theorem vv19 {a0 a1 a2 a3 a4 a5 a6 a7 a8 a9 a10 a11 a12 a13 a14 a15 a16 a17 a18 : Sl} : mVar 19 (a0 :: a1 :: a2 :: a3 :: a4 :: a5 :: a6 :: a7 :: a8 :: a9 :: a10 :: a11 :: a12 :: a13 :: a14 :: a15 :: a16 :: a17 :: a18 :: .val d :: l) = .ok d (a0 :: a1 :: a2 :: a3 :: a4 :: a5 :: a6 :: a7 :: a8 :: a9 :: a10 :: a11 :: a12 :: a13 :: a14 :: a15 :: a16 :: a17 :: a18 :: .val d :: l) := rfl
theorem vo19 {a0 a1 a2 a3 a4 a5 a6 a7 a8 a9 a10 a11 a12 a13 a14 a15 a16 a17 a18 : Sl} : mVar 19 (a0 :: a1 :: a2 :: a3 :: a4 :: a5 :: a6 :: a7 :: a8 :: a9 :: a10 :: a11 :: a12 :: a13 :: a14 :: a15 :: a16 :: a17 :: a18 :: Sl.own false xs :: l) = .ok (.lst xs) (a0 :: a1 :: a2 :: a3 :: a4 :: a5 :: a6 :: a7 :: a8 :: a9 :: a10 :: a11 :: a12 :: a13 :: a14 :: a15 :: a16 :: a17 :: a18 :: .val (.lst xs) :: l) := rfl
theorem gt19 {α : Type} {s t : α} {l : List α} {a0 a1 a2 a3 a4 a5 a6 a7 a8 a9 a10 a11 a12 a13 a14 a15 a16 a17 a18 : α} : (a0 :: a1 :: a2 :: a3 :: a4 :: a5 :: a6 :: a7 :: a8 :: a9 :: a10 :: a11 :: a12 :: a13 :: a14 :: a15 :: a16 :: a17 :: a18 :: s :: l)[19]? = some s := rfl
theorem st19 {α : Type} {s t : α} {l : List α} {a0 a1 a2 a3 a4 a5 a6 a7 a8 a9 a10 a11 a12 a13 a14 a15 a16 a17 a18 : α} : (a0 :: a1 :: a2 :: a3 :: a4 :: a5 :: a6 :: a7 :: a8 :: a9 :: a10 :: a11 :: a12 :: a13 :: a14 :: a15 :: a16 :: a17 :: a18 :: s :: l).set 19 t = a0 :: a1 :: a2 :: a3 :: a4 :: a5 :: a6 :: a7 :: a8 :: a9 :: a10 :: a11 :: a12 :: a13 :: a14 :: a15 :: a16 :: a17 :: a18 :: t :: l := rfl
theorem vv20 {a0 a1 a2 a3 a4 a5 a6 a7 a8 a9 a10 a11 a12 a13 a14 a15 a16 a17 a18 a19 : Sl} : mVar 20 (a0 :: a1 :: a2 :: a3 :: a4 :: a5 :: a6 :: a7 :: a8 :: a9 :: a10 :: a11 :: a12 :: a13 :: a14 :: a15 :: a16 :: a17 :: a18 :: a19 :: .val d :: l) = .ok d (a0 :: a1 :: a2 :: a3 :: a4 :: a5 :: a6 :: a7 :: a8 :: a9 :: a10 :: a11 :: a12 :: a13 :: a14 :: a15 :: a16 :: a17 :: a18 :: a19 :: .val d :: l) := rfl
theorem vo20 {a0 a1 a2 a3 a4 a5 a6 a7 a8 a9 a10 a11 a12 a13 a14 a15 a16 a17 a18 a19 : Sl} : mVar 20 (a0 :: a1 :: a2 :: a3 :: a4 :: a5 :: a6 :: a7 :: a8 :: a9 :: a10 :: a11 :: a12 :: a13 :: a14 :: a15 :: a16 :: a17 :: a18 :: a19 :: Sl.own false xs :: l) = .ok (.lst xs) (a0 :: a1 :: a2 :: a3 :: a4 :: a5 :: a6 :: a7 :: a8 :: a9 :: a10 :: a11 :: a12 :: a13 :: a14 :: a15 :: a16 :: a17 :: a18 :: a19 :: .val (.lst xs) :: l) := rfl
theorem gt20 {α : Type} {s t : α} {l : List α} {a0 a1 a2 a3 a4 a5 a6 a7 a8 a9 a10 a11 a12 a13 a14 a15 a16 a17 a18 a19 : α} : (a0 :: a1 :: a2 :: a3 :: a4 :: a5 :: a6 :: a7 :: a8 :: a9 :: a10 :: a11 :: a12 :: a13 :: a14 :: a15 :: a16 :: a17 :: a18 :: a19 :: s :: l)[20]? = some s := rfl
theorem st20 {α : Type} {s t : α} {l : List α} {a0 a1 a2 a3 a4 a5 a6 a7 a8 a9 a10 a11 a12 a13 a14 a15 a16 a17 a18 a19 : α} : (a0 :: a1 :: a2 :: a3 :: a4 :: a5 :: a6 :: a7 :: a8 :: a9 :: a10 :: a11 :: a12 :: a13 :: a14 :: a15 :: a16 :: a17 :: a18 :: a19 :: s :: l).set 20 t = a0 :: a1 :: a2 :: a3 :: a4 :: a5 :: a6 :: a7 :: a8 :: a9 :: a10 :: a11 :: a12 :: a13 :: a14 :: a15 :: a16 :: a17 :: a18 :: a19 :: t :: l := rfl
theorem vv21 {a0 a1 a2 a3 a4 a5 a6 a7 a8 a9 a10 a11 a12 a13 a14 a15 a16 a17 a18 a19 a20 : Sl} : mVar 21 (a0 :: a1 :: a2 :: a3 :: a4 :: a5 :: a6 :: a7 :: a8 :: a9 :: a10 :: a11 :: a12 :: a13 :: a14 :: a15 :: a16 :: a17 :: a18 :: a19 :: a20 :: .val d :: l) = .ok d (a0 :: a1 :: a2 :: a3 :: a4 :: a5 :: a6 :: a7 :: a8 :: a9 :: a10 :: a11 :: a12 :: a13 :: a14 :: a15 :: a16 :: a17 :: a18 :: a19 :: a20 :: .val d :: l) := rfl
theorem vo21 {a0 a1 a2 a3 a4 a5 a6 a7 a8 a9 a10 a11 a12 a13 a14 a15 a16 a17 a18 a19 a20 : Sl} : mVar 21 (a0 :: a1 :: a2 :: a3 :: a4 :: a5 :: a6 :: a7 :: a8 :: a9 :: a10 :: a11 :: a12 :: a13 :: a14 :: a15 :: a16 :: a17 :: a18 :: a19 :: a20 :: Sl.own false xs :: l) = .ok (.lst xs) (a0 :: a1 :: a2 :: a3 :: a4 :: a5 :: a6 :: a7 :: a8 :: a9 :: a10 :: a11 :: a12 :: a13 :: a14 :: a15 :: a16 :: a17 :: a18 :: a19 :: a20 :: .val (.lst xs) :: l) := rfl
theorem gt21 {α : Type} {s t : α} {l : List α} {a0 a1 a2 a3 a4 a5 a6 a7 a8 a9 a10 a11 a12 a13 a14 a15 a16 a17 a18 a19 a20 : α} : (a0 :: a1 :: a2 :: a3 :: a4 :: a5 :: a6 :: a7 :: a8 :: a9 :: a10 :: a11 :: a12 :: a13 :: a14 :: a15 :: a16 :: a17 :: a18 :: a19 :: a20 :: s :: l)[21]? = some s := rfl
theorem st21 {α : Type} {s t : α} {l : List α} {a0 a1 a2 a3 a4 a5 a6 a7 a8 a9 a10 a11 a12 a13 a14 a15 a16 a17 a18 a19 a20 : α} : (a0 :: a1 :: a2 :: a3 :: a4 :: a5 :: a6 :: a7 :: a8 :: a9 :: a10 :: a11 :: a12 :: a13 :: a14 :: a15 :: a16 :: a17 :: a18 :: a19 :: a20 :: s :: l).set 21 t = a0 :: a1 :: a2 :: a3 :: a4 :: a5 :: a6 :: a7 :: a8 :: a9 :: a10 :: a11 :: a12 :: a13 :: a14 :: a15 :: a16 :: a17 :: a18 :: a19 :: a20 :: t :: l := rfl
theorem vv22 {a0 a1 a2 a3 a4 a5 a6 a7 a8 a9 a10 a11 a12 a13 a14 a15 a16 a17 a18 a19 a20 a21 : Sl} : mVar 22 (a0 :: a1 :: a2 :: a3 :: a4 :: a5 :: a6 :: a7 :: a8 :: a9 :: a10 :: a11 :: a12 :: a13 :: a14 :: a15 :: a16 :: a17 :: a18 :: a19 :: a20 :: a21 :: .val d :: l) = .ok d (a0 :: a1 :: a2 :: a3 :: a4 :: a5 :: a6 :: a7 :: a8 :: a9 :: a10 :: a11 :: a12 :: a13 :: a14 :: a15 :: a16 :: a17 :: a18 :: a19 :: a20 :: a21 :: .val d :: l) := rfl
theorem vo22 {a0 a1 a2 a3 a4 a5 a6 a7 a8 a9 a10 a11 a12 a13 a14 a15 a16 a17 a18 a19 a20 a21 : Sl} : mVar 22 (a0 :: a1 :: a2 :: a3 :: a4 :: a5 :: a6 :: a7 :: a8 :: a9 :: a10 :: a11 :: a12 :: a13 :: a14 :: a15 :: a16 :: a17 :: a18 :: a19 :: a20 :: a21 :: Sl.own false xs :: l) = .ok (.lst xs) (a0 :: a1 :: a2 :: a3 :: a4 :: a5 :: a6 :: a7 :: a8 :: a9 :: a10 :: a11 :: a12 :: a13 :: a14 :: a15 :: a16 :: a17 :: a18 :: a19 :: a20 :: a21 :: .val (.lst xs) :: l) := rfl
theorem gt22 {α : Type} {s t : α} {l : List α} {a0 a1 a2 a3 a4 a5 a6 a7 a8 a9 a10 a11 a12 a13 a14 a15 a16 a17 a18 a19 a20 a21 : α} : (a0 :: a1 :: a2 :: a3 :: a4 :: a5 :: a6 :: a7 :: a8 :: a9 :: a10 :: a11 :: a12 :: a13 :: a14 :: a15 :: a16 :: a17 :: a18 :: a19 :: a20 :: a21 :: s :: l)[22]? = some s := rfl
theorem st22 {α : Type} {s t : α} {l : List α} {a0 a1 a2 a3 a4 a5 a6 a7 a8 a9 a10 a11 a12 a13 a14 a15 a16 a17 a18 a19 a20 a21 : α} : (a0 :: a1 :: a2 :: a3 :: a4 :: a5 :: a6 :: a7 :: a8 :: a9 :: a10 :: a11 :: a12 :: a13 :: a14 :: a15 :: a16 :: a17 :: a18 :: a19 :: a20 :: a21 :: s :: l).set 22 t = a0 :: a1 :: a2 :: a3 :: a4 :: a5 :: a6 :: a7 :: a8 :: a9 :: a10 :: a11 :: a12 :: a13 :: a14 :: a15 :: a16 :: a17 :: a18 :: a19 :: a20 :: a21 :: t :: l := rfl
theorem vv23 {a0 a1 a2 a3 a4 a5 a6 a7 a8 a9 a10 a11 a12 a13 a14 a15 a16 a17 a18 a19 a20 a21 a22 : Sl} : mVar 23 (a0 :: a1 :: a2 :: a3 :: a4 :: a5 :: a6 :: a7 :: a8 :: a9 :: a10 :: a11 :: a12 :: a13 :: a14 :: a15 :: a16 :: a17 :: a18 :: a19 :: a20 :: a21 :: a22 :: .val d :: l) = .ok d (a0 :: a1 :: a2 :: a3 :: a4 :: a5 :: a6 :: a7 :: a8 :: a9 :: a10 :: a11 :: a12 :: a13 :: a14 :: a15 :: a16 :: a17 :: a18 :: a19 :: a20 :: a21 :: a22 :: .val d :: l) := rfl
theorem vo23 {a0 a1 a2 a3 a4 a5 a6 a7 a8 a9 a10 a11 a12 a13 a14 a15 a16 a17 a18 a19 a20 a21 a22 : Sl} : mVar 23 (a0 :: a1 :: a2 :: a3 :: a4 :: a5 :: a6 :: a7 :: a8 :: a9 :: a10 :: a11 :: a12 :: a13 :: a14 :: a15 :: a16 :: a17 :: a18 :: a19 :: a20 :: a21 :: a22 :: Sl.own false xs :: l) = .ok (.lst xs) (a0 :: a1 :: a2 :: a3 :: a4 :: a5 :: a6 :: a7 :: a8 :: a9 :: a10 :: a11 :: a12 :: a13 :: a14 :: a15 :: a16 :: a17 :: a18 :: a19 :: a20 :: a21 :: a22 :: .val (.lst xs) :: l) := rfl
theorem gt23 {α : Type} {s t : α} {l : List α} {a0 a1 a2 a3 a4 a5 a6 a7 a8 a9 a10 a11 a12 a13 a14 a15 a16 a17 a18 a19 a20 a21 a22 : α} : (a0 :: a1 :: a2 :: a3 :: a4 :: a5 :: a6 :: a7 :: a8 :: a9 :: a10 :: a11 :: a12 :: a13 :: a14 :: a15 :: a16 :: a17 :: a18 :: a19 :: a20 :: a21 :: a22 :: s :: l)[23]? = some s := rfl
theorem st23 {α : Type} {s t : α} {l : List α} {a0 a1 a2 a3 a4 a5 a6 a7 a8 a9 a10 a11 a12 a13 a14 a15 a16 a17 a18 a19 a20 a21 a22 : α} : (a0 :: a1 :: a2 :: a3 :: a4 :: a5 :: a6 :: a7 :: a8 :: a9 :: a10 :: a11 :: a12 :: a13 :: a14 :: a15 :: a16 :: a17 :: a18 :: a19 :: a20 :: a21 :: a22 :: s :: l).set 23 t = a0 :: a1 :: a2 :: a3 :: a4 :: a5 :: a6 :: a7 :: a8 :: a9 :: a10 :: a11 :: a12 :: a13 :: a14 :: a15 :: a16 :: a17 :: a18 :: a19 :: a20 :: a21 :: a22 :: t :: l := rfl
theorem vv24 {a0 a1 a2 a3 a4 a5 a6 a7 a8 a9 a10 a11 a12 a13 a14 a15 a16 a17 a18 a19 a20 a21 a22 a23 : Sl} : mVar 24 (a0 :: a1 :: a2 :: a3 :: a4 :: a5 :: a6 :: a7 :: a8 :: a9 :: a10 :: a11 :: a12 :: a13 :: a14 :: a15 :: a16 :: a17 :: a18 :: a19 :: a20 :: a21 :: a22 :: a23 :: .val d :: l) = .ok d (a0 :: a1 :: a2 :: a3 :: a4 :: a5 :: a6 :: a7 :: a8 :: a9 :: a10 :: a11 :: a12 :: a13 :: a14 :: a15 :: a16 :: a17 :: a18 :: a19 :: a20 :: a21 :: a22 :: a23 :: .val d :: l) := rfl
theorem vo24 {a0 a1 a2 a3 a4 a5 a6 a7 a8 a9 a10 a11 a12 a13 a14 a15 a16 a17 a18 a19 a20 a21 a22 a23 : Sl} : mVar 24 (a0 :: a1 :: a2 :: a3 :: a4 :: a5 :: a6 :: a7 :: a8 :: a9 :: a10 :: a11 :: a12 :: a13 :: a14 :: a15 :: a16 :: a17 :: a18 :: a19 :: a20 :: a21 :: a22 :: a23 :: Sl.own false xs :: l) = .ok (.lst xs) (a0 :: a1 :: a2 :: a3 :: a4 :: a5 :: a6 :: a7 :: a8 :: a9 :: a10 :: a11 :: a12 :: a13 :: a14 :: a15 :: a16 :: a17 :: a18 :: a19 :: a20 :: a21 :: a22 :: a23 :: .val (.lst xs) :: l) := rfl
theorem gt24 {α : Type} {s t : α} {l : List α} {a0 a1 a2 a3 a4 a5 a6 a7 a8 a9 a10 a11 a12 a13 a14 a15 a16 a17 a18 a19 a20 a21 a22 a23 : α} : (a0 :: a1 :: a2 :: a3 :: a4 :: a5 :: a6 :: a7 :: a8 :: a9 :: a10 :: a11 :: a12 :: a13 :: a14 :: a15 :: a16 :: a17 :: a18 :: a19 :: a20 :: a21 :: a22 :: a23 :: s :: l)[24]? = some s := rfl
theorem st24 {α : Type} {s t : α} {l : List α} {a0 a1 a2 a3 a4 a5 a6 a7 a8 a9 a10 a11 a12 a13 a14 a15 a16 a17 a18 a19 a20 a21 a22 a23 : α} : (a0 :: a1 :: a2 :: a3 :: a4 :: a5 :: a6 :: a7 :: a8 :: a9 :: a10 :: a11 :: a12 :: a13 :: a14 :: a15 :: a16 :: a17 :: a18 :: a19 :: a20 :: a21 :: a22 :: a23 :: s :: l).set 24 t = a0 :: a1 :: a2 :: a3 :: a4 :: a5 :: a6 :: a7 :: a8 :: a9 :: a10 :: a11 :: a12 :: a13 :: a14 :: a15 :: a16 :: a17 :: a18 :: a19 :: a20 :: a21 :: a22 :: a23 :: t :: l := rfl
theorem vv25 {a0 a1 a2 a3 a4 a5 a6 a7 a8 a9 a10 a11 a12 a13 a14 a15 a16 a17 a18 a19 a20 a21 a22 a23 a24 : Sl} : mVar 25 (a0 :: a1 :: a2 :: a3 :: a4 :: a5 :: a6 :: a7 :: a8 :: a9 :: a10 :: a11 :: a12 :: a13 :: a14 :: a15 :: a16 :: a17 :: a18 :: a19 :: a20 :: a21 :: a22 :: a23 :: a24 :: .val d :: l) = .ok d (a0 :: a1 :: a2 :: a3 :: a4 :: a5 :: a6 :: a7 :: a8 :: a9 :: a10 :: a11 :: a12 :: a13 :: a14 :: a15 :: a16 :: a17 :: a18 :: a19 :: a20 :: a21 :: a22 :: a23 :: a24 :: .val d :: l) := rfl
theorem vo25 {a0 a1 a2 a3 a4 a5 a6 a7 a8 a9 a10 a11 a12 a13 a14 a15 a16 a17 a18 a19 a20 a21 a22 a23 a24 : Sl} : mVar 25 (a0 :: a1 :: a2 :: a3 :: a4 :: a5 :: a6 :: a7 :: a8 :: a9 :: a10 :: a11 :: a12 :: a13 :: a14 :: a15 :: a16 :: a17 :: a18 :: a19 :: a20 :: a21 :: a22 :: a23 :: a24 :: Sl.own false xs :: l) = .ok (.lst xs) (a0 :: a1 :: a2 :: a3 :: a4 :: a5 :: a6 :: a7 :: a8 :: a9 :: a10 :: a11 :: a12 :: a13 :: a14 :: a15 :: a16 :: a17 :: a18 :: a19 :: a20 :: a21 :: a22 :: a23 :: a24 :: .val (.lst xs) :: l) := rfl
theorem gt25 {α : Type} {s t : α} {l : List α} {a0 a1 a2 a3 a4 a5 a6 a7 a8 a9 a10 a11 a12 a13 a14 a15 a16 a17 a18 a19 a20 a21 a22 a23 a24 : α} : (a0 :: a1 :: a2 :: a3 :: a4 :: a5 :: a6 :: a7 :: a8 :: a9 :: a10 :: a11 :: a12 :: a13 :: a14 :: a15 :: a16 :: a17 :: a18 :: a19 :: a20 :: a21 :: a22 :: a23 :: a24 :: s :: l)[25]? = some s := rfl
theorem st25 {α : Type} {s t : α} {l : List α} {a0 a1 a2 a3 a4 a5 a6 a7 a8 a9 a10 a11 a12 a13 a14 a15 a16 a17 a18 a19 a20 a21 a22 a23 a24 : α} : (a0 :: a1 :: a2 :: a3 :: a4 :: a5 :: a6 :: a7 :: a8 :: a9 :: a10 :: a11 :: a12 :: a13 :: a14 :: a15 :: a16 :: a17 :: a18 :: a19 :: a20 :: a21 :: a22 :: a23 :: a24 :: s :: l).set 25 t = a0 :: a1 :: a2 :: a3 :: a4 :: a5 :: a6 :: a7 :: a8 :: a9 :: a10 :: a11 :: a12 :: a13 :: a14 :: a15 :: a16 :: a17 :: a18 :: a19 :: a20 :: a21 :: a22 :: a23 :: a24 :: t :: l := rfl
theorem vv26 {a0 a1 a2 a3 a4 a5 a6 a7 a8 a9 a10 a11 a12 a13 a14 a15 a16 a17 a18 a19 a20 a21 a22 a23 a24 a25 : Sl} : mVar 26 (a0 :: a1 :: a2 :: a3 :: a4 :: a5 :: a6 :: a7 :: a8 :: a9 :: a10 :: a11 :: a12 :: a13 :: a14 :: a15 :: a16 :: a17 :: a18 :: a19 :: a20 :: a21 :: a22 :: a23 :: a24 :: a25 :: .val d :: l) = .ok d (a0 :: a1 :: a2 :: a3 :: a4 :: a5 :: a6 :: a7 :: a8 :: a9 :: a10 :: a11 :: a12 :: a13 :: a14 :: a15 :: a16 :: a17 :: a18 :: a19 :: a20 :: a21 :: a22 :: a23 :: a24 :: a25 :: .val d :: l) := rfl
theorem vo26 {a0 a1 a2 a3 a4 a5 a6 a7 a8 a9 a10 a11 a12 a13 a14 a15 a16 a17 a18 a19 a20 a21 a22 a23 a24 a25 : Sl} : mVar 26 (a0 :: a1 :: a2 :: a3 :: a4 :: a5 :: a6 :: a7 :: a8 :: a9 :: a10 :: a11 :: a12 :: a13 :: a14 :: a15 :: a16 :: a17 :: a18 :: a19 :: a20 :: a21 :: a22 :: a23 :: a24 :: a25 :: Sl.own false xs :: l) = .ok (.lst xs) (a0 :: a1 :: a2 :: a3 :: a4 :: a5 :: a6 :: a7 :: a8 :: a9 :: a10 :: a11 :: a12 :: a13 :: a14 :: a15 :: a16 :: a17 :: a18 :: a19 :: a20 :: a21 :: a22 :: a23 :: a24 :: a25 :: .val (.lst xs) :: l) := rfl
theorem gt26 {α : Type} {s t : α} {l : List α} {a0 a1 a2 a3 a4 a5 a6 a7 a8 a9 a10 a11 a12 a13 a14 a15 a16 a17 a18 a19 a20 a21 a22 a23 a24 a25 : α} : (a0 :: a1 :: a2 :: a3 :: a4 :: a5 :: a6 :: a7 :: a8 :: a9 :: a10 :: a11 :: a12 :: a13 :: a14 :: a15 :: a16 :: a17 :: a18 :: a19 :: a20 :: a21 :: a22 :: a23 :: a24 :: a25 :: s :: l)[26]? = some s := rfl
theorem st26 {α : Type} {s t : α} {l : List α} {a0 a1 a2 a3 a4 a5 a6 a7 a8 a9 a10 a11 a12 a13 a14 a15 a16 a17 a18 a19 a20 a21 a22 a23 a24 a25 : α} : (a0 :: a1 :: a2 :: a3 :: a4 :: a5 :: a6 :: a7 :: a8 :: a9 :: a10 :: a11 :: a12 :: a13 :: a14 :: a15 :: a16 :: a17 :: a18 :: a19 :: a20 :: a21 :: a22 :: a23 :: a24 :: a25 :: s :: l).set 26 t = a0 :: a1 :: a2 :: a3 :: a4 :: a5 :: a6 :: a7 :: a8 :: a9 :: a10 :: a11 :: a12 :: a13 :: a14 :: a15 :: a16 :: a17 :: a18 :: a19 :: a20 :: a21 :: a22 :: a23 :: a24 :: a25 :: t :: l := rfl
theorem vv27 {a0 a1 a2 a3 a4 a5 a6 a7 a8 a9 a10 a11 a12 a13 a14 a15 a16 a17 a18 a19 a20 a21 a22 a23 a24 a25 a26 : Sl} : mVar 27 (a0 :: a1 :: a2 :: a3 :: a4 :: a5 :: a6 :: a7 :: a8 :: a9 :: a10 :: a11 :: a12 :: a13 :: a14 :: a15 :: a16 :: a17 :: a18 :: a19 :: a20 :: a21 :: a22 :: a23 :: a24 :: a25 :: a26 :: .val d :: l) = .ok d (a0 :: a1 :: a2 :: a3 :: a4 :: a5 :: a6 :: a7 :: a8 :: a9 :: a10 :: a11 :: a12 :: a13 :: a14 :: a15 :: a16 :: a17 :: a18 :: a19 :: a20 :: a21 :: a22 :: a23 :: a24 :: a25 :: a26 :: .val d :: l) := rfl
theorem vo27 {a0 a1 a2 a3 a4 a5 a6 a7 a8 a9 a10 a11 a12 a13 a14 a15 a16 a17 a18 a19 a20 a21 a22 a23 a24 a25 a26 : Sl} : mVar 27 (a0 :: a1 :: a2 :: a3 :: a4 :: a5 :: a6 :: a7 :: a8 :: a9 :: a10 :: a11 :: a12 :: a13 :: a14 :: a15 :: a16 :: a17 :: a18 :: a19 :: a20 :: a21 :: a22 :: a23 :: a24 :: a25 :: a26 :: Sl.own false xs :: l) = .ok (.lst xs) (a0 :: a1 :: a2 :: a3 :: a4 :: a5 :: a6 :: a7 :: a8 :: a9 :: a10 :: a11 :: a12 :: a13 :: a14 :: a15 :: a16 :: a17 :: a18 :: a19 :: a20 :: a21 :: a22 :: a23 :: a24 :: a25 :: a26 :: .val (.lst xs) :: l) := rfl
theorem gt27 {α : Type} {s t : α} {l : List α} {a0 a1 a2 a3 a4 a5 a6 a7 a8 a9 a10 a11 a12 a13 a14 a15 a16 a17 a18 a19 a20 a21 a22 a23 a24 a25 a26 : α} : (a0 :: a1 :: a2 :: a3 :: a4 :: a5 :: a6 :: a7 :: a8 :: a9 :: a10 :: a11 :: a12 :: a13 :: a14 :: a15 :: a16 :: a17 :: a18 :: a19 :: a20 :: a21 :: a22 :: a23 :: a24 :: a25 :: a26 :: s :: l)[27]? = some s := rfl
theorem st27 {α : Type} {s t : α} {l : List α} {a0 a1 a2 a3 a4 a5 a6 a7 a8 a9 a10 a11 a12 a13 a14 a15 a16 a17 a18 a19 a20 a21 a22 a23 a24 a25 a26 : α} : (a0 :: a1 :: a2 :: a3 :: a4 :: a5 :: a6 :: a7 :: a8 :: a9 :: a10 :: a11 :: a12 :: a13 :: a14 :: a15 :: a16 :: a17 :: a18 :: a19 :: a20 :: a21 :: a22 :: a23 :: a24 :: a25 :: a26 :: s :: l).set 27 t = a0 :: a1 :: a2 :: a3 :: a4 :: a5 :: a6 :: a7 :: a8 :: a9 :: a10 :: a11 :: a12 :: a13 :: a14 :: a15 :: a16 :: a17 :: a18 :: a19 :: a20 :: a21 :: a22 :: a23 :: a24 :: a25 :: a26 :: t :: l := rfl
theorem vv28 {a0 a1 a2 a3 a4 a5 a6 a7 a8 a9 a10 a11 a12 a13 a14 a15 a16 a17 a18 a19 a20 a21 a22 a23 a24 a25 a26 a27 : Sl} : mVar 28 (a0 :: a1 :: a2 :: a3 :: a4 :: a5 :: a6 :: a7 :: a8 :: a9 :: a10 :: a11 :: a12 :: a13 :: a14 :: a15 :: a16 :: a17 :: a18 :: a19 :: a20 :: a21 :: a22 :: a23 :: a24 :: a25 :: a26 :: a27 :: .val d :: l) = .ok d (a0 :: a1 :: a2 :: a3 :: a4 :: a5 :: a6 :: a7 :: a8 :: a9 :: a10 :: a11 :: a12 :: a13 :: a14 :: a15 :: a16 :: a17 :: a18 :: a19 :: a20 :: a21 :: a22 :: a23 :: a24 :: a25 :: a26 :: a27 :: .val d :: l) := rfl
theorem vo28 {a0 a1 a2 a3 a4 a5 a6 a7 a8 a9 a10 a11 a12 a13 a14 a15 a16 a17 a18 a19 a20 a21 a22 a23 a24 a25 a26 a27 : Sl} : mVar 28 (a0 :: a1 :: a2 :: a3 :: a4 :: a5 :: a6 :: a7 :: a8 :: a9 :: a10 :: a11 :: a12 :: a13 :: a14 :: a15 :: a16 :: a17 :: a18 :: a19 :: a20 :: a21 :: a22 :: a23 :: a24 :: a25 :: a26 :: a27 :: Sl.own false xs :: l) = .ok (.lst xs) (a0 :: a1 :: a2 :: a3 :: a4 :: a5 :: a6 :: a7 :: a8 :: a9 :: a10 :: a11 :: a12 :: a13 :: a14 :: a15 :: a16 :: a17 :: a18 :: a19 :: a20 :: a21 :: a22 :: a23 :: a24 :: a25 :: a26 :: a27 :: .val (.lst xs) :: l) := rfl
theorem gt28 {α : Type} {s t : α} {l : List α} {a0 a1 a2 a3 a4 a5 a6 a7 a8 a9 a10 a11 a12 a13 a14 a15 a16 a17 a18 a19 a20 a21 a22 a23 a24 a25 a26 a27 : α} : (a0 :: a1 :: a2 :: a3 :: a4 :: a5 :: a6 :: a7 :: a8 :: a9 :: a10 :: a11 :: a12 :: a13 :: a14 :: a15 :: a16 :: a17 :: a18 :: a19 :: a20 :: a21 :: a22 :: a23 :: a24 :: a25 :: a26 :: a27 :: s :: l)[28]? = some s := rfl
theorem st28 {α : Type} {s t : α} {l : List α} {a0 a1 a2 a3 a4 a5 a6 a7 a8 a9 a10 a11 a12 a13 a14 a15 a16 a17 a18 a19 a20 a21 a22 a23 a24 a25 a26 a27 : α} : (a0 :: a1 :: a2 :: a3 :: a4 :: a5 :: a6 :: a7 :: a8 :: a9 :: a10 :: a11 :: a12 :: a13 :: a14 :: a15 :: a16 :: a17 :: a18 :: a19 :: a20 :: a21 :: a22 :: a23 :: a24 :: a25 :: a26 :: a27 :: s :: l).set 28 t = a0 :: a1 :: a2 :: a3 :: a4 :: a5 :: a6 :: a7 :: a8 :: a9 :: a10 :: a11 :: a12 :: a13 :: a14 :: a15 :: a16 :: a17 :: a18 :: a19 :: a20 :: a21 :: a22 :: a23 :: a24 :: a25 :: a26 :: a27 :: t :: l := rfl
theorem vv29 {a0 a1 a2 a3 a4 a5 a6 a7 a8 a9 a10 a11 a12 a13 a14 a15 a16 a17 a18 a19 a20 a21 a22 a23 a24 a25 a26 a27 a28 : Sl} : mVar 29 (a0 :: a1 :: a2 :: a3 :: a4 :: a5 :: a6 :: a7 :: a8 :: a9 :: a10 :: a11 :: a12 :: a13 :: a14 :: a15 :: a16 :: a17 :: a18 :: a19 :: a20 :: a21 :: a22 :: a23 :: a24 :: a25 :: a26 :: a27 :: a28 :: .val d :: l) = .ok d (a0 :: a1 :: a2 :: a3 :: a4 :: a5 :: a6 :: a7 :: a8 :: a9 :: a10 :: a11 :: a12 :: a13 :: a14 :: a15 :: a16 :: a17 :: a18 :: a19 :: a20 :: a21 :: a22 :: a23 :: a24 :: a25 :: a26 :: a27 :: a28 :: .val d :: l) := rfl
theorem vo29 {a0 a1 a2 a3 a4 a5 a6 a7 a8 a9 a10 a11 a12 a13 a14 a15 a16 a17 a18 a19 a20 a21 a22 a23 a24 a25 a26 a27 a28 : Sl} : mVar 29 (a0 :: a1 :: a2 :: a3 :: a4 :: a5 :: a6 :: a7 :: a8 :: a9 :: a10 :: a11 :: a12 :: a13 :: a14 :: a15 :: a16 :: a17 :: a18 :: a19 :: a20 :: a21 :: a22 :: a23 :: a24 :: a25 :: a26 :: a27 :: a28 :: Sl.own false xs :: l) = .ok (.lst xs) (a0 :: a1 :: a2 :: a3 :: a4 :: a5 :: a6 :: a7 :: a8 :: a9 :: a10 :: a11 :: a12 :: a13 :: a14 :: a15 :: a16 :: a17 :: a18 :: a19 :: a20 :: a21 :: a22 :: a23 :: a24 :: a25 :: a26 :: a27 :: a28 :: .val (.lst xs) :: l) := rfl
theorem gt29 {α : Type} {s t : α} {l : List α} {a0 a1 a2 a3 a4 a5 a6 a7 a8 a9 a10 a11 a12 a13 a14 a15 a16 a17 a18 a19 a20 a21 a22 a23 a24 a25 a26 a27 a28 : α} : (a0 :: a1 :: a2 :: a3 :: a4 :: a5 :: a6 :: a7 :: a8 :: a9 :: a10 :: a11 :: a12 :: a13 :: a14 :: a15 :: a16 :: a17 :: a18 :: a19 :: a20 :: a21 :: a22 :: a23 :: a24 :: a25 :: a26 :: a27 :: a28 :: s :: l)[29]? = some s := rfl
theorem st29 {α : Type} {s t : α} {l : List α} {a0 a1 a2 a3 a4 a5 a6 a7 a8 a9 a10 a11 a12 a13 a14 a15 a16 a17 a18 a19 a20 a21 a22 a23 a24 a25 a26 a27 a28 : α} : (a0 :: a1 :: a2 :: a3 :: a4 :: a5 :: a6 :: a7 :: a8 :: a9 :: a10 :: a11 :: a12 :: a13 :: a14 :: a15 :: a16 :: a17 :: a18 :: a19 :: a20 :: a21 :: a22 :: a23 :: a24 :: a25 :: a26 :: a27 :: a28 :: s :: l).set 29 t = a0 :: a1 :: a2 :: a3 :: a4 :: a5 :: a6 :: a7 :: a8 :: a9 :: a10 :: a11 :: a12 :: a13 :: a14 :: a15 :: a16 :: a17 :: a18 :: a19 :: a20 :: a21 :: a22 :: a23 :: a24 :: a25 :: a26 :: a27 :: a28 :: t :: l := rfl
theorem vv30 {a0 a1 a2 a3 a4 a5 a6 a7 a8 a9 a10 a11 a12 a13 a14 a15 a16 a17 a18 a19 a20 a21 a22 a23 a24 a25 a26 a27 a28 a29 : Sl} : mVar 30 (a0 :: a1 :: a2 :: a3 :: a4 :: a5 :: a6 :: a7 :: a8 :: a9 :: a10 :: a11 :: a12 :: a13 :: a14 :: a15 :: a16 :: a17 :: a18 :: a19 :: a20 :: a21 :: a22 :: a23 :: a24 :: a25 :: a26 :: a27 :: a28 :: a29 :: .val d :: l) = .ok d (a0 :: a1 :: a2 :: a3 :: a4 :: a5 :: a6 :: a7 :: a8 :: a9 :: a10 :: a11 :: a12 :: a13 :: a14 :: a15 :: a16 :: a17 :: a18 :: a19 :: a20 :: a21 :: a22 :: a23 :: a24 :: a25 :: a26 :: a27 :: a28 :: a29 :: .val d :: l) := rfl
theorem vo30 {a0 a1 a2 a3 a4 a5 a6 a7 a8 a9 a10 a11 a12 a13 a14 a15 a16 a17 a18 a19 a20 a21 a22 a23 a24 a25 a26 a27 a28 a29 : Sl} : mVar 30 (a0 :: a1 :: a2 :: a3 :: a4 :: a5 :: a6 :: a7 :: a8 :: a9 :: a10 :: a11 :: a12 :: a13 :: a14 :: a15 :: a16 :: a17 :: a18 :: a19 :: a20 :: a21 :: a22 :: a23 :: a24 :: a25 :: a26 :: a27 :: a28 :: a29 :: Sl.own false xs :: l) = .ok (.lst xs) (a0 :: a1 :: a2 :: a3 :: a4 :: a5 :: a6 :: a7 :: a8 :: a9 :: a10 :: a11 :: a12 :: a13 :: a14 :: a15 :: a16 :: a17 :: a18 :: a19 :: a20 :: a21 :: a22 :: a23 :: a24 :: a25 :: a26 :: a27 :: a28 :: a29 :: .val (.lst xs) :: l) := rfl
theorem gt30 {α : Type} {s t : α} {l : List α} {a0 a1 a2 a3 a4 a5 a6 a7 a8 a9 a10 a11 a12 a13 a14 a15 a16 a17 a18 a19 a20 a21 a22 a23 a24 a25 a26 a27 a28 a29 : α} : (a0 :: a1 :: a2 :: a3 :: a4 :: a5 :: a6 :: a7 :: a8 :: a9 :: a10 :: a11 :: a12 :: a13 :: a14 :: a15 :: a16 :: a17 :: a18 :: a19 :: a20 :: a21 :: a22 :: a23 :: a24 :: a25 :: a26 :: a27 :: a28 :: a29 :: s :: l)[30]? = some s := rfl
theorem st30 {α : Type} {s t : α} {l : List α} {a0 a1 a2 a3 a4 a5 a6 a7 a8 a9 a10 a11 a12 a13 a14 a15 a16 a17 a18 a19 a20 a21 a22 a23 a24 a25 a26 a27 a28 a29 : α} : (a0 :: a1 :: a2 :: a3 :: a4 :: a5 :: a6 :: a7 :: a8 :: a9 :: a10 :: a11 :: a12 :: a13 :: a14 :: a15 :: a16 :: a17 :: a18 :: a19 :: a20 :: a21 :: a22 :: a23 :: a24 :: a25 :: a26 :: a27 :: a28 :: a29 :: s :: l).set 30 t = a0 :: a1 :: a2 :: a3 :: a4 :: a5 :: a6 :: a7 :: a8 :: a9 :: a10 :: a11 :: a12 :: a13 :: a14 :: a15 :: a16 :: a17 :: a18 :: a19 :: a20 :: a21 :: a22 :: a23 :: a24 :: a25 :: a26 :: a27 :: a28 :: a29 :: t :: l := rfl
theorem vv31 {a0 a1 a2 a3 a4 a5 a6 a7 a8 a9 a10 a11 a12 a13 a14 a15 a16 a17 a18 a19 a20 a21 a22 a23 a24 a25 a26 a27 a28 a29 a30 : Sl} : mVar 31 (a0 :: a1 :: a2 :: a3 :: a4 :: a5 :: a6 :: a7 :: a8 :: a9 :: a10 :: a11 :: a12 :: a13 :: a14 :: a15 :: a16 :: a17 :: a18 :: a19 :: a20 :: a21 :: a22 :: a23 :: a24 :: a25 :: a26 :: a27 :: a28 :: a29 :: a30 :: .val d :: l) = .ok d (a0 :: a1 :: a2 :: a3 :: a4 :: a5 :: a6 :: a7 :: a8 :: a9 :: a10 :: a11 :: a12 :: a13 :: a14 :: a15 :: a16 :: a17 :: a18 :: a19 :: a20 :: a21 :: a22 :: a23 :: a24 :: a25 :: a26 :: a27 :: a28 :: a29 :: a30 :: .val d :: l) := rfl
theorem vo31 {a0 a1 a2 a3 a4 a5 a6 a7 a8 a9 a10 a11 a12 a13 a14 a15 a16 a17 a18 a19 a20 a21 a22 a23 a24 a25 a26 a27 a28 a29 a30 : Sl} : mVar 31 (a0 :: a1 :: a2 :: a3 :: a4 :: a5 :: a6 :: a7 :: a8 :: a9 :: a10 :: a11 :: a12 :: a13 :: a14 :: a15 :: a16 :: a17 :: a18 :: a19 :: a20 :: a21 :: a22 :: a23 :: a24 :: a25 :: a26 :: a27 :: a28 :: a29 :: a30 :: Sl.own false xs :: l) = .ok (.lst xs) (a0 :: a1 :: a2 :: a3 :: a4 :: a5 :: a6 :: a7 :: a8 :: a9 :: a10 :: a11 :: a12 :: a13 :: a14 :: a15 :: a16 :: a17 :: a18 :: a19 :: a20 :: a21 :: a22 :: a23 :: a24 :: a25 :: a26 :: a27 :: a28 :: a29 :: a30 :: .val (.lst xs) :: l) := rfl
theorem gt31 {α : Type} {s t : α} {l : List α} {a0 a1 a2 a3 a4 a5 a6 a7 a8 a9 a10 a11 a12 a13 a14 a15 a16 a17 a18 a19 a20 a21 a22 a23 a24 a25 a26 a27 a28 a29 a30 : α} : (a0 :: a1 :: a2 :: a3 :: a4 :: a5 :: a6 :: a7 :: a8 :: a9 :: a10 :: a11 :: a12 :: a13 :: a14 :: a15 :: a16 :: a17 :: a18 :: a19 :: a20 :: a21 :: a22 :: a23 :: a24 :: a25 :: a26 :: a27 :: a28 :: a29 :: a30 :: s :: l)[31]? = some s := rfl
theorem st31 {α : Type} {s t : α} {l : List α} {a0 a1 a2 a3 a4 a5 a6 a7 a8 a9 a10 a11 a12 a13 a14 a15 a16 a17 a18 a19 a20 a21 a22 a23 a24 a25 a26 a27 a28 a29 a30 : α} : (a0 :: a1 :: a2 :: a3 :: a4 :: a5 :: a6 :: a7 :: a8 :: a9 :: a10 :: a11 :: a12 :: a13 :: a14 :: a15 :: a16 :: a17 :: a18 :: a19 :: a20 :: a21 :: a22 :: a23 :: a24 :: a25 :: a26 :: a27 :: a28 :: a29 :: a30 :: s :: l).set 31 t = a0 :: a1 :: a2 :: a3 :: a4 :: a5 :: a6 :: a7 :: a8 :: a9 :: a10 :: a11 :: a12 :: a13 :: a14 :: a15 :: a16 :: a17 :: a18 :: a19 :: a20 :: a21 :: a22 :: a23 :: a24 :: a25 :: a26 :: a27 :: a28 :: a29 :: a30 :: t :: l := rfl
theorem vv32 {a0 a1 a2 a3 a4 a5 a6 a7 a8 a9 a10 a11 a12 a13 a14 a15 a16 a17 a18 a19 a20 a21 a22 a23 a24 a25 a26 a27 a28 a29 a30 a31 : Sl} : mVar 32 (a0 :: a1 :: a2 :: a3 :: a4 :: a5 :: a6 :: a7 :: a8 :: a9 :: a10 :: a11 :: a12 :: a13 :: a14 :: a15 :: a16 :: a17 :: a18 :: a19 :: a20 :: a21 :: a22 :: a23 :: a24 :: a25 :: a26 :: a27 :: a28 :: a29 :: a30 :: a31 :: .val d :: l) = .ok d (a0 :: a1 :: a2 :: a3 :: a4 :: a5 :: a6 :: a7 :: a8 :: a9 :: a10 :: a11 :: a12 :: a13 :: a14 :: a15 :: a16 :: a17 :: a18 :: a19 :: a20 :: a21 :: a22 :: a23 :: a24 :: a25 :: a26 :: a27 :: a28 :: a29 :: a30 :: a31 :: .val d :: l) := rfl
theorem vo32 {a0 a1 a2 a3 a4 a5 a6 a7 a8 a9 a10 a11 a12 a13 a14 a15 a16 a17 a18 a19 a20 a21 a22 a23 a24 a25 a26 a27 a28 a29 a30 a31 : Sl} : mVar 32 (a0 :: a1 :: a2 :: a3 :: a4 :: a5 :: a6 :: a7 :: a8 :: a9 :: a10 :: a11 :: a12 :: a13 :: a14 :: a15 :: a16 :: a17 :: a18 :: a19 :: a20 :: a21 :: a22 :: a23 :: a24 :: a25 :: a26 :: a27 :: a28 :: a29 :: a30 :: a31 :: Sl.own false xs :: l) = .ok (.lst xs) (a0 :: a1 :: a2 :: a3 :: a4 :: a5 :: a6 :: a7 :: a8 :: a9 :: a10 :: a11 :: a12 :: a13 :: a14 :: a15 :: a16 :: a17 :: a18 :: a19 :: a20 :: a21 :: a22 :: a23 :: a24 :: a25 :: a26 :: a27 :: a28 :: a29 :: a30 :: a31 :: .val (.lst xs) :: l) := rfl
theorem gt32 {α : Type} {s t : α} {l : List α} {a0 a1 a2 a3 a4 a5 a6 a7 a8 a9 a10 a11 a12 a13 a14 a15 a16 a17 a18 a19 a20 a21 a22 a23 a24 a25 a26 a27 a28 a29 a30 a31 : α} : (a0 :: a1 :: a2 :: a3 :: a4 :: a5 :: a6 :: a7 :: a8 :: a9 :: a10 :: a11 :: a12 :: a13 :: a14 :: a15 :: a16 :: a17 :: a18 :: a19 :: a20 :: a21 :: a22 :: a23 :: a24 :: a25 :: a26 :: a27 :: a28 :: a29 :: a30 :: a31 :: s :: l)[32]? = some s := rfl
theorem st32 {α : Type} {s t : α} {l : List α} {a0 a1 a2 a3 a4 a5 a6 a7 a8 a9 a10 a11 a12 a13 a14 a15 a16 a17 a18 a19 a20 a21 a22 a23 a24 a25 a26 a27 a28 a29 a30 a31 : α} : (a0 :: a1 :: a2 :: a3 :: a4 :: a5 :: a6 :: a7 :: a8 :: a9 :: a10 :: a11 :: a12 :: a13 :: a14 :: a15 :: a16 :: a17 :: a18 :: a19 :: a20 :: a21 :: a22 :: a23 :: a24 :: a25 :: a26 :: a27 :: a28 :: a29 :: a30 :: a31 :: s :: l).set 32 t = a0 :: a1 :: a2 :: a3 :: a4 :: a5 :: a6 :: a7 :: a8 :: a9 :: a10 :: a11 :: a12 :: a13 :: a14 :: a15 :: a16 :: a17 :: a18 :: a19 :: a20 :: a21 :: a22 :: a23 :: a24 :: a25 :: a26 :: a27 :: a28 :: a29 :: a30 :: a31 :: t :: l := rfl
theorem vv33 {a0 a1 a2 a3 a4 a5 a6 a7 a8 a9 a10 a11 a12 a13 a14 a15 a16 a17 a18 a19 a20 a21 a22 a23 a24 a25 a26 a27 a28 a29 a30 a31 a32 : Sl} : mVar 33 (a0 :: a1 :: a2 :: a3 :: a4 :: a5 :: a6 :: a7 :: a8 :: a9 :: a10 :: a11 :: a12 :: a13 :: a14 :: a15 :: a16 :: a17 :: a18 :: a19 :: a20 :: a21 :: a22 :: a23 :: a24 :: a25 :: a26 :: a27 :: a28 :: a29 :: a30 :: a31 :: a32 :: .val d :: l) = .ok d (a0 :: a1 :: a2 :: a3 :: a4 :: a5 :: a6 :: a7 :: a8 :: a9 :: a10 :: a11 :: a12 :: a13 :: a14 :: a15 :: a16 :: a17 :: a18 :: a19 :: a20 :: a21 :: a22 :: a23 :: a24 :: a25 :: a26 :: a27 :: a28 :: a29 :: a30 :: a31 :: a32 :: .val d :: l) := rfl
theorem vo33 {a0 a1 a2 a3 a4 a5 a6 a7 a8 a9 a10 a11 a12 a13 a14 a15 a16 a17 a18 a19 a20 a21 a22 a23 a24 a25 a26 a27 a28 a29 a30 a31 a32 : Sl} : mVar 33 (a0 :: a1 :: a2 :: a3 :: a4 :: a5 :: a6 :: a7 :: a8 :: a9 :: a10 :: a11 :: a12 :: a13 :: a14 :: a15 :: a16 :: a17 :: a18 :: a19 :: a20 :: a21 :: a22 :: a23 :: a24 :: a25 :: a26 :: a27 :: a28 :: a29 :: a30 :: a31 :: a32 :: Sl.own false xs :: l) = .ok (.lst xs) (a0 :: a1 :: a2 :: a3 :: a4 :: a5 :: a6 :: a7 :: a8 :: a9 :: a10 :: a11 :: a12 :: a13 :: a14 :: a15 :: a16 :: a17 :: a18 :: a19 :: a20 :: a21 :: a22 :: a23 :: a24 :: a25 :: a26 :: a27 :: a28 :: a29 :: a30 :: a31 :: a32 :: .val (.lst xs) :: l) := rfl
theorem gt33 {α : Type} {s t : α} {l : List α} {a0 a1 a2 a3 a4 a5 a6 a7 a8 a9 a10 a11 a12 a13 a14 a15 a16 a17 a18 a19 a20 a21 a22 a23 a24 a25 a26 a27 a28 a29 a30 a31 a32 : α} : (a0 :: a1 :: a2 :: a3 :: a4 :: a5 :: a6 :: a7 :: a8 :: a9 :: a10 :: a11 :: a12 :: a13 :: a14 :: a15 :: a16 :: a17 :: a18 :: a19 :: a20 :: a21 :: a22 :: a23 :: a24 :: a25 :: a26 :: a27 :: a28 :: a29 :: a30 :: a31 :: a32 :: s :: l)[33]? = some s := rfl
theorem st33 {α : Type} {s t : α} {l : List α} {a0 a1 a2 a3 a4 a5 a6 a7 a8 a9 a10 a11 a12 a13 a14 a15 a16 a17 a18 a19 a20 a21 a22 a23 a24 a25 a26 a27 a28 a29 a30 a31 a32 : α} : (a0 :: a1 :: a2 :: a3 :: a4 :: a5 :: a6 :: a7 :: a8 :: a9 :: a10 :: a11 :: a12 :: a13 :: a14 :: a15 :: a16 :: a17 :: a18 :: a19 :: a20 :: a21 :: a22 :: a23 :: a24 :: a25 :: a26 :: a27 :: a28 :: a29 :: a30 :: a31 :: a32 :: s :: l).set 33 t = a0 :: a1 :: a2 :: a3 :: a4 :: a5 :: a6 :: a7 :: a8 :: a9 :: a10 :: a11 :: a12 :: a13 :: a14 :: a15 :: a16 :: a17 :: a18 :: a19 :: a20 :: a21 :: a22 :: a23 :: a24 :: a25 :: a26 :: a27 :: a28 :: a29 :: a30 :: a31 :: a32 :: t :: l := rfl
end
section
variable {α β : Type} {σ s t : DSt} {i j k : Int} {n m : Nat} {x y d : D} {xs ys : List D} {A B : List Int}
theorem zFg {js : List Nat} {m : MS} {σ : DSt} : mFgt js m σ = (m σ).fgt js := rfl
theorem zFr {k : Nat} {m : MS} {σ : DSt} : mFgR k m σ = (m σ).wr k := rfl
theorem fg_nx {js : List Nat} {σ : DSt} : (SO.nx σ).fgt js = .nx (fgt js σ) := rfl
theorem fg_ct {js : List Nat} {σ : DSt} : (SO.cont σ).fgt js = .cont (fgt js σ) := rfl
theorem fg_bk {js : List Nat} {σ : DSt} : (SO.brk σ).fgt js = .brk (fgt js σ) := rfl
theorem fg_rt {js : List Nat} {r : Rt} {σ : DSt} : (SO.ret r σ).fgt js = .ret r σ := rfl
theorem fg_er {js : List Nat} {c : Str} {fs : List (Str × D)} {σ : DSt} : (SO.err c fs σ).fgt js = .err c fs σ := rfl
theorem fg_0 {σ : DSt} : fgt [] σ = σ := rfl
theorem fg_c {j : Nat} {js : List Nat} {σ : DSt} : fgt (j :: js) σ = fgt js (σ.set j .no) := rfl
theorem wr_nx {k : Nat} {σ : DSt} : (SO.nx σ).wr k = .nx σ := rfl
theorem wr_ct {k : Nat} {σ : DSt} : (SO.cont σ).wr k = .cont σ := rfl
theorem wr_bk {k : Nat} {σ : DSt} : (SO.brk σ).wr k = .brk σ := rfl
theorem wr_rt {k : Nat} {r : Rt} {σ : DSt} : (SO.ret r σ).wr k = .ret r (wr k σ) := rfl
theorem wr_er {k : Nat} {c : Str} {fs : List (Str × D)} {σ : DSt} : (SO.err c fs σ).wr k = .err c fs (wr k σ) := rfl
theorem wr_0n : wr 0 ([] : DSt) = [] := rfl
theorem wr_0c {a : Sl} {σ : DSt} : wr 0 (a :: σ) = .no :: wr 0 σ := rfl
theorem wr_1c {a : Sl} {σ : DSt} : wr 1 (a :: σ) = a :: wr 0 σ := rfl
/-! slots -/
theorem z_io {i : Nat} : isOwn i σ = match σ[i]? with | some (Sl.own _ _) => true | _ => false := rfl
theorem z_ox {i : Nat} : ownXs i σ = match σ[i]? with | some (Sl.own _ xs) => xs | _ => [] := rfl
theorem z_ixAt {i : Nat} : ixAt i (.int k) σ = match σ[i]? with | some (Sl.own _ xs) => R.opt (atI xs k) σ | _ => .bad := rfl
theorem z_put {i : Nat} : DL.putAt i d (.int k) σ = match σ[i]? with | some (Sl.own b xs) => (match ixN xs.length k with | some j => .nx (σ.set i (Sl.own b (xs.set j d))) | none => .bad) | _ => .bad := rfl
theorem z_atBv {i : Nat} {v : D} {ys : List D} : R0.atB i (.ok (.v v, ys)) σ = match σ[i]? with | some (Sl.own b _) => .ok v (σ.set i (Sl.own b ys)) | _ => .bad := by
  unfold R0.atB
  cases σ[i]? with
  | none => rfl
  | some s => cases s <;> rfl
theorem z_atBl {i : Nat} {zs ys : List D} : R0.atB i (.ok (.l zs, ys)) σ = match σ[i]? with | some (Sl.own b _) => .ok (.lst zs) (σ.set i (Sl.own b ys)) | _ => .bad := by
  unfold R0.atB
  cases σ[i]? with
  | none => rfl
  | some s => cases s <;> rfl
theorem z_ixN (h : 0 ≤ i) (h2 : i < n) : ixN n i = some i.toNat := by
  unfold ixN
  rw [if_pos h, if_pos h2]
theorem z_ixM (h : 0 < i) (h2 : i ≤ n) : ixN n (-i) = some (n - i.toNat) := by
  unfold ixN
  rw [if_neg (by omega), if_pos (by omega)]
  congr 1
  omega
theorem z_nat (n : Nat) : ((n : Int)).toNat = n := Int.toNat_natCast n
/-! sizes -/
theorem le_size (h : n ≤ 1000000) : (n ≤ sizeLine) = True := by
  have : (1000000 : Nat) ≤ sizeLine := by decide
  exact eq_true (by omega)
theorem lt_size (h : n < 1000000) : (n < sizeLine) = True := by
  have : (1000000 : Nat) ≤ sizeLine := by decide
  exact eq_true (by omega)
theorem okR_i (h1 : -1000000 ≤ i) (h2 : i ≤ 1000000) (h3 : -1000000 ≤ j) (h4 : j ≤ 1000000) : okR i j = True := by
  unfold okR
  exact eq_true ⟨by omega, by omega, by omega, by omega⟩
theorem rgOk_i (h1 : -1000000 ≤ i) (h2 : i ≤ 1000000) (h3 : -1000000 ≤ j) (h4 : j ≤ 1000000) : rgOk i j = True := by
  unfold rgOk
  exact eq_true ⟨by omega, by omega, by omega, by omega, by omega⟩
theorem z_rng1 : rng1? [.int i] = if okR 0 i then some (rngs 0 i) else none := rfl
theorem z_rng2 : rng2? [.int i, .int j] = if okR i j then some (rngs i j) else none := rfl
/-! lists -/
theorem z_len0 : ([] : List α).length = 0 := rfl
theorem z_lenc {x : α} {xs : List α} : (x :: xs).length = xs.length + 1 := rfl
theorem z_lenm {f : α → D} {l : List α} : (l.map f).length = l.length := List.length_map _
theorem z_lena {l r : List α} : (l ++ r).length = l.length + r.length := List.length_append
theorem z_app0 : ([] : List D) ++ xs = xs := rfl
theorem z_app1 : (x :: ys) ++ xs = x :: (ys ++ xs) := rfl
theorem z_app2 : xs ++ ([] : List D) = xs := List.append_nil _
theorem z_appm {f : α → D} {l r : List α} : l.map f ++ r.map f = (l ++ r).map f := List.map_append.symm
theorem z_revm {f : α → D} {l : List α} : (l.map f).reverse = l.reverse.map f := List.map_reverse.symm
theorem z_takem {f : α → D} {l : List α} : (l.map f).take n = (l.take n).map f := List.map_take.symm
theorem z_dropm {f : α → D} {l : List α} : (l.map f).drop n = (l.drop n).map f := List.map_drop.symm
theorem z_emp0 : ([] : List D).isEmpty = true := rfl
theorem z_empc : (x :: xs).isEmpty = false := rfl
theorem z_empm {f : α → D} {l : List α} : (l.map f).isEmpty = l.isEmpty := by cases l <;> rfl
/-! built-ins -/
theorem z_lenT : lenD [.tup xs] = some (.int xs.length) := rfl
theorem z_lenL : lenD [.lst xs] = some (.int xs.length) := rfl
theorem z_absI : absD [.int i] = some (.int (if i < 0 then -i else i)) := rfl
theorem z_intI : intD [.int i] = some (.int i) := rfl
theorem z_intB {b : Bool} : intD [.bl b] = some (.int (if b then 1 else 0)) := rfl
theorem z_minI : minD [.int i, .int j] = some (.int (if j < i then j else i)) := rfl
theorem z_maxI : DL.maxD [.int i, .int j] = some (.int (if j > i then j else i)) := rfl
theorem z_tupL : tupD [.lst xs] = some (.tup xs) := rfl
theorem z_tupT : tupD [.tup xs] = some (.tup xs) := rfl
theorem z_lstL : lstD [.lst xs] = some xs := rfl
theorem z_lstT : lstD [.tup xs] = some xs := rfl
theorem z_allL : allD [.lst xs] = (bools? xs).map fun bs => .bl (bs.all id) := rfl
theorem z_anyL : anyD [.lst xs] = (bools? xs).map fun bs => .bl (bs.any id) := rfl
theorem bools_of {p : α → Bool} : ∀ l : List α, bools? (l.map fun a => D.bl (p a)) = some (l.map p)
  | [] => rfl
  | a :: l => by
    show (bools? (l.map fun a => D.bl (p a))).map (p a :: ·) = _
    rw [bools_of l]
    rfl
theorem z_mapS {f : α → β} {a : α} : (some a).map f = some (f a) := rfl
theorem z_mapN {f : α → β} : (none : Option α).map f = none := rfl
theorem z_bindS {f : α → Option β} {a : α} : (some a).bind f = f a := rfl
theorem z_bindN {f : α → Option β} : (none : Option α).bind f = none := rfl
theorem z_truN : truD .non = some false := rfl
theorem z_truB {b : Bool} : truD (.bl b) = some b := rfl
theorem z_truI : truD (.int i) = some (i != 0) := rfl
theorem z_truL : truD (.lst xs) = some (!xs.isEmpty) := rfl
theorem z_truT : truD (.tup xs) = some (!xs.isEmpty) := rfl
theorem z_ixL : ixD (.lst xs) (.int i) = atI xs i := rfl
theorem z_ixT : ixD (.tup xs) (.int i) = atI xs i := rfl

theorem z_at0 : atI (x :: xs) 0 = some x := by
  unfold atI ixN
  simp [sizeLine]
theorem z_at1 {x0 : D} : atI (x0 :: x :: xs) 1 = some x := by
  unfold atI ixN
  simp [sizeLine]
  rw [if_pos (by omega)]
  rfl
theorem z_at2 {x0 x1 : D} : atI (x0 :: x1 :: x :: xs) 2 = some x := by
  unfold atI ixN
  simp [sizeLine]
  rw [if_pos (by omega)]
  rfl
theorem z_at3 {x0 x1 x2 : D} : atI (x0 :: x1 :: x2 :: x :: xs) 3 = some x := by
  unfold atI ixN
  simp [sizeLine]
  rw [if_pos (by omega)]
  rfl
theorem z_at4 {x0 x1 x2 x3 : D} : atI (x0 :: x1 :: x2 :: x3 :: x :: xs) 4 = some x := by
  unfold atI ixN
  simp [sizeLine]
  rw [if_pos (by omega)]
  rfl
theorem z_at5 {x0 x1 x2 x3 x4 : D} : atI (x0 :: x1 :: x2 :: x3 :: x4 :: x :: xs) 5 = some x := by
  unfold atI ixN
  simp [sizeLine]
  rw [if_pos (by omega)]
  rfl
theorem z_at6 {x0 x1 x2 x3 x4 x5 : D} : atI (x0 :: x1 :: x2 :: x3 :: x4 :: x5 :: x :: xs) 6 = some x := by
  unfold atI ixN
  simp [sizeLine]
  rw [if_pos (by omega)]
  rfl
theorem z_at7 {x0 x1 x2 x3 x4 x5 x6 : D} : atI (x0 :: x1 :: x2 :: x3 :: x4 :: x5 :: x6 :: x :: xs) 7 = some x := by
  unfold atI ixN
  simp [sizeLine]
  rw [if_pos (by omega)]
  rfl
theorem z_at8 {x0 x1 x2 x3 x4 x5 x6 x7 : D} : atI (x0 :: x1 :: x2 :: x3 :: x4 :: x5 :: x6 :: x7 :: x :: xs) 8 = some x := by
  unfold atI ixN
  simp [sizeLine]
  rw [if_pos (by omega)]
  rfl
theorem z_at9 {x0 x1 x2 x3 x4 x5 x6 x7 x8 : D} : atI (x0 :: x1 :: x2 :: x3 :: x4 :: x5 :: x6 :: x7 :: x8 :: x :: xs) 9 = some x := by
  unfold atI ixN
  simp [sizeLine]
  rw [if_pos (by omega)]
  rfl
theorem z_atm : atI (xs ++ [x]) (-1) = some x := atI_last _ _
theorem z_in {x : D} : inD x (.lst xs) = if eqOk x && eqOk (.lst xs) then some (.bl (inL x xs)) else none := rfl
theorem z_notIn {x : D} : notInD x (.lst xs) = if eqOk x && eqOk (.lst xs) then some (.bl (!inL x xs)) else none := rfl
theorem z_isi {T : String} : isiD T d = (tyD d).map fun t => .bl (subT t T) := rfl
theorem z_isi2 {T U : String} : isiD2 T U d = (tyD d).map fun t => .bl (subT t T || subT t U) := rfl
theorem z_tyN : tyD .non = some "NoneType" := rfl
theorem z_tyB {b : Bool} : tyD (.bl b) = some "bool" := rfl
theorem z_tyI : tyD (.int i) = some "int" := rfl
theorem z_tyS {x : Str} : tyD (.str x) = some "str" := rfl
theorem z_tyL : tyD (.lst xs) = some "list" := rfl
theorem z_tyT : tyD (.tup xs) = some "tuple" := rfl
theorem z_sub_NoneType_bool : subT "NoneType" "bool" = false := by decide
theorem z_sub_NoneType_int : subT "NoneType" "int" = false := by decide
theorem z_sub_NoneType_str : subT "NoneType" "str" = false := by decide
theorem z_sub_NoneType_list : subT "NoneType" "list" = false := by decide
theorem z_sub_NoneType_tuple : subT "NoneType" "tuple" = false := by decide
theorem z_sub_bool_bool : subT "bool" "bool" = true := by decide
theorem z_sub_bool_int : subT "bool" "int" = true := by decide
theorem z_sub_bool_str : subT "bool" "str" = false := by decide
theorem z_sub_bool_list : subT "bool" "list" = false := by decide
theorem z_sub_bool_tuple : subT "bool" "tuple" = false := by decide
theorem z_sub_int_bool : subT "int" "bool" = false := by decide
theorem z_sub_int_int : subT "int" "int" = true := by decide
theorem z_sub_int_str : subT "int" "str" = false := by decide
theorem z_sub_int_list : subT "int" "list" = false := by decide
theorem z_sub_int_tuple : subT "int" "tuple" = false := by decide
theorem z_sub_str_bool : subT "str" "bool" = false := by decide
theorem z_sub_str_int : subT "str" "int" = false := by decide
theorem z_sub_str_str : subT "str" "str" = true := by decide
theorem z_sub_str_list : subT "str" "list" = false := by decide
theorem z_sub_str_tuple : subT "str" "tuple" = false := by decide
theorem z_sub_list_bool : subT "list" "bool" = false := by decide
theorem z_sub_list_int : subT "list" "int" = false := by decide
theorem z_sub_list_str : subT "list" "str" = false := by decide
theorem z_sub_list_list : subT "list" "list" = true := by decide
theorem z_sub_list_tuple : subT "list" "tuple" = false := by decide
theorem z_sub_tuple_bool : subT "tuple" "bool" = false := by decide
theorem z_sub_tuple_int : subT "tuple" "int" = false := by decide
theorem z_sub_tuple_str : subT "tuple" "str" = false := by decide
theorem z_sub_tuple_list : subT "tuple" "list" = false := by decide
theorem z_sub_tuple_tuple : subT "tuple" "tuple" = true := by decide
theorem z_addT {xs ys : List D} : addD (.tup xs) (.tup ys) = if xs.length + ys.length ≤ sizeLine then some (.tup (xs ++ ys)) else none := rfl
theorem z_mulR (h1 : -(2 ^ 64) < j) (h2 : j < 2 ^ 64) : mulD (.int i) (.int j) = some (.int (i * j)) := mulR ⟨h1, h2⟩
theorem z_mulL (h1 : -(2 ^ 64) < i) (h2 : i < 2 ^ 64) : mulD (.int i) (.int j) = some (.int (i * j)) := mulL ⟨h1, h2⟩
theorem z_modI (h : 0 < j) : modD (.int i) (.int j) = some (.int (i % j)) := modI h
theorem z_divI (h : 0 < j) (h2 : j < 1073741824) : divD (.int i) (.int j) = some (.int (i / j)) := divI ⟨h, h2⟩
theorem isNI : isD (.int i) .non = some (.bl false) := rfl
theorem isNotNI : isNotD (.int i) .non = some (.bl true) := rfl
theorem isNL : isD (.lst xs) .non = some (.bl false) := rfl
theorem isNotNL : isNotD (.lst xs) .non = some (.bl true) := rfl
theorem pg_0 {us ws : List α} : permG [] us ws = [] := rfl
theorem pg_l {us ws : List α} {i : Nat} {pm : List (Sum Nat Nat)} : permG (.inl i :: pm) us ws = match us[i]? with | some x => x :: permG pm us ws | none => permG pm us ws := by
  unfold permG
  cases e : us[i]? <;> simp [e]
theorem pg_r {us ws : List α} {i : Nat} {pm : List (Sum Nat Nat)} : permG (.inr i :: pm) us ws = match ws[i]? with | some x => x :: permG pm us ws | none => permG pm us ws := by
  unfold permG
  cases e : ws[i]? <;> simp [e]
theorem z_addLL : addLD (.lst xs) (.lst ys) = if xs.length + ys.length ≤ sizeLine then some (.lst (xs ++ ys)) else none := rfl
/-! equality -/
mutual
/-- data that are compared: no thing of the module, no deeper than n -/
def okN : Nat → D → Bool
  | _, .non => true
  | _, .bl _ => true
  | _, .int _ => true
  | _, .str x => PyData.strOk x
  | 0, .lst _ => false
  | 0, .tup _ => false
  | n + 1, .lst xs => oksN n xs
  | n + 1, .tup xs => oksN n xs
  | _, .gl _ => false
def oksN : Nat → List D → Bool
  | _, [] => true
  | n, x :: xs => okN n x && oksN n xs
end
theorem k_non : okN n .non = true := by cases n <;> (unfold okN; rfl)
theorem k_bl {b : Bool} : okN n (.bl b) = true := by cases n <;> (unfold okN; rfl)
theorem k_int : okN n (.int i) = true := by cases n <;> (unfold okN; rfl)
theorem k_str {x : Str} (h : PyData.strOk x = true) : okN n (.str x) = true := by cases n <;> (unfold okN; exact h)
theorem k_lst : okN (n + 1) (.lst xs) = oksN n xs := by conv => lhs; unfold okN
theorem k_tup : okN (n + 1) (.tup xs) = oksN n xs := by conv => lhs; unfold okN
theorem k_nil : oksN n [] = true := by unfold oksN; rfl
theorem k_cons : oksN n (x :: xs) = (okN n x && oksN n xs) := by conv => lhs; unfold oksN
theorem k_map {f : α → D} (h : ∀ a, okN n (f a) = true) : ∀ {l : List α}, oksN n (l.map f) = true
  | [] => k_nil
  | a :: l => by
    rw [List.map_cons, k_cons, h a, k_map h]
    rfl
theorem k_app : ∀ {xs : List D}, oksN n (xs ++ ys) = (oksN n xs && oksN n ys)
  | [] => by rw [k_nil]; rfl
  | x :: xs => by
    rw [List.cons_append, k_cons, k_cons, k_app, Bool.and_assoc]
mutual
theorem okN_sound : ∀ {n : Nat} {d : D}, okN n d = true → DL.plain d = true ∧ (toP d).canLay0 = true ∧ (toP d).depth ≤ n
  | _, .non, _ => by unfold DL.plain toP PyData.canLay0 PyData.depth; exact ⟨rfl, rfl, Nat.zero_le _⟩
  | _, .bl _, _ => by unfold DL.plain toP PyData.canLay0 PyData.depth; exact ⟨rfl, rfl, Nat.zero_le _⟩
  | _, .int _, _ => by unfold DL.plain toP PyData.canLay0 PyData.depth; exact ⟨rfl, rfl, Nat.zero_le _⟩
  | n, .str x, h => by
    have h' : PyData.strOk x = true := by
      cases n <;> (unfold okN at h; exact h)
    unfold DL.plain toP PyData.canLay0 PyData.depth
    exact ⟨rfl, h', Nat.zero_le _⟩
  | 0, .lst _, h => by unfold okN at h; cases h
  | 0, .tup _, h => by unfold okN at h; cases h
  | n + 1, .lst xs, h => by
    unfold okN at h
    obtain ⟨a, b, c⟩ := oksN_sound h
    unfold DL.plain toP PyData.canLay0 PyData.depth
    exact ⟨a, b, Nat.succ_le_succ c⟩
  | n + 1, .tup xs, h => by
    unfold okN at h
    obtain ⟨a, b, c⟩ := oksN_sound h
    unfold DL.plain toP PyData.canLay0 PyData.depth
    exact ⟨a, b, Nat.succ_le_succ c⟩
  | n, .gl _, h => by cases n <;> (unfold okN at h; cases h)
theorem oksN_sound : ∀ {n : Nat} {xs : List D}, oksN n xs = true → DL.plains xs = true ∧ PyData.canLayAll0 (toPs xs) = true ∧ PyData.depthAll (toPs xs) ≤ n
  | n, [], _ => by unfold DL.plains toPs PyData.canLayAll0 PyData.depthAll; exact ⟨rfl, rfl, Nat.zero_le _⟩
  | n, x :: xs, h => by
    unfold oksN at h
    obtain ⟨h1, h2⟩ := Bool.and_eq_true_iff.mp h
    obtain ⟨a, b, c⟩ := okN_sound h1
    obtain ⟨a', b', c'⟩ := oksN_sound h2
    unfold DL.plains toPs PyData.canLayAll0 PyData.depthAll
    rw [a, a', b, b']
    exact ⟨rfl, rfl, Nat.max_le.mpr ⟨c, c'⟩⟩
end
theorem eqOk_n (h : okN 60 d = true) : eqOk d = true := by
  obtain ⟨a, b, c⟩ := okN_sound h
  unfold eqOk SeqAt.shaped
  rw [a, b, decide_eq_true (by omega : (toP d).depth ≤ 64)]
  rfl
theorem z_eq (h1 : okN 60 x = true) (h2 : okN 60 y = true) : eqD x y = some (.bl (eqv x y)) := by
  unfold eqD
  rw [eqOk_n h1, eqOk_n h2]
  rfl
theorem z_ne (h1 : okN 60 x = true) (h2 : okN 60 y = true) : neD x y = some (.bl (!eqv x y)) := by
  unfold neD
  rw [eqOk_n h1, eqOk_n h2]
  rfl
theorem z_inL (h1 : okN 60 x = true) (h2 : oksN 59 xs = true) : inD x (.lst xs) = some (.bl (inL x xs)) := by
  have h3 : okN 60 (.lst xs) = true := by rw [k_lst]; exact h2
  rw [z_in, eqOk_n h1, eqOk_n h3]
  rfl
theorem z_notInL (h1 : okN 60 x = true) (h2 : oksN 59 xs = true) : notInD x (.lst xs) = some (.bl (!inL x xs)) := by
  have h3 : okN 60 (.lst xs) = true := by rw [k_lst]; exact h2
  rw [z_notIn, eqOk_n h1, eqOk_n h3]
  rfl
/-- equality of rows -/
def eqvs (xs ys : List D) : Bool := PyData.eqvAll (toPs xs) (toPs ys)
theorem e_ii : eqv (.int i) (.int j) = decide (i = j) := by
  unfold eqv toP PyData.eqv
  by_cases h : i = j <;> simp [h]
theorem e_bb {a b : Bool} : eqv (.bl a) (.bl b) = (a == b) := by unfold eqv toP PyData.eqv; rfl
theorem e_bi {a : Bool} : eqv (.bl a) (.int j) = decide ((if a then 1 else 0) = j) := by
  unfold eqv toP PyData.eqv
  by_cases h : (if a then (1 : Int) else 0) = j <;> simp [h]
theorem e_ib {a : Bool} : eqv (.int i) (.bl a) = decide (i = (if a then 1 else 0)) := by
  unfold eqv toP PyData.eqv
  by_cases h : i = (if a then (1 : Int) else 0) <;> simp [h]
theorem e_ss {a b : Str} : eqv (.str a) (.str b) = (a == b) := by unfold eqv toP PyData.eqv; rfl
theorem e_tt : eqv (.tup xs) (.tup ys) = eqvs xs ys := by
  unfold eqv
  conv => lhs; unfold toP PyData.eqv
  rfl
theorem e_ll : eqv (.lst xs) (.lst ys) = eqvs xs ys := by
  unfold eqv
  conv => lhs; unfold toP PyData.eqv
  rfl
theorem e_00 : eqvs [] [] = true := by unfold eqvs toPs PyData.eqvAll; rfl
theorem e_0c : eqvs [] (y :: ys) = false := by unfold eqvs; conv => lhs; unfold toPs PyData.eqvAll
theorem e_c0 : eqvs (x :: xs) [] = false := by unfold eqvs; conv => lhs; unfold toPs PyData.eqvAll
theorem e_cc : eqvs (x :: xs) (y :: ys) = (eqv x y && eqvs xs ys) := by
  unfold eqvs
  conv => lhs; unfold toPs PyData.eqvAll
  rfl
theorem e_ints : eqvs (A.map D.int) (B.map D.int) = decide (A = B) := eqvAll_ints A B
theorem e_ints0 : eqvs (A.map D.int) [] = decide (A = []) := by
  have := e_ints (A := A) (B := [])
  rw [List.map_nil] at this
  exact this
theorem e_0ints : eqvs [] (A.map D.int) = decide ([] = A) := by
  have := e_ints (A := []) (B := A)
  rw [List.map_nil] at this
  exact this
theorem e_map {f : α → D} (h : ∀ a b : α, eqv (f a) (f b) = true ↔ a = b) : ∀ {l r : List α}, (eqvs (l.map f) (r.map f) = true ↔ l = r)
  | [], [] => by rw [List.map_nil, e_00]; simp
  | [], b :: r => by rw [List.map_nil, List.map_cons, e_0c]; simp
  | a :: l, [] => by rw [List.map_nil, List.map_cons, e_c0]; simp
  | a :: l, b :: r => by
    rw [List.map_cons, List.map_cons, e_cc, Bool.and_eq_true_iff, h a b, e_map h, List.cons.injEq]
theorem e_nn : eqv .non .non = true := by unfold eqv toP PyData.eqv; rfl
theorem e_nb {b c : Bool} {z u : Str} : eqv .non (.bl c) = false := by unfold eqv; conv => lhs; unfold toP PyData.eqv
theorem e_ni {b c : Bool} {z u : Str} : eqv .non (.int j) = false := by unfold eqv; conv => lhs; unfold toP PyData.eqv
theorem e_ns {b c : Bool} {z u : Str} : eqv .non (.str u) = false := by unfold eqv; conv => lhs; unfold toP PyData.eqv
theorem e_nt {b c : Bool} {z u : Str} : eqv .non (.tup ys) = false := by unfold eqv; conv => lhs; unfold toP PyData.eqv
theorem e_nl {b c : Bool} {z u : Str} : eqv .non (.lst ys) = false := by unfold eqv; conv => lhs; unfold toP PyData.eqv
theorem e_bn {b c : Bool} {z u : Str} : eqv (.bl b) .non = false := by unfold eqv; conv => lhs; unfold toP PyData.eqv
theorem e_bs {b c : Bool} {z u : Str} : eqv (.bl b) (.str u) = false := by unfold eqv; conv => lhs; unfold toP PyData.eqv
theorem e_bt {b c : Bool} {z u : Str} : eqv (.bl b) (.tup ys) = false := by unfold eqv; conv => lhs; unfold toP PyData.eqv
theorem e_bl {b c : Bool} {z u : Str} : eqv (.bl b) (.lst ys) = false := by unfold eqv; conv => lhs; unfold toP PyData.eqv
theorem e_in {b c : Bool} {z u : Str} : eqv (.int i) .non = false := by unfold eqv; conv => lhs; unfold toP PyData.eqv
theorem e_is {b c : Bool} {z u : Str} : eqv (.int i) (.str u) = false := by unfold eqv; conv => lhs; unfold toP PyData.eqv
theorem e_it {b c : Bool} {z u : Str} : eqv (.int i) (.tup ys) = false := by unfold eqv; conv => lhs; unfold toP PyData.eqv
theorem e_il {b c : Bool} {z u : Str} : eqv (.int i) (.lst ys) = false := by unfold eqv; conv => lhs; unfold toP PyData.eqv
theorem e_sn {b c : Bool} {z u : Str} : eqv (.str z) .non = false := by unfold eqv; conv => lhs; unfold toP PyData.eqv
theorem e_sb {b c : Bool} {z u : Str} : eqv (.str z) (.bl c) = false := by unfold eqv; conv => lhs; unfold toP PyData.eqv
theorem e_si {b c : Bool} {z u : Str} : eqv (.str z) (.int j) = false := by unfold eqv; conv => lhs; unfold toP PyData.eqv
theorem e_st {b c : Bool} {z u : Str} : eqv (.str z) (.tup ys) = false := by unfold eqv; conv => lhs; unfold toP PyData.eqv
theorem e_sl {b c : Bool} {z u : Str} : eqv (.str z) (.lst ys) = false := by unfold eqv; conv => lhs; unfold toP PyData.eqv
theorem e_tn {b c : Bool} {z u : Str} : eqv (.tup xs) .non = false := by unfold eqv; conv => lhs; unfold toP PyData.eqv
theorem e_tb {b c : Bool} {z u : Str} : eqv (.tup xs) (.bl c) = false := by unfold eqv; conv => lhs; unfold toP PyData.eqv
theorem e_ti {b c : Bool} {z u : Str} : eqv (.tup xs) (.int j) = false := by unfold eqv; conv => lhs; unfold toP PyData.eqv
theorem e_ts {b c : Bool} {z u : Str} : eqv (.tup xs) (.str u) = false := by unfold eqv; conv => lhs; unfold toP PyData.eqv
theorem e_tl {b c : Bool} {z u : Str} : eqv (.tup xs) (.lst ys) = false := by unfold eqv; conv => lhs; unfold toP PyData.eqv
theorem e_ln {b c : Bool} {z u : Str} : eqv (.lst xs) .non = false := by unfold eqv; conv => lhs; unfold toP PyData.eqv
theorem e_lb {b c : Bool} {z u : Str} : eqv (.lst xs) (.bl c) = false := by unfold eqv; conv => lhs; unfold toP PyData.eqv
theorem e_li {b c : Bool} {z u : Str} : eqv (.lst xs) (.int j) = false := by unfold eqv; conv => lhs; unfold toP PyData.eqv
theorem e_ls {b c : Bool} {z u : Str} : eqv (.lst xs) (.str u) = false := by unfold eqv; conv => lhs; unfold toP PyData.eqv
theorem e_lt {b c : Bool} {z u : Str} : eqv (.lst xs) (.tup ys) = false := by unfold eqv; conv => lhs; unfold toP PyData.eqv
theorem in_0 : inL x [] = false := rfl
theorem in_c : inL x (y :: ys) = (eqv y x || inL x ys) := rfl
end
section
variable {α : Type} {p : Prop} [Decidable p] {a b : α} {x y : Bool}
theorem q_it : (if True then a else b) = a := if_pos trivial
theorem q_if : (if False then a else b) = b := if_neg not_false
theorem q_ft : (false = true) = False := by simp
theorem q_tf : (true = false) = False := by simp
theorem q_dt : (decide p = true) = p := by simp
theorem q_df : (decide p = false) = ¬ p := by simp
theorem q_nt : (!true) = false := rfl
theorem q_nf : (!false) = true := rfl
theorem q_nd : ((!x) = true) = (x = false) := by cases x <;> simp
theorem q_ne : ((!x) = false) = (x = true) := by cases x <;> simp
theorem q_ta : (true && x) = x := rfl
theorem q_fa : (false && x) = false := rfl
theorem q_at : (x && true) = x := by cases x <;> rfl
theorem q_af : (x && false) = false := by cases x <;> rfl
theorem q_to : (true || x) = true := rfl
theorem q_fo : (false || x) = x := rfl
theorem q_ot : (x || true) = true := by cases x <;> rfl
theorem q_of : (x || false) = x := by cases x <;> rfl
theorem q_ss : ((some a) = (some b)) = (a = b) := by simp
theorem q_nT : (¬ True) = False := by simp
theorem q_nF : (¬ False) = True := by simp
theorem q_nn : (¬ ¬ p) = p := by simp
theorem q_dT : decide True = true := rfl
theorem q_dF : decide False = false := rfl
theorem q_be : (x == x) = true := by cases x <;> rfl
end
section
variable {x : Int}
theorem rg0 : rngs 0 0 = [] := rfl
theorem rg1 : rngs 0 1 = [.int 0] := rfl
theorem rg2 : rngs 0 2 = [.int 0, .int 1] := rfl
theorem rg3 : rngs 0 3 = [.int 0, .int 1, .int 2] := rfl
theorem rg4 : rngs 0 4 = [.int 0, .int 1, .int 2, .int 3] := rfl
theorem rg5 : rngs 0 5 = [.int 0, .int 1, .int 2, .int 3, .int 4] := rfl
theorem rg6 : rngs 0 6 = [.int 0, .int 1, .int 2, .int 3, .int 4, .int 5] := rfl
theorem rg7 : rngs 0 7 = [.int 0, .int 1, .int 2, .int 3, .int 4, .int 5, .int 6] := rfl
theorem rg8 : rngs 0 8 = [.int 0, .int 1, .int 2, .int 3, .int 4, .int 5, .int 6, .int 7] := rfl
theorem rg9 : rngs 0 9 = [.int 0, .int 1, .int 2, .int 3, .int 4, .int 5, .int 6, .int 7, .int 8] := rfl
theorem rngs_n (n : Nat) : rngs 0 (n : Int) = (List.range n).map fun (i : Nat) => D.int (i : Int) := by
  unfold rngs
  have e : ((n : Int) - 0).toNat = n := by omega
  rw [e]
  congr 1
  funext i
  rw [Int.zero_add]
end
/-! cuts -/
section
variable {α : Type} {xs : List α} {n m : Nat}
theorem cut_t (xs : List α) (n : Nat) : cut xs none (some (n : Int)) = xs.take n := by
  unfold cut
  have e : HT.sIx xs.length xs.length (some (n : Int)) = min n xs.length := by rw [HT.sIx_nat]
  rw [e]
  show (xs.drop 0).take (min n xs.length - 0) = _
  rw [List.drop_zero, Nat.sub_zero]
  by_cases h : n ≤ xs.length
  · rw [Nat.min_eq_left h]
  · rw [Nat.min_eq_right (by omega), List.take_of_length_le (Nat.le_refl _), List.take_of_length_le (by omega)]
theorem cut_d (xs : List α) (n : Nat) : cut xs (some (n : Int)) none = xs.drop n := by
  unfold cut
  have e : HT.sIx xs.length 0 (some (n : Int)) = min n xs.length := by rw [HT.sIx_nat]
  rw [e]
  show (xs.drop (min n xs.length)).take (xs.length - min n xs.length) = _
  rw [List.take_of_length_le (by rw [List.length_drop]; exact Nat.le_refl _)]
  by_cases h : n ≤ xs.length
  · rw [Nat.min_eq_left h]
  · rw [Nat.min_eq_right (by omega), List.drop_of_length_le (Nat.le_refl _), List.drop_of_length_le (by omega)]
theorem cut_dt (xs : List α) (n m : Nat) : cut xs (some (n : Int)) (some (m : Int)) = (xs.take m).drop n := by
  unfold cut
  have e : HT.sIx xs.length 0 (some (n : Int)) = min n xs.length := by rw [HT.sIx_nat]
  have e2 : HT.sIx xs.length xs.length (some (m : Int)) = min m xs.length := by rw [HT.sIx_nat]
  rw [e, e2, List.drop_take]
  by_cases h : n ≤ xs.length
  · rw [Nat.min_eq_left h]
    by_cases h2 : m ≤ xs.length
    · rw [Nat.min_eq_left h2]
    · have e4 : min m xs.length = xs.length := Nat.min_eq_right (by omega)
      rw [e4, List.take_of_length_le (by rw [List.length_drop]; exact Nat.le_refl _), List.take_of_length_le (by rw [List.length_drop]; omega)]
  · have e3 : min n xs.length = xs.length := Nat.min_eq_right (by omega)
    rw [e3, List.drop_of_length_le (Nat.le_refl xs.length), List.drop_of_length_le (by omega : xs.length ≤ n), List.take_nil, List.take_nil]
end
/-! loops -/
section
variable {α β : Type} {g : G} {b : MS} {σ : DSt}
theorem z_for {d : D} {ds : List D} : forM' g b (d :: ds) σ = match g d σ with | none => SO.bad | some s => (b s).loop (forM' g b ds) := for_eq
/-- a fold, with what holds when so many are left -/
theorem for_fold {enc : α → D} {fr : β → DSt} {step : β → α → β} (P : Nat → β → Prop) (h : ∀ n s a, P (n + 1) s → P n (step s a) ∧ ∃ t, g (enc a) (fr s) = some t ∧ (b t = .nx (fr (step s a)) ∨ b t = .cont (fr (step s a)))) : ∀ (l : List α) (s : β), P l.length s → forM' g b (l.map enc) (fr s) = .nx (fr (l.foldl step s)) ∧ P 0 (l.foldl step s)
  | [], s, hp => ⟨rfl, hp⟩
  | a :: l, s, hp => by
    obtain ⟨h1, t, e1, e2⟩ := h l.length s a hp
    obtain ⟨h2, h3⟩ := for_fold P h l (step s a) h1
    refine ⟨?_, h3⟩
    rw [List.map_cons, for_eq]
    show (match g (enc a) (fr s) with | none => SO.bad | some s => (b s).loop (forM' g b (l.map enc))) = _
    rw [e1]
    show (b t).loop (forM' g b (l.map enc)) = _
    rcases e2 with e2 | e2 <;> rw [e2] <;> exact h2
/-- every turn leaves all as it was -/
theorem for_same {σ : DSt} : ∀ (ds : List D), (∀ d ∈ ds, ∃ t, g d σ = some t ∧ (b t = .nx σ ∨ b t = .cont σ)) → forM' g b ds σ = .nx σ
  | [], _ => rfl
  | d :: ds, h => by
    obtain ⟨t, e1, e2⟩ := h d List.mem_cons_self
    rw [for_eq]
    show (match g d σ with | none => SO.bad | some s => (b s).loop (forM' g b ds)) = _
    rw [e1]
    show (b t).loop (forM' g b ds) = _
    have ih := for_same ds fun x hx => h x (List.mem_cons_of_mem _ hx)
    rcases e2 with e2 | e2 <;> rw [e2] <;> exact ih
end
end DL
end

section
set_option Elab.async false
set_option linter.all false
set_option maxRecDepth 100000
set_option maxHeartbeats 2000000
set_option autoImplicit false
/-! DL24: comprehensions that change the frame; finds. -/
namespace DL
open PySem L2
/-- a walk that carries a state and tells of each thing -/
def macc {α β γ : Type} (f : β → α → γ × β) : List α → β → List γ × β
  | [], s => ([], s)
  | a :: l, s => ((f s a).1 :: (macc f l (f s a).2).1, (macc f l (f s a).2).2)
section
variable {α β γ : Type}
theorem macc_len (f : β → α → γ × β) : ∀ (l : List α) (s : β), (macc f l s).1.length = l.length
  | [], _ => rfl
  | a :: l, s => by
    show (macc f l (f s a).2).1.length + 1 = _
    rw [macc_len f l, List.length_cons]
theorem macc_all (f : β → α → γ × β) (P : γ → Prop) (h : ∀ s a, P (f s a).1) : ∀ (l : List α) (s : β), ∀ x ∈ (macc f l s).1, P x
  | [], _, x, hx => by cases hx
  | a :: l, s, x, hx => by
    rcases List.mem_cons.mp hx with e | e
    · rw [e]
      exact h s a
    · exact macc_all f P h l _ x e
theorem lc_c' {vs : List Nat} {g : G} {tt : M Bool} {te : M D} {σ : DSt} {d : D} {ds acc : List D} : lcRest vs g tt te (d :: ds) σ acc = match g d (wipeD σ vs) with
    | none => .bad
    | some s => match tt s with
      | .ok true t => match te t with
        | .ok y u => if acc.length < sizeLine then lcRest vs g tt te ds u (acc ++ [y]) else .bad
        | _ => .bad
      | .ok false t => lcRest vs g tt te ds t acc
      | _ => .bad := rfl
theorem lc_acc {vs : List Nat} {g : G} {tt : M Bool} {te : M D} {enc : α → D} {out : γ → D} {fr : β → DSt} (f : β → α → γ × β) (hw : ∀ s, wipeD (fr s) vs = fr s) (h : ∀ s a, ∃ t, g (enc a) (fr s) = some t ∧ tt t = .ok true t ∧ ∃ u, te t = .ok (out (f s a).1) u ∧ wipeD u vs = fr (f s a).2) :
    ∀ (l : List α) (σ : DSt) (s : β) (acc : List D), wipeD σ vs = fr s → acc.length + l.length ≤ sizeLine → lcRest vs g tt te (l.map enc) σ acc = .ok (acc ++ (macc f l s).1.map out) (fr (macc f l s).2)
  | [], σ, s, acc, h0, _ => by
    unfold macc
    show R.ok acc (wipeD σ vs) = _
    rw [h0, List.map_nil, List.append_nil]
  | a :: l, σ, s, acc, h0, hl => by
    obtain ⟨t, e1, e2, u, e3, e4⟩ := h s a
    rw [List.length_cons] at hl
    rw [List.map_cons]
    unfold lcRest
    rw [h0, e1]
    show (match tt t with | .ok true t => (match te t with | .ok y u => if acc.length < sizeLine then lcRest vs g tt te (l.map enc) u (acc ++ [y]) else .bad | _ => .bad) | .ok false t => lcRest vs g tt te (l.map enc) t acc | _ => .bad) = _
    rw [e2]
    show (match te t with | .ok y u => if acc.length < sizeLine then lcRest vs g tt te (l.map enc) u (acc ++ [y]) else .bad | _ => .bad) = _
    rw [e3]
    show (if acc.length < sizeLine then lcRest vs g tt te (l.map enc) u (acc ++ [out (f s a).1]) else .bad) = _
    rw [if_pos (by omega), lc_acc f hw h l u (f s a).2 _ e4 (by rw [List.length_append, List.length_singleton]; omega)]
    show R.ok (acc ++ [out (f s a).1] ++ (macc f l (f s a).2).1.map out) _ = R.ok (acc ++ (out (f s a).1 :: (macc f l (f s a).2).1.map out)) _
    rw [List.append_assoc]
    rfl
/-- a comprehension that changes nothing: filtered, turned -/
theorem lc_fm {vs : List Nat} {g : G} {tt : M Bool} {te : M D} {enc : α → D} {out : γ → D} {σ0 : DSt} (p : α → Bool) (f : α → γ) : ∀ (l : List α) (σ : DSt) (acc : List D), wipeD σ vs = σ0 → (∀ a ∈ l, ∃ t, g (enc a) σ0 = some t ∧ tt t = .ok (p a) t ∧ wipeD t vs = σ0 ∧ (p a = true → te t = .ok (out (f a)) t)) → acc.length + l.length ≤ sizeLine →
    lcRest vs g tt te (l.map enc) σ acc = .ok (acc ++ ((l.filter p).map f).map out) σ0
  | [], σ, acc, h0, _, _ => by
    show R.ok acc (wipeD σ vs) = _
    rw [h0, List.filter_nil, List.map_nil, List.map_nil, List.append_nil]
  | a :: l, σ, acc, h0, h, hl => by
    obtain ⟨t, e1, e2, e3, e4⟩ := h a List.mem_cons_self
    have ih := fun acc' (hl' : acc'.length + l.length ≤ sizeLine) => lc_fm p f l t acc' e3 (fun x hx => h x (List.mem_cons_of_mem _ hx)) hl'
    rw [List.length_cons] at hl
    rw [List.map_cons]
    unfold lcRest
    rw [h0, e1]
    show (match tt t with | .ok true t => (match te t with | .ok y u => if acc.length < sizeLine then lcRest vs g tt te (l.map enc) u (acc ++ [y]) else .bad | _ => .bad) | .ok false t => lcRest vs g tt te (l.map enc) t acc | _ => .bad) = _
    rw [e2]
    cases hp : p a with
    | true =>
      show (match te t with | .ok y u => if acc.length < sizeLine then lcRest vs g tt te (l.map enc) u (acc ++ [y]) else .bad | _ => .bad) = _
      rw [e4 hp]
      show (if acc.length < sizeLine then lcRest vs g tt te (l.map enc) t (acc ++ [out (f a)]) else .bad) = _
      rw [if_pos (by omega), ih _ (by rw [List.length_append, List.length_singleton]; omega), List.filter_cons_of_pos hp, List.map_cons, List.map_cons, List.append_assoc]
      rfl
    | false =>
      show lcRest vs g tt te (l.map enc) t acc = _
      rw [ih _ (by omega), List.filter_cons_of_neg (by rw [hp]; exact Bool.false_ne_true)]
/-- a comprehension that changes nothing and takes all -/
theorem lc_m {vs : List Nat} {g : G} {te : M D} {enc : α → D} {out : γ → D} {σ0 : DSt} (f : α → γ) (l : List α) (σ : DSt) (h0 : wipeD σ vs = σ0) (h : ∀ a ∈ l, ∃ t, g (enc a) σ0 = some t ∧ wipeD t vs = σ0 ∧ te t = .ok (out (f a)) t) (hl : l.length ≤ sizeLine) :
    lcRest vs g mYes te (l.map enc) σ [] = .ok ((l.map f).map out) σ0 := by
  have z := lc_fm (tt := mYes) (te := te) (out := out) (fun _ => true) f l σ [] h0 (fun a ha => by
    obtain ⟨t, a1, a2, a3⟩ := h a ha
    exact ⟨t, a1, rfl, a2, fun _ => a3⟩) (by rw [List.length_nil]; omega)
  rw [z, List.nil_append, List.filter_eq_self.mpr (fun _ _ => rfl)]
end
/-! comprehensions that change nothing, evaluated thing by thing -/
def testL (g : G) (tt : M Bool) (σ : DSt) (d : D) : Bool := match g d σ with
  | some s => match tt s with
    | .ok b _ => b
    | _ => false
  | none => false
def elemL (g : G) (tt : M Bool) (te : M D) (σ : DSt) (d : D) : D := match g d σ with
  | some s => match tt s with
    | .ok _ t => match te t with
      | .ok y _ => y
      | _ => .non
    | _ => .non
  | none => .non
def goodL (vs : List Nat) (g : G) (tt : M Bool) (te : M D) (σ : DSt) (d : D) : Prop := match g d σ with
  | some s => match tt s with
    | .ok b t => wipeD t vs = σ ∧ (b = true → match te t with
      | .ok _ u => wipeD u vs = σ
      | _ => False)
    | _ => False
  | none => False
theorem goodL_eq {vs : List Nat} {g : G} {tt : M Bool} {te : M D} {σ : DSt} {d : D} : goodL vs g tt te σ d = (match g d σ with
  | some s => match tt s with
    | .ok b t => wipeD t vs = σ ∧ (b = true → match te t with
      | .ok _ u => wipeD u vs = σ
      | _ => False)
    | _ => False
  | none => False) := rfl
structure Each {α : Type} (l : List α) (p : α → Prop) : Prop where
  all : ∀ a ∈ l, p a
theorem wipe_2 (σ : DSt) : ∀ vs : List Nat, wipeD (wipeD σ vs) vs = wipeD σ vs := fun vs => by
  apply List.ext_getElem?
  intro i
  by_cases hi : i ∈ vs
  · have l1 : (wipeD (wipeD σ vs) vs).length = (wipeD σ vs).length := wipeD_length _ _
    cases e1 : (wipeD σ vs)[i]? with
    | none =>
      have := List.getElem?_eq_none_iff.mp e1
      exact List.getElem?_eq_none_iff.mpr (by omega)
    | some s =>
      have z1 := (wipeD_in e1).1 hi
      have hl : i < (wipeD (wipeD σ vs) vs).length := by
        have := (List.getElem?_eq_some_iff.mp e1).1
        omega
      have e2 := List.getElem?_eq_getElem hl
      have z2 := (wipeD_in e2).1 hi
      rw [e2, z2, z1]
  · have l1 : (wipeD (wipeD σ vs) vs).length = (wipeD σ vs).length := wipeD_length _ _
    cases e1 : (wipeD (wipeD σ vs) vs)[i]? with
    | none =>
      have := List.getElem?_eq_none_iff.mp e1
      exact (List.getElem?_eq_none_iff.mpr (by omega)).symm
    | some s => exact ((wipeD_in e1).2 hi).symm
theorem lc_ev {α : Type} {vs : List Nat} {g : G} {tt : M Bool} {te : M D} {enc : α → D} {l : List α} {σ : DSt} (hl : l.length ≤ 1000000) (h : Each l fun a => goodL vs g tt te (wipeD σ vs) (enc a)) :
    lcRest vs g tt te (l.map enc) σ [] = .ok ((l.filter fun a => testL g tt (wipeD σ vs) (enc a)).map fun a => elemL g tt te (wipeD σ vs) (enc a)) (wipeD σ vs) := by
  have key : ∀ (l : List α) (τ : DSt) (acc : List D), wipeD τ vs = wipeD σ vs → (∀ a ∈ l, goodL vs g tt te (wipeD σ vs) (enc a)) → acc.length + l.length ≤ sizeLine →
      lcRest vs g tt te (l.map enc) τ acc = .ok (acc ++ (l.filter fun a => testL g tt (wipeD σ vs) (enc a)).map fun a => elemL g tt te (wipeD σ vs) (enc a)) (wipeD σ vs) := by
    intro l
    induction l with
    | nil =>
      intro τ acc h0 _ _
      show R.ok acc (wipeD τ vs) = _
      rw [h0, List.filter_nil, List.map_nil, List.append_nil]
    | cons a l ih =>
      intro τ acc h0 hg hs
      have ga := hg a List.mem_cons_self
      rw [List.length_cons] at hs
      rw [goodL_eq] at ga
      rw [List.map_cons, lc_c', h0]
      unfold testL elemL at ih ⊢
      cases e1 : g (enc a) (wipeD σ vs) with
      | none =>
        rw [e1] at ga
        exact ga.elim
      | some s =>
        rw [e1] at ga
        simp only at ga ⊢
        cases e2 : tt s with
        | ok b t =>
          rw [e2] at ga
          obtain ⟨g1, g2⟩ := ga
          cases b with
          | true =>
            try simp only
            have g3 := g2 rfl
            cases e3 : te t with
            | ok y u =>
              rw [e3] at g3
              simp only
              rw [if_pos (by omega), ih u (acc ++ [y]) g3 (fun x hx => hg x (List.mem_cons_of_mem _ hx)) (by rw [List.length_append, List.length_singleton]; omega)]
              rw [List.filter_cons_of_pos (by simp only [e1, e2]), List.map_cons, List.append_assoc]
              simp only [e1, e2, e3]
              first | done | rfl
            | err c fs u =>
              rw [e3] at g3
              exact g3.elim
            | bad =>
              rw [e3] at g3
              exact g3.elim
          | false =>
            try simp only
            rw [ih t acc g1 (fun x hx => hg x (List.mem_cons_of_mem _ hx)) (by omega), List.filter_cons_of_neg (by simp only [e1, e2]; exact Bool.false_ne_true)]
        | err c fs t =>
          rw [e2] at ga
          exact ga.elim
        | bad =>
          rw [e2] at ga
          exact ga.elim
  exact key l σ [] rfl h.all (by
    have : (1000000 : Nat) ≤ sizeLine := by decide
    rw [List.length_nil]
    omega)
theorem testL_eq {g : G} {tt : M Bool} {σ : DSt} {d : D} : testL g tt σ d = match g d σ with
  | some s => match tt s with
    | .ok b _ => b
    | _ => false
  | none => false := rfl
theorem elemL_eq {g : G} {tt : M Bool} {te : M D} {σ : DSt} {d : D} : elemL g tt te σ d = match g d σ with
  | some s => match tt s with
    | .ok _ t => match te t with
      | .ok y _ => y
      | _ => .non
    | _ => .non
  | none => .non := rfl
theorem fil_t {α : Type} {l : List α} : (l.filter fun _ => true) = l := List.filter_eq_self.mpr fun _ _ => rfl
theorem fil_f {α : Type} {l : List α} : (l.filter fun _ => false) = [] := List.filter_eq_nil_iff.mpr fun _ _ => Bool.false_ne_true
/-- literal comprehensions -/
theorem lc_0 {vs : List Nat} {g : G} {tt : M Bool} {te : M D} {σ : DSt} {acc : List D} : lcRest vs g tt te [] σ acc = .ok acc (wipeD σ vs) := rfl
theorem lc_c {vs : List Nat} {g : G} {tt : M Bool} {te : M D} {σ : DSt} {d : D} {ds acc : List D} : lcRest vs g tt te (d :: ds) σ acc = match g d (wipeD σ vs) with
    | none => .bad
    | some s => match tt s with
      | .ok true t => match te t with
        | .ok y u => if acc.length < sizeLine then lcRest vs g tt te ds u (acc ++ [y]) else .bad
        | _ => .bad
      | .ok false t => lcRest vs g tt te ds t acc
      | _ => .bad := rfl
theorem wp_0 {σ : DSt} : wipeD σ [] = σ := rfl
theorem wp_c {σ : DSt} {v : Nat} {vs : List Nat} : wipeD σ (v :: vs) = (wipeD σ vs).set v .no := rfl
end DL
end

section
set_option Elab.async false
set_option linter.all false
set_option maxRecDepth 100000
set_option maxHeartbeats 4000000
set_option autoImplicit false
/-! DL25: try with several clauses, each with a name. -/
namespace DL
open PySem PySem.Spec PyProof.Rows L2
abbrev Clause := Value × Nat × (Addr → Value → Option Addr → TS)
/-- what the clauses wish, one behind another -/
def wNames (K : PySem.W.Frag) (out : WX) (D : Ends) : List Clause → WX
  | [] => out
  | q :: r => wAs K q.1 q.2.1 q.2.2 (wNames K out D r) D
/-- the clauses' texts -/
inductive HdN (X : Cx) : List ExceptHandler → List Clause → Prop
  | nil : HdN X [] []
  | cons {x n : Str} {c : Value} {i : Nat} {ts : Addr → Value → Option Addr → TS} {b0 : Stmt} {bs : List Stmt} {p1 p2 : Pos} {hds : List ExceptHandler} {l : List Clause} : X.N[i]? = some n → X.env.kindOf n = some .local → Names X x c →
      (∀ (a : Addr) (oe : Obj) (cls : Value) (d : Option Addr) (pn : List (Addr × Obj)), Zc cls d oe → (∃ vs, oe.data = .fields vs) → PSs (X.suite a ((a, oe) :: pn)) (b0 :: bs) (ts a cls d)) → HdN X hds l →
      HdN X (.ExceptHandler (some (.Name x p1)) (some n) (b0 :: bs) p2 :: hds) ((c, i, ts) :: l)
/-- what is left to do once an exception is there -/
def toDo (X : Cx) (pins : List (Addr × Obj)) (D : Ends) (hds : List ExceptHandler) (e : Value) : Shared → Prop := fun s => wpAny (model X.prog X.w) X.A (handleBy e X.env hds) (SP X pins D) X.xe s
def noted (X : Cx) (pins : List (Addr × Obj)) (D : Ends) (hds : List ExceptHandler) : Value → Shared → Prop := fun e s => wpAny (model X.prog X.w) X.A (noteFrame e X.env) (fun _ t => wpAny (model X.prog X.w) X.A (setFlight e none) (fun _ u => toDo X pins D hds e u) X.xe t) X.xe s
section
variable {X : Cx} {body : List Stmt} {h0 : ExceptHandler} {hds : List ExceptHandler} {l : List Clause} {pos : Pos} {tb : WX → TS} {out : WX}
theorem ps_try_names (st : X.stack = X.env :: X.outer) (fr : X.env.frame = some X.env.locals) (nd : X.N.Nodup) (tk : Takes X out)
    (pb : ∀ (W : WX) (pn : List (Addr × Obj)) (xe : Value → Shared → Prop), Takes (X.tr pn xe) W → PassesOwn (model X.prog X.w) X.A X.env xe → PSs (X.tr pn xe) body (tb W)) (ph : HdN X (h0 :: hds) l) :
    PS X (.Try body (h0 :: hds) [] [] pos) (fun D σ H => tb (wNames X.K out D l) D σ H) := by
  constructor
  intro pins s σ H D inv hw
  have hok := inv.ok
  have frs' : X.A.frames = some (X.env :: X.outer) := by rw [hok.frames, st]
  refine wpAny_Try_except ?_
  refine wpAny_mono ((pb (wNames X.K out D l) (X.pn ++ pins) (noted X pins D (h0 :: hds)) (fun u t hx => ?caught) PassesOwn.looking).run [] s σ H D (inv.toTry _) hw) (fun f t sp => ?through) (fun e t he => he)
  case through =>
    cases f with
    | next =>
      obtain ⟨σ2, H2, J, q⟩ := sp
      exact wpAny_execs_nil ⟨σ2, H2, J.ofTry hok, q⟩
    | ret u =>
      obtain ⟨v, σ2, H2, J, r, q⟩ := sp
      exact ⟨v, σ2, H2, J.ofTry hok, r, q⟩
    | brk =>
      obtain ⟨σ2, H2, J, q⟩ := sp
      exact ⟨σ2, H2, J.ofTry hok, q⟩
    | cont =>
      obtain ⟨σ2, H2, J, q⟩ := sp
      exact ⟨σ2, H2, J.ofTry hok, q⟩
  case caught =>
    obtain ⟨a, B, s1, pins1, σ2, H2, cls, dx, rfl, I1, nB, up1, sk, aN, hos, hbare, wish⟩ := hx
    have I2 : Inv X pins σ2 H2 s1 := I1.ofTry hok
    have sk2 : Sky B (X.env :: X.outer) a (Zc cls dx) X.env.locals t.heap := st ▸ sk
    show wpAny (model X.prog X.w) X.A (noteFrame (.ref a) X.env) _ _ _
    refine Sky.land Zc.steady frs' fr sk2 fun g fly up2 => ?_
    have I3 : Inv X pins σ2 H2 { t with heap := g } := I2.landed nB fly.1 (up1.trans up2) hos hbare
    obtain ⟨o3, vs3, at3, z3, f3⟩ := fly.there
    have out3 : a ∉ frs (X.env :: X.outer) := fun hm => by
      obtain ⟨_, o', e', nf⟩ := fly.2.2.1.mem hm
      rw [at3] at e'
      cases e'
      exact nf _ f3
    have na1 : a ≠ X.env.locals := fun z => out3 (List.mem_filterMap.mpr ⟨X.env, List.mem_cons_self, by rw [fr, z]⟩)
    have na2 : a ∉ X.fs := fun hm => by
      obtain ⟨e, he, q⟩ := List.mem_filterMap.mp hm
      exact out3 (List.mem_filterMap.mpr ⟨e, List.mem_cons_of_mem _ he, q⟩)
    have I4 := I3.suite at3 f3 aN na1 na2
    have key : ∀ {hds1 : List ExceptHandler} {l1 : List Clause}, HdN X hds1 l1 → wNames X.K out D l1 cls dx σ2 H2 → toDo X pins D hds1 (.ref a) { t with heap := g } := by
      intro hds1 l1 hk
      induction hk with
      | nil =>
        intro w1
        refine wpAny_handleBy_nil ?_
        obtain ⟨_, _, _, _, _, T, _, _, e1, _, e2, e3, _⟩ := id fly
        unfold PySem.passOn
        refine wpAny_bind (wpAny_field e1 e2 e3 ?_)
        rw [if_neg (show ¬ ((Value.ref T == Value.none) = true) from by simp)]
        have leave : wpAny (model X.prog X.w) X.A (setFlight (.ref a) X.env.frame) (fun _ t2 => wpAny (model X.prog X.w) X.A (throw (.ref a) : Sem Flow) (SP X pins D) X.xe t2) X.xe { t with heap := g } := by
          rw [fr]
          exact HandSPX.setFlight_upZ fly fun g2 held up3 => wpAny_throw (tk _ _ ⟨a, B, s1, pins, σ2, H2, cls, dx, rfl, I2, nB, (up1.trans up2).trans up3, .inr (.inr (st ▸ held)), aN, hos, hbare, w1⟩)
        first
          | exact wpAny_bind leave
          | exact wpAny_bind (wpAny_pure (wpAny_bind leave))
      | @cons x n c i ts b0 bs p1 p2 hds2 l2 hi hloc hc hsu _ ih =>
        intro w1
        obtain ⟨b, m1, yes, no⟩ := w1
        unfold toDo
        refine wpAny_handleBy_cons (codeAny_handlers_test ?_) (by intro q; cases q)
        have look : PySem.W.Looks (model X.prog X.w) g (typeOf (.ref a)) cls := fun A Q E s k q => wpAny_typeOf_ref (k _ _ at3) (by rw [z3.1]; exact q)
        have match_ := PySem.W.exm_one (M := model X.prog X.w) I3.kIn look m1
        have name_ : ∀ {Q E : Value → Shared → Prop}, Q c { t with heap := g } → wpAny (model X.prog X.w) (X.A.mark (some (.ref a))) (eval (.Name x p1) X.env) Q E { t with heap := g } := fun {Q E} q => by
          obtain ⟨h1, h2, h3 | ⟨h3, h4, h5⟩⟩ := hc
          · exact ld_glob (X := X.suite a ((a, o3) :: (X.pn ++ pins))) I4 h1 h3 q h2
          · exact ld_blt (X := X.suite a ((a, o3) :: (X.pn ++ pins))) I4 h1 h3 h4 q h5 h2
        refine name_ (match_.here ?_)
        cases b with
        | false => exact ih (no rfl)
        | true =>
          refine codeAny_handlers_suite_as ?_
          refine HandSPX.lands_againZ fly fun g4 fly4 up4 => ?_
          have I5 : Inv X pins σ2 H2 { t with heap := g4 } := I2.landed nB fly4.1 ((up1.trans up2).trans up4) hos hbare
          obtain ⟨o4, vs4, at4, z4, f4⟩ := fly4.there
          refine store_ok (X := X.suite a ((a, o4) :: (X.pn ++ pins))) (v := .ref a) (I5.suite at4 f4 aN na1 na2) nd hi (.inl hloc) rfl (fun s5 I6 => ?_) (.inr hloc)
          refine wpAny_mono ((hsu a o4 cls dx (X.pn ++ pins) z4 ⟨_, f4⟩).run [] s5 _ H2 _ I6 (yes rfl a aN)) (fun f s6 sp => ?_) (fun _ _ z => False.elim z)
          have gone : ∀ {σ6 : L2.St} {H6 : Hp} {Q : Shared → Prop}, Inv (X.suite a ((a, o4) :: (X.pn ++ pins))) [] σ6 H6 s6 → (∀ s7, Inv X pins (σ6.set i none) H6 s7 → Q s7) →
              wpAny (model X.prog X.w) X.A (do bindName X.env n .none; unbindBehindTheSuite X.env n p2) (fun _ s7 => Q s7) X.xe s6 := fun {σ6 H6 Q} z hq => gone_ok (z.unsuite hok) nd hi hloc hq
          cases f with
          | next =>
            obtain ⟨σ6, H6, z6, q6⟩ := sp
            exact gone z6 fun s7 z7 => ⟨_, _, z7, q6⟩
          | ret u =>
            obtain ⟨v6, σ6, H6, z6, r6, q6⟩ := sp
            exact gone z6 fun s7 z7 => ⟨_, _, _, z7, r6, q6⟩
          | brk =>
            obtain ⟨σ6, H6, z6, q6⟩ := sp
            exact gone z6 fun s7 z7 => ⟨_, _, z7, q6⟩
          | cont =>
            obtain ⟨σ6, H6, z6, q6⟩ := sp
            exact gone z6 fun s7 z7 => ⟨_, _, z7, q6⟩
    exact key ph wish
end
/-! ### the clauses return a value each -/
structure Cl where
  i : Nat
  cat : Str → Option Bool
  f : Str → XF
def catchN (c : Str) (fs : List (Str × D)) (s : DSt) : List Cl → SO
  | [] => .err c fs s
  | q :: r => match q.cat c with
    | some true => match q.f c fs with
      | some d => if q.i < s.length then .ret (.v d) (s.set q.i .no) else .bad
      | none => .bad
    | some false => catchN c fs s r
    | none => .bad
def mTryN (body : MS) (cs : List Cl) : MS := fun σ => match body σ with
  | .err c fs s => catchN c fs s cs
  | r => r
section
variable {X : Cx} {body : List Stmt} {m1 : MS} {pos : Pos}
/-- a clause's wish -/
def tsR (p : Par) (q : Cl) : Addr → Value → Option Addr → TS := fun a cls d D σv H => ∃ C c dx F fs d', cls = .ref C ∧ d = some dx ∧ p.mg c = some (.ref C) ∧ XS p q.i a dx F σv H fs ∧ q.f c fs = some d' ∧ ∀ v F' H', New F H F' H' → DV p F' H' v d' → D.rt v H'
inductive ClN (X : Cx) : List ExceptHandler → List Cl → List Clause → Prop
  | nil : ClN X [] [] []
  | cons {x n : Str} {cv : Value} {q : Cl} {e : Expr} {np pos' pos'' : Pos} {hds : List ExceptHandler} {cs : List Cl} {l : List Clause} : X.N[q.i]? = some n → X.env.kindOf n = some .local → Names X x cv →
      (∀ c b C, q.cat c = some b → X.mg c = some (.ref C) → PySem.W.exmOne X.K (.ref C) cv = some b) → SX X q.i e q.f → ClN X hds cs l →
      ClN X (.ExceptHandler (some (.Name x np)) (some n) [.Return (some e) pos''] pos' :: hds) (q :: cs) ((cv, q.i, tsR (Cx.par X) q) :: l)
theorem ClN.hd {hds : List ExceptHandler} {cs : List Cl} {l : List Clause} (h : ClN X hds cs l) : HdN X hds l := by
  induction h with
  | nil => exact .nil
  | cons hi hl hc hcat hx _ ih =>
    refine .cons hi hl hc (fun a oe cls d pn hz hv => ⟨fun pins s σv H D I hw => ?_⟩) ih
    obtain ⟨C, c, dx, F, fs, d', e1, e2, hm, xs, hf, k⟩ := hw
    subst e1 e2
    exact (pss_one (ps_ret (hx a oe dx C c pn hm hz hv))).run pins s σv H D I ⟨F, fs, d', xs, hf, k⟩
theorem ClN.wish {p : Par} {W : WX} {En : Ends} {B : Ent} {F F' : Addr → Prop} {σv σv' : L2.St} {H H' : Hp} {c : Str} {fs : List (Str × D)} {s : DSt} (hp : p = Cx.par X) {hds : List ExceptHandler} {cs : List Cl} {l : List Clause} (h : ClN X hds cs l) {dx C : Addr}
    (hw : coreS p W En B F σv H (catchN c fs s cs)) (r' : Rel p B F' σv' H' s) (x' : Ext F H F' H') (hm : X.mg c = some (.ref C)) (xd : XdR p F' H' dx fs) : wNames X.K W En l (.ref C) (some dx) σv' H' := by
  subst hp
  induction h with
  | nil => exact hw σv' F' H' dx C r' x' hm xd
  | @cons x n cv q e np p1 p2 hds cs l hi hl hc hcat hx _ ih =>
    unfold catchN at hw
    cases hcc : q.cat c with
    | none =>
      rw [hcc] at hw
      exact hw.elim
    | some b =>
      rw [hcc] at hw
      refine ⟨b, hcat c b C hcc hm, fun hb1 a ha => ?_, fun hb1 => ?_⟩
      · subst hb1
        have hw : coreS (Cx.par X) W En B F σv H (match q.f c fs with | some d => if q.i < s.length then .ret (.v d) (s.set q.i .no) else .bad | none => .bad) := hw
        cases hf : q.f c fs with
        | none =>
          rw [hf] at hw
          exact hw.elim
        | some d =>
          rw [hf] at hw
          have hw : coreS (Cx.par X) W En B F σv H (if q.i < s.length then .ret (.v d) (s.set q.i .no) else .bad) := hw
          by_cases hlt : q.i < s.length
          · rw [if_pos hlt] at hw
            refine ⟨C, c, dx, F', fs, d, rfl, rfl, hm, ⟨r'.dom, by rw [List.getElem?_set_self (by rw [← r'.len]; exact hlt)], xd⟩, hf, fun v F2 H2 n2 dv => ?_⟩
            exact hw v (σv'.set q.i (some (.ref a))) F2 H2 ((r'.drop q.i (some (.ref a))).new n2) (x'.trans (n2.ext r'.dom)) dv
          · rw [if_neg hlt] at hw
            exact hw.elim
      · subst hb1
        exact ih hw
theorem ss_tryN {h0 : ExceptHandler} {hds : List ExceptHandler} {cs : List Cl} {l : List Clause} (st : X.stack = X.env :: X.outer) (fr : X.env.frame = some X.env.locals) (nd : X.N.Nodup) (ph : ClN X (h0 :: hds) cs l) (hb : Trb X fun Y => SSs Y body m1) :
    SS X (.Try body (h0 :: hds) [] [] pos) (mTryN m1 cs) := by
  intro W tk
  refine PS.imp (ps_try_names (tb := fun W' => rdS (Cx.par X) W' m1) st fr nd tk (fun W' pn xe tk' po => hb pn xe po W' tk') ph.hd) fun D σv H ⟨B, F, σ, r, h⟩ => ⟨B, F, σ, r, ?_⟩
  unfold mTryN at h
  cases em : m1 σ with
  | nx s =>
    rw [em] at h
    exact h
  | brk s =>
    rw [em] at h
    exact h
  | cont s =>
    rw [em] at h
    exact h
  | ret d s =>
    rw [em] at h
    exact h
  | bad =>
    rw [em] at h
    exact h
  | err c fs s =>
    rw [em] at h
    exact fun σv' F' H' dx C r' x' hm xd => ph.wish rfl h r' x' hm xd
end
end DL
end

section
set_option Elab.async false
set_option linter.all false
set_option maxRecDepth 100000
set_option maxHeartbeats 4000000
set_option autoImplicit false
/-! DL26: defaults left out, tuples of the module, x in a tuple. -/
namespace DL
open PySem L2
open PySem.W (Frag)
/-! defaults -/
structure HasD (P : Program) (w : World) (K : Frag) (mg : Str → Option Value) (base : Heap) (k : Nat) (x : Str) (ps : List Str) (dds : List D) (fm : List D → R0 Rt) : Prop where
  ex : ∃ f fd dvs ds, mg x = some (.ref f) ∧ FnG P w K mg base k f fd ps (FSp ⟨K, mg⟩ fm) ∧ PySem.W.keepIn K (.ref f) = true ∧ Binds K fd ps ds ∧ Vals dvs ds ∧ Scal dvs dds
section
variable {P : Program} {w : World} {K : Frag} {mg : Str → Option Value} {base : Heap} {x : Str} {st : Stmt} {f : Addr} {fd : FuncData} {ps : List Str} {j k : Nat} {fm : List D → R0 Rt} {dds : List D} {dvs : List V} {ds : List Value}
theorem hasD_mk (F : Fd K x st f fd) (hm : mg x = some (.ref f)) (G : FnG P w K mg base k f fd ps (FSp ⟨K, mg⟩ fm)) (hb : Binds K fd ps ds) (hv : Vals dvs ds) (hs : Scal dvs dds) : HasD P w K mg base k x ps dds fm := ⟨f, fd, dvs, ds, hm, G, F.kp, hb, hv, hs⟩
theorem HasD.up (h : HasD P w K mg base j x ps dds fm) (l : j ≤ k) : HasD P w K mg base k x ps dds fm := by
  obtain ⟨f, fd, dvs, ds, a, b, c⟩ := h.ex
  exact ⟨f, fd, dvs, ds, a, b.mono l, c⟩
variable {T : Addr} {tc : Value} {td : Option Addr} {tn : Nat} {tsl : Array (Option Value)}
/-- a def with defaults, some of them left out -/
theorem binds_dn {its : Array Value} (lT : K.lookup T = some ⟨tc, td, .seq its tn, tsl⟩) (h : ∀ us : List Value, (us ++ ds).length = ps.length → ∃ k, bindArgs fd ⟨us, []⟩ = seqItems? (.ref T) >>= k ∧ k (some its) = pure (ps.zip (us ++ ds))) : Binds K fd ps ds := fun s us kin hl => by
  obtain ⟨k, e1, e2⟩ := h us hl
  refine BindsTo.of_looks fun M => ?_
  rw [e1]
  exact looks_items kin lT rfl (.of_pure e2)
end
section
variable {X : Cx} {k : Nat} {x y : Str} {ps : List Str} {fm : List D → R0 Rt} {q pos : Pos} {e : Expr} {es : List Expr} {ms : M (List D)} {dds : List D} {a b : Expr} {ma mb : M D}
theorem cHD (h : HasD X.prog X.w X.K X.mg X.base k x ps dds fm) (hr : Room k X.A) (hgd : X.A.guards = some []) (ha : SA X (e :: es) ms) (hg : Gl X x := by rfl) (hdb : (x == ("__debug__" : Str)) = false := by decide)
    (he : starEach (e :: es) X.env = (false, eval e X.env) :: starEach es X.env := by rfl) (hpl : (backTo pos (starEach es X.env)).any (·.1) = false := by rfl) : SE X (.Call (.Name x q) (e :: es) [] pos) (mCall fm dds ms) := by
  obtain ⟨f, fd, dvs, ds, m, g, kp, bd, vl, sc⟩ := h.ex
  exact se_call g hr hgd hg m kp bd vl sc ha hdb he hpl
/-! tuples of the module -/
/-- a name of the module that holds a written tuple -/
def GlT (K : Frag) (mg : Str → Option Value) (y : Str) (ds : List D) : Prop := ∃ a, mg y = some (.ref a) ∧ ∀ F H, DV ⟨K, mg⟩ F H (.ref a) (.tup ds)
theorem gT {ds : List D} (h : GlT X.K X.mg y ds) (hg : Gl X y := by rfl) (hd : (y == ("__debug__" : Str)) = false := by decide) : SE X (.Name y pos) (mC (.tup ds)) := by
  obtain ⟨a, h1, h2⟩ := h
  exact se_c (v := .ref a) (pe_glob hg h1 rfl hd) fun F H => h2 F H
inductive Flats (p : Par) (F : Addr → Prop) (H : Hp) : List V → List Value → List D → Prop
  | nil : Flats p F H [] [] []
  | cons {v : V} {u : Value} {d : D} {vs : List V} {us : List Value} {ds : List D} : RelV v u → DV p F H v d → Flats p F H vs us ds → Flats p F H (v :: vs) (u :: us) (d :: ds)
theorem Flats.vals {p : Par} {F : Addr → Prop} {H : Hp} : ∀ {vs : List V} {us : List Value} {ds : List D}, Flats p F H vs us ds → Vals vs us
  | _, _, _, .nil => .nil
  | _, _, _, .cons a _ c => .cons a (Flats.vals c)
theorem Flats.dvs {p : Par} {F : Addr → Prop} {H : Hp} : ∀ {vs : List V} {us : List Value} {ds : List D}, Flats p F H vs us ds → DVs p F H vs ds
  | _, _, _, .nil => .nil
  | _, _, _, .cons _ b c => .cons b (Flats.dvs c)
theorem fl_str {p : Par} {F : Addr → Prop} {H : Hp} {x : Str} {t : Tok} {vs : List V} {us : List Value} {ds : List D} (h : Flats p F H vs us ds) : Flats p F H (.str x :: vs) (.str x t :: us) (.str x :: ds) := .cons ⟨t, rfl⟩ (.str x) h
theorem fl_int {p : Par} {F : Addr → Prop} {H : Hp} {x : Int} {t : Tok} {vs : List V} {us : List Value} {ds : List D} (h : Flats p F H vs us ds) : Flats p F H (.int x :: vs) (.int x t :: us) (.int x :: ds) := .cons ⟨t, rfl⟩ (.int x) h
theorem glT_mk {K : Frag} {mg : Str → Option Value} {y : Str} {ds : List D} {a : Addr} {its : Array Value} {n : Nat} {sl : Array (Option Value)} {vs : List V} (hm : mg y = some (.ref a)) (l : K.lookup a = some ⟨.type "tuple", none, .seq its n, sl⟩) (hs : its.size ≤ sizeLine)
    (h : ∀ F H, Flats ⟨K, mg⟩ F H vs its.toList ds) : GlT K mg y ds := ⟨a, hm, fun F H => .tup (.inr ⟨_, its, n, l, rfl, rfl, hs, (h F H).vals⟩) (h F H).dvs⟩
/-! x in a tuple -/
def inT (x : D) (y : D) : Option D := match y with
  | .tup xs => if eqOk x && eqOk (.tup xs) then some (.bl (inL x xs)) else none
  | _ => none
def notInT (x : D) (y : D) : Option D := match y with
  | .tup xs => if eqOk x && eqOk (.tup xs) then some (.bl (!inL x xs)) else none
  | _ => none
def rInT (K : Frag) : R2 := fun x y H Q => ∃ d ds, Dp K H x d ∧ Dp K H y (.tuple ds) ∧ SeqAt.shaped d = true ∧ SeqAt.shaped (.tuple ds) = true ∧ Q (.bl (ds.any fun z => PyData.eqv z d)) H
def rNotInT (K : Frag) : R2 := fun x y H Q => ∃ d ds, Dp K H x d ∧ Dp K H y (.tuple ds) ∧ SeqAt.shaped d = true ∧ SeqAt.shaped (.tuple ds) = true ∧ Q (.bl (!ds.any fun z => PyData.eqv z d)) H
theorem room_in {d : PyData} {n : Nat} {A : Around} (h : SeqAt.shaped d = true) (hu : A.units + 65 < cLine) : A.units + 1 + min n d.depth < cLine := by
  have : d.depth ≤ 64 := of_decide_eq_true (Bool.and_eq_true_iff.mp h).2
  omega
theorem op_inT (hu : X.A.units + 65 < cLine) : OpR X (compareOp .In) (rInT X.K) := by
  intro pins s σ H x y v u Q I rx ry h
  obtain ⟨d, ds, hx, hy, sx, sy, q⟩ := h
  obtain ⟨_, r1⟩ := Dp.reads I d x v hx rx
  obtain ⟨_, r2⟩ := Dp.reads I (.tuple ds) y u hy ry
  exact SeqAt.in_tuple_reads r2 r1 (SeqAt.canLay_of_shaped sy) (SeqAt.canLay_of_shaped sx) (room_in sx hu) ⟨.bl _, H, I, rfl, q⟩
theorem op_notInT (hu : X.A.units + 65 < cLine) : OpR X (compareOp .NotIn) (rNotInT X.K) := by
  intro pins s σ H x y v u Q I rx ry h
  obtain ⟨d, ds, hx, hy, sx, sy, q⟩ := h
  obtain ⟨_, r1⟩ := Dp.reads I d x v hx rx
  obtain ⟨_, r2⟩ := Dp.reads I (.tuple ds) y u hy ry
  exact SeqAt.notIn_tuple_reads r2 r1 (SeqAt.canLay_of_shaped sy) (SeqAt.canLay_of_shaped sx) (room_in sx hu) ⟨.bl _, H, I, rfl, q⟩
theorem po_inT {p : Par} : PO2 p (rInT p.K) inT := by
  intro F H x y dx dy d Q hd hx hy hf k
  unfold inT at hf
  split at hf
  · split at hf
    · rename_i h
      cases hf
      obtain ⟨h1, h2⟩ := Bool.and_eq_true_iff.mp h
      obtain ⟨a1, a2⟩ := eqOk_of h1
      obtain ⟨b1, b2⟩ := eqOk_of h2
      have hl := hy.dp b1
      unfold toP at hl b2
      exact ⟨_, _, hx.dp a1, hl, a2, b2, po_same hd k (.bl _)⟩
    · cases hf
  · cases hf
theorem po_notInT {p : Par} : PO2 p (rNotInT p.K) notInT := by
  intro F H x y dx dy d Q hd hx hy hf k
  unfold notInT at hf
  split at hf
  · split at hf
    · rename_i h
      cases hf
      obtain ⟨h1, h2⟩ := Bool.and_eq_true_iff.mp h
      obtain ⟨a1, a2⟩ := eqOk_of h1
      obtain ⟨b1, b2⟩ := eqOk_of h2
      have hl := hy.dp b1
      unfold toP at hl b2
      exact ⟨_, _, hx.dp a1, hl, a2, b2, po_same hd k (.bl _)⟩
    · cases hf
  · cases hf
theorem oInT (hr : Room k X.A) (ha : SE X a ma) (hb : SE X b mb) (hm : behindInMarks .In b = false := by with_unfolding_all rfl) : SE X (.Compare a [.In] [b] pos) (mOp2 inT ma mb) := se_cmp (op_inT (u65 hr)) po_inT ha hb hm
theorem oNotInT (hr : Room k X.A) (ha : SE X a ma) (hb : SE X b mb) (hm : behindInMarks .NotIn b = false := by with_unfolding_all rfl) : SE X (.Compare a [.NotIn] [b] pos) (mOp2 notInT ma mb) := se_cmp (op_notInT (u65 hr)) po_notInT ha hb hm
theorem tInT' (hr : Room k X.A) (ha : SE X a ma) (hb : SE X b mb) (hm : behindInMarks .In b = false := by with_unfolding_all rfl) : ST X (.Compare a [.In] [b] pos) (mB (mOp2 inT ma mb)) := st_cmp (op_inT (u65 hr)) po_inT ha hb hm
theorem tNotInT' (hr : Room k X.A) (ha : SE X a ma) (hb : SE X b mb) (hm : behindInMarks .NotIn b = false := by with_unfolding_all rfl) : ST X (.Compare a [.NotIn] [b] pos) (mB (mOp2 notInT ma mb)) := st_cmp (op_notInT (u65 hr)) po_notInT ha hb hm
end
/-! which clause takes which error -/
def catN (x : Str) (ys : List Str) : Str → Option Bool := fun c => if c == x then some true else if ys.contains c then some false else none
section
variable {K : Frag} {P : Program} {mg : Str → Option Value} {x : Str} {C : Addr}
inductive NotD (K : Frag) (mg : Str → Option Value) (C : Addr) : List Str → Prop
  | nil : NotD K mg C []
  | cons {y : Str} {B : Addr} {ys : List Str} : mg y = some (.ref B) → PySem.W.exmOne K (.ref B) (.ref C) = some false → NotD K mg C ys → NotD K mg C (y :: ys)
theorem not_nil : NotD K mg C [] := .nil
theorem not_cons {y fy : Str} {B : Addr} {ys : List Str} (e : ErrC K P mg y fy B) (h : PySem.W.exmOne K (.ref B) (.ref C) = some false) (t : NotD K mg C ys) : NotD K mg C (y :: ys) := .cons e.mg h t
theorem NotD.at_ {ys : List Str} (h : NotD K mg C ys) {c : Str} {B : Addr} (hc : ys.contains c = true) (hm : mg c = some (.ref B)) : PySem.W.exmOne K (.ref B) (.ref C) = some false := by
  induction h with
  | nil => cases hc
  | @cons y B2 ys h1 h2 _ ih =>
    rw [List.contains_cons, Bool.or_eq_true] at hc
    rcases hc with e | e
    · have e2 : c = y := eq_of_beq e
      rw [e2, h1] at hm
      cases hm
      exact h2
    · exact ih e
theorem catN_ok {fx : Str} {ys : List Str} (e : ErrC K P mg x fx C) (n : NotD K mg C ys) : ∀ c b B, catN x ys c = some b → mg c = some (.ref B) → PySem.W.exmOne K (.ref B) (.ref C) = some b := by
  intro c b B h hm
  unfold catN at h
  split at h
  · rename_i hx
    cases h
    have e2 : c = x := eq_of_beq hx
    subst e2
    rw [e.mg] at hm
    cases hm
    exact e.self
  · split at h
    · rename_i hy
      cases h
      exact n.at_ hy hm
    · cases h
end
end DL
end

section
set_option Elab.async false
set_option linter.all false
set_option maxRecDepth 100000
set_option maxHeartbeats 4000000
set_option autoImplicit false
/-! DL27: a name that may be the frame's own list or data by then. -/
namespace DL
open PySem L2
def mEi {α : Type} (i : Nat) (m1 m2 : M α) : M α := fun σ => if isOwn i σ = true then m1 σ else m2 σ
section
variable {X : Cx} {e : Expr} {m1 m2 : M D} {t1 t2 : M Bool}
theorem rdX_ei {α β : Type} {p : Par} {W : WX} {P : Tel α β} {m1 m2 : M α} {σv : L2.St} {H : Hp} {Q : β → Hp → Prop} {G : Prop} (i : Nat) (h : rdX p W P (mEi i m1 m2) σv H Q) (h1 : rdX p W P m1 σv H Q → G) (h2 : rdX p W P m2 σv H Q → G) : G := by
  obtain ⟨B, F, σ, r, c⟩ := h
  unfold mEi at c
  by_cases ho : isOwn i σ = true
  · rw [if_pos ho] at c
    exact h1 ⟨B, F, σ, r, c⟩
  · rw [if_neg ho] at c
    exact h2 ⟨B, F, σ, r, c⟩
theorem se_ei (i : Nat) (h1 : SE X e m1) (h2 : SE X e m2) : SE X e (mEi i m1 m2) := fun W tk => ⟨fun pins s σ H Q I h => rdX_ei i h ((h1 W tk).run pins s σ H Q I) ((h2 W tk).run pins s σ H Q I)⟩
theorem st_ei (i : Nat) (h1 : ST X e t1) (h2 : ST X e t2) : ST X e (mEi i t1 t2) := fun W tk => ⟨fun pins s σ H Q I h => rdX_ei i h ((h1 W tk).run pins s σ H Q I) ((h2 W tk).run pins s σ H Q I)⟩
end
end DL
end

section
set_option Elab.async false
set_option linter.all false
set_option maxRecDepth 100000
set_option maxHeartbeats 4000000
set_option autoImplicit false
/-! DL28: more rows of the evaluation. -/
namespace DL
open PySem L2
section
variable {α : Type} {i : Nat} {m1 m2 : M α} {σ : DSt} {x : D} {xs : List D}
theorem z_ei : mEi i m1 m2 σ = if isOwn i σ = true then m1 σ else m2 σ := rfl
theorem z_inT (h1 : okN 60 x = true) (h2 : oksN 59 xs = true) : inT x (.tup xs) = some (.bl (inL x xs)) := by
  have h3 : okN 60 (.tup xs) = true := by rw [k_tup]; exact h2
  show (if eqOk x && eqOk (.tup xs) then some (D.bl (inL x xs)) else none) = _
  rw [eqOk_n h1, eqOk_n h3]
  rfl
theorem z_notInT (h1 : okN 60 x = true) (h2 : oksN 59 xs = true) : notInT x (.tup xs) = some (.bl (!inL x xs)) := by
  have h3 : okN 60 (.tup xs) = true := by rw [k_tup]; exact h2
  show (if eqOk x && eqOk (.tup xs) then some (D.bl (!inL x xs)) else none) = _
  rw [eqOk_n h1, eqOk_n h3]
  rfl
end
end DL
end

section
set_option Elab.async false
set_option linter.all false
set_option maxRecDepth 100000
set_option maxHeartbeats 4000000
set_option autoImplicit false
/-! DL29: enumerate of a tuple or a list. -/
namespace DLz
open PySem PySem.Spec PyProof.Rows
open PySem.AutoSeq1 in
theorem meets_enum_tup (t : Addr) (its : Array Value) :
    Meets (Builtin.«enumerate.__new__» ⟨[.type "enumerate", .ref t], []⟩) (fun _ R s => s.heap.IsTuple t its ∧
      R (.ok (.ret (.ref (s.heap.push { cls := .type "tuple_iterator", data := .fields #[.ref t, .int 0 0] }).objs.size)))
        { s with heap := (s.heap.push { cls := .type "tuple_iterator", data := .fields #[.ref t, .int 0 0] }).push { cls := .type "enumerate", data := .fields #[.none, .bool false, .ref s.heap.objs.size, rawInt 0, .none, .none] } }) :=
  .of_wp fun prog w A R s h => by
    obtain ⟨hp, g, d, tk, os⟩ := s
    obtain ⟨ht, h⟩ := h
    have hsub := sub_enumerate
    have hT : Heap.IsTuple (Shared.heap ⟨hp, g, d, tk, os⟩) t its := ht
    obtain ⟨ot, et, _⟩ := id hT
    have hl : (Shared.heap ⟨hp, g, d, tk, os⟩).get? t = some ot := et
    wp_walk using wpAny_loadPart' hl
    refine wpAny_stack_any fun st => wpAny_pure ?_
    split
    · rename_i c _ _ _ _ _
      cases (c == Value.type "enumerate")
      · wp_walk using wpAny_loadPart' hl, wpAny_pyIter_tuple hT
        exact ⟨_, rfl, h⟩
      · wp_walk using wpAny_loadPart' hl, wpAny_pyIter_tuple hT
        exact ⟨_, rfl, h⟩
    · wp_walk using wpAny_loadPart' hl, wpAny_pyIter_tuple hT
      exact ⟨_, rfl, h⟩
theorem call_enum_tup {prog : Program} {w : World} {A : Around} {E : Value → Shared → Prop} {s : Shared} {t : Addr} {its : Array Value} {Q : Value → Shared → Prop} (ht : s.heap.IsTuple t its)
    (k : ∀ g, IsEnum g (s.heap.objs.size + 1) s.heap.objs.size 0 .none → g.IsTupleIter s.heap.objs.size t 0 → (∀ b o, s.heap.get? b = some o → g.get? b = some o) → Q (.ref (s.heap.objs.size + 1)) { s with heap := g }) :
    wpAny (model prog w) A (call (.type "enumerate") [.ref t]) Q E s := by
  refine callType_new F.called_enumerate (by decide) (F.typeCall_enumerate_1 _) (F.newCall_enumerate_1 _) (fun obj => F.args_object_init_2 obj _) F.entry_enumerate_new (meets_enum_tup t its) ⟨ht, ?_⟩
  have sz : (s.heap.push { cls := .type "tuple_iterator", data := .fields #[.ref t, .int 0 0] }).objs.size = s.heap.objs.size + 1 := Heap.size_push ..
  show _ ∧ _
  rw [sz]
  have he : IsEnum ((s.heap.push { cls := .type "tuple_iterator", data := .fields #[.ref t, .int 0 0] }).push { cls := .type "enumerate", data := .fields #[.none, .bool false, .ref s.heap.objs.size, rawInt 0, .none, .none] }) (s.heap.objs.size + 1) s.heap.objs.size 0 .none := by
    have z := Heap.get?_push_size (s.heap.push { cls := .type "tuple_iterator", data := .fields #[.ref t, .int 0 0] }) (o := { cls := .type "enumerate", data := .fields #[.none, .bool false, .ref s.heap.objs.size, rawInt 0, .none, .none] }) rfl
    rw [sz] at z
    exact z
  exact ⟨⟨_, he, rfl⟩, k _ he ⟨_, Heap.get?_push_of_some _ (Heap.get?_push_size _ rfl), rfl, rfl⟩ fun b o x => Heap.get?_push_of_some _ (Heap.get?_push_of_some _ x)⟩
end DLz
namespace DLz
open PySem L2 PyProof.Rows
/-- the tuple at a, item by item, with the number -/
def Itet (K : PySem.W.Frag) (a : Addr) : It :=
  ⟨fun i H => ∃ (xs : List V) (x : V), SqT K H a xs ∧ xs[i]? = some x, fun i H v H' => ∃ T x, v = .ref T ∧ H T = none ∧ H' = upd H T (.tup [.int (i : Nat), x]) ∧ ∀ xs, SqT K H a xs → xs[i]? = some x, fun i H => ∃ xs : List V, SqT K H a xs ∧ xs.length = i⟩
theorem two {a b c : Addr} : c ∈ [a, b] ↔ c = a ∨ c = b := by simp
theorem turn_enumT {P : Program} {w : World} {K : PySem.W.Frag} {elts : List Expr} {kk : Nat} {tpos : Pos} {a n : Addr} (ha : a < n) :
    Turn P w K (.Tuple elts kk tpos) (Itet K a) [n + 1, n] (n + 1) (fun i h => (∃ old, IsEnum h (n + 1) n ((i : Nat) : Int) old) ∧ h.IsTupleIter n a i) where
  mem := by simp
  obj := fun i h st b hb => by
    obtain ⟨⟨old, he⟩, o, ho, _, hd⟩ := st
    rcases two.mp hb with z | z <;> rw [z]
    · exact ⟨_, he, fun v q => nomatch q⟩
    · exact ⟨o, ho, fun v q => by rw [hd] at q; cases q⟩
  keep := fun i h h' st k => ⟨⟨st.1.choose, k (n + 1) (by simp) _ st.1.choose_spec⟩, st.2.at fun o q => k n (by simp) o q⟩
  self := fun A i s Q E st h => wpAny_pyIter_enum st.1.choose_spec h
  item := by
    intro X hP hw hK hc i pins s σ H E I hf st hg
    subst hP hw hK
    obtain ⟨⟨old, he⟩, hit⟩ := st
    obtain ⟨xs, x, hq, hx⟩ := hg
    obtain ⟨its, rv, p, _⟩ := I.tuple hq
    obtain ⟨u, hu, ru⟩ := rv.get hx
    have hi : i < its.toArray.size := by
      have := (List.getElem?_eq_some_iff.mp hu).1
      simpa using this
    have hel : n + 1 < s.heap.objs.size := Heap.lt_size he
    have Dr := Draws.tuple (prog := X.prog) (w := X.w) (A := X.A.in1) (by first | exact I.ok.hd hc | rfl) n a (Nat.ne_of_lt ha) its.toArray
    refine wpAny_pyNext_enum_itemD (i := i) Dr he ⟨hit, p⟩ hi (Nat.succ_ne_self n) (fun z => by
      rcases two.mp z with z | z
      · exact absurd z (Nat.succ_ne_self n)
      · exact absurd z (Nat.ne_of_gt (Nat.lt_succ_of_lt ha))) fun y h' tk hy ho st' hT hsz hk => ?_
    have ey : y = u := by
      have hy' : its.toArray[i]? = some y := hy
      have e2 : its.toArray[i]? = its[i]? := by simp
      rw [e2, hu] at hy'
      exact (Option.some.inj hy').symm
    subst ey
    refine ⟨_, rfl, wpAny_letOwnedTupleGo_enum (s := { s with heap := h', toks := tk + 1 }) ho fun h'' he' sb => ?_⟩
    have hT2 : h''.get? s.heap.objs.size = some { cls := .type "tuple", data := .seq #[.int i tk, y] } := (sb.2 _ (Nat.ne_of_gt hel)).trans hT
    have new : ObjOk X.prog X.w (upd H s.heap.objs.size (.tup [.int (i : Nat), x])) h'' s.heap.objs.size (.tup [.int (i : Nat), x]) := ⟨by show 2 ≤ sizeLine; decide, [.int i tk, y], .cons ⟨_, rfl⟩ (.cons ru .nil), ⟨_, hT2, rfl, _, rfl⟩⟩
    have I1 : Inv X pins σ (upd H s.heap.objs.size (.tup [.int (i : Nat), x])) { s with heap := h'', toks := tk + 1 } :=
      I.turnedNew (ch := [n + 1, n]) (fun b ob hb q => (sb.2 b (fun z => hb (two.mpr (.inl z)))).trans (hk b ob (fun z => hb (two.mpr (.inl z))) (fun z => hb (two.mpr (.inr z))) q)) hf (Nat.le_refl _) new
    refine ⟨.ref s.heap.objs.size, _, I1, rfl, ⟨_, x, rfl, I.hok.fresh (Nat.le_refl _), rfl, fun ys hy => by rw [I.tuple_inj hy hq]; exact hx⟩, ⟨⟨y, ?_⟩, st'.1.at fun o q => (sb.2 n (Ne.symm (Nat.succ_ne_self n))).trans q⟩, fun b hb => ?_⟩
    · have e1 : ((i + 1 : Nat) : Int) = (i : Int) + 1 := by omega
      rw [e1]
      exact he'
    · have hb' : b < s.heap.objs.size := by
        rcases two.mp hb with z | z <;> rw [z]
        · exact hel
        · exact Nat.lt_of_succ_lt hel
      rw [upd_ne (Nat.ne_of_lt hb')]
      exact (hf b hb).1
  done := by
    intro X hP hw hK hc i pins s σ H E I hf st hg
    subst hP hw hK
    obtain ⟨⟨old, he⟩, hit⟩ := st
    obtain ⟨xs, hq, hx⟩ := hg
    obtain ⟨its, rv, p, _⟩ := I.tuple hq
    obtain ⟨f0, f1, f2, f3, f4, f5⟩ := hf n (by simp)
    have hl := rv.length
    have e1 : i = its.toArray.size := by simp; omega
    subst e1
    have Dr := Draws.tuple (prog := X.prog) (w := X.w) (A := X.A.in1) (by first | exact I.ok.hd hc | rfl) n a (Nat.ne_of_lt ha) its.toArray
    exact wpAny_pyNext_enum_endD Dr he ⟨hit, p⟩ fun h' eb => ⟨rfl, I.turned (t' := s.toks) (fun b o hb q => eb b o hb q) f0 f1 f3 f4 f5⟩
def iEnum2 (K : PySem.W.Frag) (ta : TA) : TI := fun σ H R => ta σ H fun vs H1 => ∃ a xs, vs = [.ref a] ∧ ((SqL K H1 a xs ∧ R (Ite K a) H1) ∨ (SqT K H1 a xs ∧ R (Itet K a) H1))
theorem pi_enum2 {X : Cx} {e : Expr} {ta : TA} {p pos tpos : Pos} {elts : List Expr} {kk : Nat} (hg : Gl X "enumerate") (hm : X.mg "enumerate" = none) (ha : PA X [e] ta) (hs : starEach [e] X.env = [(false, eval e X.env)] := by rfl) :
    PI X (.Tuple elts kk tpos) (.Call (.Name "enumerate" p) [e] [] pos) (iEnum2 X.K ta) := by
  constructor
  intro pins s σ H R I h
  refine Call_ (ld_blt I hg hm boot_enumerate (PyProof.Rows.callWith_type1 (thn (ha.run pos pins s σ H _ I h) fun us s1 ⟨vs, H1, I1, r1, a, xs, ex, q⟩ => ?_) hs rfl))
  subst ex
  cases r1 with
  | cons r rr =>
    cases rr
    cases r
    have fresh : ∀ b ∈ [s1.heap.objs.size + 1, s1.heap.objs.size], s1.heap.objs.size ≤ b := fun b hb => by
      rcases two.mp hb with z | z <;> rw [z]
      · exact Nat.le_succ _
      · exact Nat.le_refl _
    rcases q with ⟨hq, q⟩ | ⟨hq, q⟩
    · obtain ⟨its, rv, pl, _⟩ := I1.list hq
      refine call_enumerate_list pl.isList fun g he hit sz k => wpAny_pyIter_enum he ?_
      exact ⟨s1.heap.objs.size + 1, [s1.heap.objs.size + 1, s1.heap.objs.size], _, _, H1, rfl, I1.kept (t' := s1.toks) k, turn_enum a (s1.heap.objs.size + 1) s1.heap.objs.size, ⟨⟨.none, he⟩, hit, Nat.succ_ne_self _⟩, fun b hb => I1.fpOk (fresh b hb) (I1.hok.fresh (fresh b hb)), q⟩
    · obtain ⟨its, rv, pt, _⟩ := I1.tuple hq
      have la : a < s1.heap.objs.size := by
        obtain ⟨_, e, _⟩ := id pt
        exact Heap.lt_size e
      refine call_enum_tup pt fun g he hit k => wpAny_pyIter_enum he ?_
      exact ⟨s1.heap.objs.size + 1, [s1.heap.objs.size + 1, s1.heap.objs.size], _, _, H1, rfl, I1.kept (t' := s1.toks) k, turn_enumT la, ⟨⟨.none, he⟩, hit⟩, fun b hb => I1.fpOk (fresh b hb) (I1.hok.fresh (fresh b hb)), q⟩
end DLz
namespace DL
open PySem L2
def enum2? : List D → Option (List D)
  | [.lst xs] => some (enums xs)
  | [.tup xs] => some (enums xs)
  | _ => none
section
variable {X : Cx} {a : Expr} {ms : M (List D)} {p : Par} {F : Addr → Prop} {H : Hp}
theorem yld_enumT {a : Addr} {vs : List V} {ds : List D} (g1 : SqT p.K H a vs) (g2 : DVs p F H vs ds) : Yld p F H (DLz.Itet p.K a) (enums ds) := fun F2 H2 x2 d2 i => by
  rw [enums_get, enums_length]
  refine ⟨fun d e => ?_, fun e => ?_⟩
  · obtain ⟨d0, e0, e1⟩ := Option.map_eq_some_iff.mp e
    subst e1
    obtain ⟨v, ev, dv⟩ := g2.get e0
    refine ⟨⟨vs, v, sqT_ext x2 g1, ev⟩, fun x H3 y => ?_⟩
    obtain ⟨T, x1, e3, hT, e4, e5⟩ := y
    subst e3
    have z := e5 vs (sqT_ext x2 g1)
    rw [ev] at z
    cases z
    have n : New F2 H2 F2 (upd H2 T (.tup [.int (i : Nat), v])) := New.tup d2 hT
    refine ⟨F2, by rw [e4]; exact n, ?_⟩
    rw [e4]
    exact .tup (.inl (.inl upd_same)) (.cons (.int _) (.cons ((dv.ext x2).ext (n.ext d2)) .nil))
  · exact ⟨vs, sqT_ext x2 g1, by rw [e, g2.length]⟩
theorem si_enum2 {es : List Expr} {kk : Nat} {q1 tpos pos : Pos} (hg : Gl X "enumerate") (hm : X.mg "enumerate" = none) (ha : SA X [a] ms) (hs : starEach [a] X.env = [(false, eval a X.env)] := by rfl) :
    SI X (.Tuple es kk tpos) (.Call (.Name "enumerate" q1) [a] [] pos) (mIt enum2? ms) :=
  fun W tk => PI.imp (DLz.pi_enum2 hg hm (ha W tk) hs) fun σv H R ⟨B, F, σ, r0, h⟩ => (rd1 (P := tA (Cx.par X)) r0 h).imp fun vs H1 ⟨F1, s1, ds, r1, e1, v1, h1⟩ => by
    obtain ⟨xs, hx, h1⟩ := core_opt (P := tI (Cx.par X)) h1
    unfold enum2? at hx
    split at hx
    · cases hx
      cases v1 with
      | cons g1 g2 =>
        cases g2
        cases g1 with
        | @lst q vs' _ g3 g4 => exact ⟨q, vs', rfl, .inl ⟨g3.sq, core_ok (P := tI (Cx.par X)) r1 h1 (yld_enum g3 g4)⟩⟩
    · cases hx
      cases v1 with
      | cons g1 g2 =>
        cases g2
        cases g1 with
        | @tup q vs' _ g3 g4 => exact ⟨q, vs', rfl, .inr ⟨g3, core_ok (P := tI (Cx.par X)) r1 h1 (yld_enumT g3 g4)⟩⟩
    · cases hx
end
end DL
end

section
set_option Elab.async false
set_option linter.all false
set_option maxRecDepth 100000
set_option maxHeartbeats 4000000
set_option autoImplicit false
/-! DL30: more rows of the evaluation. -/
namespace DL
open PySem L2
/-- numbered things, from k on -/
def enumF (ds : List D) (k : Nat) : List D := (ds.zipIdx k).map fun (d, (i : Nat)) => D.tup [.int i, d]
section
variable {d : D} {xs : List D} {k : Nat}
theorem z_enL : enum2? [.lst xs] = some (enumF xs 0) := rfl
theorem z_enT : enum2? [.tup xs] = some (enumF xs 0) := rfl
theorem z_enn : enumF [] k = [] := rfl
theorem z_enc : enumF (d :: xs) k = D.tup [.int k, d] :: enumF xs (k + 1) := rfl
theorem z_cast (n : Nat) : ((no_index (OfNat.ofNat n) : Nat) : Int) = OfNat.ofNat n := rfl
end
end DL
end

section
set_option Elab.async false
set_option linter.all false
set_option maxRecDepth 100000
set_option maxHeartbeats 4000000
set_option autoImplicit false
/-! DL31: while; xs.extend(a new list). -/
namespace DL
open PySem L2
/-! ### while -/
/-- so many turns at most -/
def whileM (tc : M Bool) (b : MS) : Nat → MS
  | 0 => fun _ => .bad
  | n + 1 => fun σ => (tc σ).run fun k s => if k = true then (b s).loop (whileM tc b n) else .nx s
def SO.isBad : SO → Bool
  | .bad => true
  | _ => false
theorem bad_of {r : SO} (h : r.isBad = true) : r = .bad := by cases r <;> first | rfl | cases h
open Classical in
noncomputable def mWhile (tc : M Bool) (b : MS) : MS := fun σ => if h : ∃ n, (whileM tc b n σ).isBad = false then whileM tc b (choose h) σ else .bad
section
variable {tc : M Bool} {b : MS} {σ : DSt}
theorem whileM_succ (n : Nat) : whileM tc b (n + 1) σ = (tc σ).run fun k s => if k = true then (b s).loop (whileM tc b n) else .nx s := rfl
theorem whileM_up : ∀ (n : Nat) (σ : DSt), (whileM tc b n σ).isBad = false → whileM tc b (n + 1) σ = whileM tc b n σ
  | 0, σ, h => by cases h
  | n + 1, σ, h => by
    rw [whileM_succ] at h
    rw [whileM_succ (n + 1), whileM_succ n]
    cases e1 : tc σ with
    | err c fs s => rfl
    | bad => rfl
    | ok k s =>
      rw [e1] at h
      show (if k = true then (b s).loop (whileM tc b (n + 1)) else .nx s) = if k = true then (b s).loop (whileM tc b n) else .nx s
      have h : (if k = true then (b s).loop (whileM tc b n) else .nx s).isBad = false := h
      cases k with
      | false => rfl
      | true =>
        rw [if_pos rfl] at h ⊢
        rw [if_pos rfl]
        cases e2 : b s with
        | nx t =>
          rw [e2] at h
          exact whileM_up n t h
        | cont t =>
          rw [e2] at h
          exact whileM_up n t h
        | brk t => rfl
        | ret r t => rfl
        | err c fs t => rfl
        | bad => rfl
theorem whileM_le {n m : Nat} (hl : n ≤ m) (h : (whileM tc b n σ).isBad = false) : whileM tc b m σ = whileM tc b n σ := by
  obtain ⟨d, rfl⟩ := Nat.le.dest hl
  clear hl
  induction d with
  | zero => rfl
  | succ d ih =>
    have : whileM tc b (n + (d + 1)) σ = whileM tc b (n + d) σ := whileM_up (n + d) σ (by rw [ih]; exact h)
    rw [this, ih]
theorem mWhile_of {n : Nat} (h : (whileM tc b n σ).isBad = false) : mWhile tc b σ = whileM tc b n σ := by
  have hx : ∃ n, (whileM tc b n σ).isBad = false := ⟨n, h⟩
  unfold mWhile
  rw [dif_pos hx]
  have h2 := Classical.choose_spec hx
  rcases Nat.le_total n (Classical.choose hx) with z | z
  · exact whileM_le z h
  · exact (whileM_le z h2).symm
theorem mWhile_bad (h : ¬ ∃ n, (whileM tc b n σ).isBad = false) : mWhile tc b σ = .bad := by
  unfold mWhile
  rw [dif_neg h]
/-- a turn -/
theorem while_eq : mWhile tc b σ = (tc σ).run fun k s => if k = true then (b s).loop (mWhile tc b) else .nx s := by
  by_cases h : ∃ n, (whileM tc b n σ).isBad = false
  · obtain ⟨n, h⟩ := h
    rw [mWhile_of h]
    cases n with
    | zero => cases h
    | succ n =>
      rw [whileM_succ] at h ⊢
      cases e1 : tc σ with
      | err c fs s => rfl
      | bad => rfl
      | ok k s =>
        rw [e1] at h
        show (if k = true then (b s).loop (whileM tc b n) else .nx s) = if k = true then (b s).loop (mWhile tc b) else .nx s
        have h : (if k = true then (b s).loop (whileM tc b n) else .nx s).isBad = false := h
        cases k with
        | false => rfl
        | true =>
          rw [if_pos rfl] at h ⊢
          rw [if_pos rfl]
          cases e2 : b s with
          | nx t =>
            rw [e2] at h
            exact (mWhile_of h).symm
          | cont t =>
            rw [e2] at h
            exact (mWhile_of h).symm
          | brk t => rfl
          | ret r t => rfl
          | err c fs t => rfl
          | bad => rfl
  · rw [mWhile_bad h]
    cases e1 : tc σ with
    | err c fs s => exact absurd ⟨1, by rw [whileM_succ, e1]; rfl⟩ h
    | bad => rfl
    | ok k s =>
      show SO.bad = if k = true then (b s).loop (mWhile tc b) else .nx s
      cases k with
      | false => exact absurd ⟨1, by rw [whileM_succ, e1]; rfl⟩ h
      | true =>
        rw [if_pos rfl]
        have hn : ∀ n, (whileM tc b (n + 1) σ).isBad = true := fun n => by
          cases q : (whileM tc b (n + 1) σ).isBad with
          | true => rfl
          | false => exact absurd ⟨n + 1, q⟩ h
        have hn2 : ∀ n, ((b s).loop (whileM tc b n)).isBad = true := fun n => by
          have := hn n
          rw [whileM_succ, e1] at this
          exact this
        cases e2 : b s with
        | nx t =>
          rw [e2] at hn2
          exact (mWhile_bad (fun ⟨n, q⟩ => by
            have z : (whileM tc b n t).isBad = true := hn2 n
            rw [z] at q
            cases q)).symm
        | cont t =>
          rw [e2] at hn2
          exact (mWhile_bad (fun ⟨n, q⟩ => by
            have z : (whileM tc b n t).isBad = true := hn2 n
            rw [z] at q
            cases q)).symm
        | brk t =>
          have := hn2 0
          rw [e2] at this
          cases this
        | ret r t =>
          have := hn2 0
          rw [e2] at this
          cases this
        | err c fs t =>
          have := hn2 0
          rw [e2] at this
          cases this
        | bad => rfl
end
section
variable {X : Cx} {c : Expr} {body : List Stmt} {tc : M Bool} {m1 : MS} {pos : Pos}
theorem ss_while (hp : PassesOwn (model X.prog X.w) X.A X.env X.xe) (hc : ST X c tc) (hb : SSs X body m1) : SS X (.While c body [] pos) (mWhile tc m1) :=
  fun W tk => PS.imp (ps_while hp (hc W tk) (hb W tk)) fun D σv H ⟨B, F, σ, r0, h⟩ => by
    by_cases hx : ∃ n, (whileM tc m1 n σ).isBad = false
    · obtain ⟨n, hn⟩ := hx
      rw [mWhile_of hn] at h
      refine ⟨fun m σv' H' => ∃ F' σ', Rel (Cx.par X) B F' σv' H' σ' ∧ Ext F H F' H' ∧ coreS (Cx.par X) W D B F' σv' H' (whileM tc m1 m σ'), ⟨n, F, σ, r0, Ext.refl, h⟩, ?_⟩
      rintro m σv' H' ⟨F', σ', r', x', h'⟩
      cases m with
      | zero => exact h'.elim
      | succ m =>
        rw [whileM_succ] at h'
        refine (rd1S (P := tB) r' h').imp fun b H1 ⟨F1, s1, k, r1, e1, hbk, h1⟩ => ?_
        have hbk : b = k := hbk
        subst hbk
        cases b with
        | false =>
          rw [if_neg Bool.false_ne_true] at h1 ⊢
          exact h1 σv' F1 H1 r1 Ext.refl
        | true =>
          rw [if_pos rfl] at h1 ⊢
          have xx := x'.trans e1
          refine ⟨fun σ2 H2 => ∃ F2 s2, Rel (Cx.par X) B F2 σ2 H2 s2 ∧ Ext F H F2 H2 ∧ coreS (Cx.par X) W D B F2 σ2 H2 (whileM tc m1 m s2), fun σ2 H2 ⟨F2, s2, r2, x2, q2⟩ => ⟨m, Nat.lt_succ_self m, F2, s2, r2, x2, q2⟩, B, F1, s1, r1, ?_⟩
          cases eb : m1 s1 with
          | nx t =>
            rw [eb] at h1
            exact fun σv4 F4 H4 r4 x4 => ⟨F4, t, r4, xx.trans x4, coreS.mono x4 h1⟩
          | cont t =>
            rw [eb] at h1
            exact fun σv4 F4 H4 r4 x4 => ⟨F4, t, r4, xx.trans x4, coreS.mono x4 h1⟩
          | brk t =>
            rw [eb] at h1
            exact fun σv4 F4 H4 r4 x4 => h1 σv4 F4 H4 r4 x4
          | ret d t =>
            rw [eb] at h1
            exact fun v σv4 F4 H4 r4 x4 q4 => h1 v σv4 F4 H4 r4 x4 q4
          | err c fs t =>
            rw [eb] at h1
            exact h1
          | bad =>
            rw [eb] at h1
            exact h1.elim
    · rw [mWhile_bad hx] at h
      exact h.elim
/-! ### xs.extend(a new list) -/
def mExt (i : Nat) (ml : M (List D)) : MS := fun σ => if isOwn i σ = true then (ml σ).run fun ys s => match s[i]? with
  | some (Sl.own b xs) => if xs.length + ys.length ≤ sizeLine then .nx (s.set i (Sl.own b (xs ++ ys))) else .bad
  | _ => .bad else .bad
theorem ss_ext {i : Nat} {x : Str} {e : Expr} {ml : M (List D)} {p1 p2 p3 p4 : Pos} (ha : SL X e ml) (hN : X.N[i]? = some x := by rfl) (hv : Vis X.env.scope x := by first | exact Or.inl rfl | exact Or.inr (Or.inl rfl) | exact Or.inr (Or.inr rfl)) (hs : swapsWith (.Call (.Attribute (.Name x p1) "extend" p2) [e] [] p3) none p4.line X.env = pure false := by rfl)
    (hbase : attributeBase (.Name x p1) "extend" X.env (eval (.Name x p1) X.env) = eval (.Name x p1) X.env := by rfl)
    (hfew : ((backTo p3 (starEach [e] X.env)).all (fun x => !x.1) && (backToKw p3 (keywordEach [] X.env)).all (fun x => x.1.isSome) && decide ([e].length + ([] : List Keyword).length + (if ([] : List Keyword).isEmpty then 0 else 1) < 30)) = true := by rfl)
    (hline : (p2.endLine == p3.line) = true := by rfl) (hst : starEach [e] X.env = (false, eval e X.env) :: starEach [] X.env := by rfl) (hpl : (backTo p3 (starEach [] X.env)).any (·.1) = false := by rfl)
    (hd : (x == ("__debug__" : Str)) = false := by decide) (hcd : (x == ("__classdict__" : Str)) = false := by decide) :
    SS X (.Expr (.Call (.Attribute (.Name x p1) "extend" p2) [e] [] p3) p4) (mExt i ml) :=
  fun W tk => PS.imp (ps_expr (pe_bm PySem.F.plainAttrs_list PySem.F.slot_list_extend PySem.F.type_list_extend mt_extend (pe_var hN hv hd hcd) (pa_cons (ha W tk) pa_nil hst) hbase hfew hline hst hpl) hs) fun D σv H ⟨B, F, σ, r, h⟩ => by
    unfold mExt at h
    by_cases ho : isOwn i σ = true
    · rw [if_pos ho] at h
      obtain ⟨b0, xs0, h0⟩ := isOwn_of ho
      obtain ⟨a, vs0, ev, e0, d0, f0, _⟩ := r.lst h0
      refine ⟨.ref a, ev, .inl ⟨rfl, vs0, .inl (.inl e0)⟩, ?_⟩
      refine (rd1S (P := tL (Cx.par X)) r h).imp fun v H1 ⟨F1, s1, ys, r1, e1, ⟨q, ve, fq⟩, h1⟩ => ?_
      subst ve
      cases hs1 : s1[i]? with
      | none =>
        rw [hs1] at h1
        exact h1.elim
      | some s =>
        rw [hs1] at h1
        cases s with
        | no => exact h1.elim
        | val d => exact h1.elim
        | own b xs =>
          obtain ⟨vs, g1, g2, g3⟩ := own_same r1 hs1 ev
          obtain ⟨ws, w1, w2⟩ := fq.at_
          have h1 : coreS (Cx.par X) W D B F1 σv H1 (if xs.length + ys.length ≤ sizeLine then SO.nx (s1.set i (Sl.own b (xs ++ ys))) else SO.bad) := h1
          by_cases hl : xs.length + ys.length ≤ sizeLine
          · rw [if_pos hl] at h1
            refine ⟨a, q, vs, ws, rfl, rfl, g1, w1, by rw [g2.length, w2.length]; exact hl, ?_⟩
            have n : NewB a F1 H1 F1 (upd H1 a (.lst (vs ++ ws))) := NewB.upd r1.dom g3
            have ext := n.ext r1.dom g1 g3
            exact h1 σv F1 _ (r1.turn hs1 ev n upd_same ((g2.append w2).ext ext)) ext
          · rw [if_neg hl] at h1
            exact h1.elim
    · rw [if_neg ho] at h
      exact h.elim
theorem z_ext {i : Nat} {ml : M (List D)} {σ : DSt} : mExt i ml σ = if isOwn i σ = true then (ml σ).run fun ys s => match s[i]? with
  | some (Sl.own b xs) => if xs.length + ys.length ≤ sizeLine then .nx (s.set i (Sl.own b (xs ++ ys))) else .bad
  | _ => .bad else .bad := rfl
end
end DL
end

section
set_option Elab.async false
set_option linter.all false
set_option maxRecDepth 100000
set_option maxHeartbeats 4000000
set_option autoImplicit false
/-! DL32: the evaluation step by step. -/
namespace DL
open PySem L2
section
variable {σ : DSt} {d : D} {i j l : Nat} {f : D → D → Option D} {f1 : D → Option D} {fn : List D → Option D} {fl : List D → Option (List D)} {ma mb : M D} {ms mk : M (List D)} {ml : M (List D)} {tc ta tb : M Bool} {lo hi : M (Option Int)} {g : G} {gs : Gs} {m1 m2 : MS} {sl : M (List Sl)} {xs : List D} {F : List D → R0 Rt} {FB : List D → List D → R0 (Rt × List D)} {pm : List (Sum Nat Nat)} {b : Bool} {r : Rt} {c : Str} {fs : List (Str × D)}
def k2b (f : D → D → Option D) (x : D) : D → DSt → R D := fun y t => R.opt (f x y) t
theorem k2b_  {f : D → D → Option D} {x : D} {y : D} {t : DSt} : k2b f x y t = R.opt (f x y) t := rfl
def k2 (f : D → D → Option D) (mb : M D) : D → DSt → R D := fun x s => (mb s).bind (k2b f x)
theorem k2_  {f : D → D → Option D} {mb : M D} {x : D} {s : DSt} : k2 f mb x s = (mb s).bind (k2b f x) := rfl
theorem w_2 : mOp2 f ma mb σ = (ma σ).bind (k2 f mb) := rfl
def k1 (f1 : D → Option D) : D → DSt → R D := fun x s => R.opt (f1 x) s
theorem k1_  {f1 : D → Option D} {x : D} {s : DSt} : k1 f1 x s = R.opt (f1 x) s := rfl
theorem w_1 : mOp1 f1 ma σ = (ma σ).bind (k1 f1) := rfl
def kCb (x : D) : List D → DSt → R (List D) := fun ys t => .ok (x :: ys) t
theorem kCb_  {x : D} {ys : List D} {t : DSt} : kCb x ys t = .ok (x :: ys) t := rfl
def kC (ms : M (List D)) : D → DSt → R (List D) := fun x s => (ms s).bind (kCb x)
theorem kC_  {ms : M (List D)} {x : D} {s : DSt} : kC ms x s = (ms s).bind (kCb x) := rfl
theorem w_Cons : mCons ma ms σ = (ma σ).bind (kC ms) := rfl
def kTup : List D → DSt → R D := fun ys s => if ys.length ≤ sizeLine then .ok (.tup ys) s else .bad
theorem kTup_  {ys : List D} {s : DSt} : kTup  ys s = if ys.length ≤ sizeLine then .ok (.tup ys) s else .bad := rfl
theorem w_Tup : mTup ms σ = (ms σ).bind kTup := rfl
def kLst : List D → DSt → R (List D) := fun ys s => if ys.length ≤ sizeLine then .ok ys s else .bad
theorem kLst_  {ys : List D} {s : DSt} : kLst  ys s = if ys.length ≤ sizeLine then .ok ys s else .bad := rfl
theorem w_Lst : mLst ms σ = (ms σ).bind kLst := rfl
def kFrz : List D → DSt → R D := fun ys s => .ok (.lst ys) s
theorem kFrz_  {ys : List D} {s : DSt} : kFrz  ys s = .ok (.lst ys) s := rfl
theorem w_Frz : mFrz ml σ = (ml σ).bind kFrz := rfl
def kFn (fn : List D → Option D) : List D → DSt → R D := fun ys s => R.opt (fn ys) s
theorem kFn_  {fn : List D → Option D} {ys : List D} {s : DSt} : kFn fn ys s = R.opt (fn ys) s := rfl
theorem w_Fn : mFn fn ms σ = (ms σ).bind (kFn fn) := rfl
def kFnL (fl : List D → Option (List D)) : List D → DSt → R (List D) := fun ys s => R.opt (fl ys) s
theorem kFnL_  {fl : List D → Option (List D)} {ys : List D} {s : DSt} : kFnL fl ys s = R.opt (fl ys) s := rfl
theorem w_FnL : mFnL fl ms σ = (ms σ).bind (kFnL fl) := rfl
def kB : D → DSt → R Bool := fun x s => match x with | .bl b => .ok b s | _ => .bad
theorem kB_  {x : D} {s : DSt} : kB  x s = match x with | .bl b => .ok b s | _ => .bad := rfl
theorem w_B : mB ma σ = (ma σ).bind kB := rfl
def kTru : D → DSt → R Bool := fun x s => R.opt (truD x) s
theorem kTru_  {x : D} {s : DSt} : kTru  x s = R.opt (truD x) s := rfl
theorem w_Tru : mTru ma σ = (ma σ).bind kTru := rfl
def kAnd (tb : M Bool) : Bool → DSt → R Bool := fun k s => if k = true then tb s else .ok false s
theorem kAnd_  {tb : M Bool} {k : Bool} {s : DSt} : kAnd tb k s = if k = true then tb s else .ok false s := rfl
theorem w_And : mAnd ta tb σ = (ta σ).bind (kAnd tb) := rfl
def kOr (tb : M Bool) : Bool → DSt → R Bool := fun k s => if k = true then .ok true s else tb s
theorem kOr_  {tb : M Bool} {k : Bool} {s : DSt} : kOr tb k s = if k = true then .ok true s else tb s := rfl
theorem w_Or : mOr ta tb σ = (ta σ).bind (kOr tb) := rfl
def kNot : Bool → DSt → R Bool := fun k s => .ok (!k) s
theorem kNot_  {k : Bool} {s : DSt} : kNot  k s = .ok (!k) s := rfl
theorem w_Not : mNot ta σ = (ta σ).bind kNot := rfl
def kIf (ma : M D) (mb : M D) : Bool → DSt → R D := fun k s => if k = true then ma s else mb s
theorem kIf_  {ma : M D} {mb : M D} {k : Bool} {s : DSt} : kIf ma mb k s = if k = true then ma s else mb s := rfl
theorem w_If : mIf tc ma mb σ = (tc σ).bind (kIf ma mb) := rfl
def kAndV (mb : M D) : D → DSt → R D := fun x s => match x with | .bl true => mb s | .bl false => .ok (.bl false) s | _ => .bad
theorem kAndV_  {mb : M D} {x : D} {s : DSt} : kAndV mb x s = match x with | .bl true => mb s | .bl false => .ok (.bl false) s | _ => .bad := rfl
theorem w_AndV : mAndV ma mb σ = (ma σ).bind (kAndV mb) := rfl
def kOrV (mb : M D) : D → DSt → R D := fun x s => match x with | .bl false => mb s | .bl true => .ok (.bl true) s | _ => .bad
theorem kOrV_  {mb : M D} {x : D} {s : DSt} : kOrV mb x s = match x with | .bl false => mb s | .bl true => .ok (.bl true) s | _ => .bad := rfl
theorem w_OrV : mOrV ma mb σ = (ma σ).bind (kOrV mb) := rfl
def kNotV : D → DSt → R D := fun x s => match x with | .bl b => .ok (.bl (!b)) s | _ => .bad
theorem kNotV_  {x : D} {s : DSt} : kNotV  x s = match x with | .bl b => .ok (.bl (!b)) s | _ => .bad := rfl
theorem w_NotV : mNotV ma σ = (ma σ).bind kNotV := rfl
def kSome : D → DSt → R (Option Int) := fun x s => match x with | .int i => .ok (some i) s | _ => .bad
theorem kSome_  {x : D} {s : DSt} : kSome  x s = match x with | .int i => .ok (some i) s | _ => .bad := rfl
theorem w_Some : mSome ma σ = (ma σ).bind kSome := rfl
def kSAc (x : D) (lw : Option Int) : Option Int → DSt → R D := fun hw u => match x with | .tup xs => .ok (.tup (cut xs lw hw)) u | .lst xs => .ok (.lst (cut xs lw hw)) u | _ => .bad
theorem kSAc_  {x : D} {lw : Option Int} {hw : Option Int} {u : DSt} : kSAc x lw hw u = match x with | .tup xs => .ok (.tup (cut xs lw hw)) u | .lst xs => .ok (.lst (cut xs lw hw)) u | _ => .bad := rfl
def kSAb (x : D) (hi : M (Option Int)) : Option Int → DSt → R D := fun lw t => (hi t).bind (kSAc x lw)
theorem kSAb_  {x : D} {hi : M (Option Int)} {lw : Option Int} {t : DSt} : kSAb x hi lw t = (hi t).bind (kSAc x lw) := rfl
def kSA (lo : M (Option Int)) (hi : M (Option Int)) : D → DSt → R D := fun x s => (lo s).bind (kSAb x hi)
theorem kSA_  {lo : M (Option Int)} {hi : M (Option Int)} {x : D} {s : DSt} : kSA lo hi x s = (lo s).bind (kSAb x hi) := rfl
theorem w_SlA : mSlA ma lo hi σ = (ma σ).bind (kSA lo hi) := rfl
def kSLc (x : D) (lw : Option Int) : Option Int → DSt → R (List D) := fun hw u => match x with | .lst xs => .ok (cut xs lw hw) u | _ => .bad
theorem kSLc_  {x : D} {lw : Option Int} {hw : Option Int} {u : DSt} : kSLc x lw hw u = match x with | .lst xs => .ok (cut xs lw hw) u | _ => .bad := rfl
def kSLb (x : D) (hi : M (Option Int)) : Option Int → DSt → R (List D) := fun lw t => (hi t).bind (kSLc x lw)
theorem kSLb_  {x : D} {hi : M (Option Int)} {lw : Option Int} {t : DSt} : kSLb x hi lw t = (hi t).bind (kSLc x lw) := rfl
def kSL (lo : M (Option Int)) (hi : M (Option Int)) : D → DSt → R (List D) := fun x s => (lo s).bind (kSLb x hi)
theorem kSL_  {lo : M (Option Int)} {hi : M (Option Int)} {x : D} {s : DSt} : kSL lo hi x s = (lo s).bind (kSLb x hi) := rfl
theorem w_SlL : mSlL ma lo hi σ = (ma σ).bind (kSL lo hi) := rfl
def kStb (x : D) : D → DSt → R D := fun y t => match x, y with | .tup xs, .int k => if k = 1 then .ok (.tup xs) t else if k = -1 then .ok (.tup xs.reverse) t else .bad | _, _ => .bad
theorem kStb_  {x : D} {y : D} {t : DSt} : kStb x y t = match x, y with | .tup xs, .int k => if k = 1 then .ok (.tup xs) t else if k = -1 then .ok (.tup xs.reverse) t else .bad | _, _ => .bad := rfl
def kSt (mb : M D) : D → DSt → R D := fun x s => (mb s).bind (kStb x)
theorem kSt_  {mb : M D} {x : D} {s : DSt} : kSt mb x s = (mb s).bind (kStb x) := rfl
theorem w_Step : mStep ma mb σ = (ma σ).bind (kSt mb) := rfl
def kSet (g : G) : D → DSt → SO := fun x s => match g x s with | some s' => .nx s' | none => .bad
theorem kSet_  {g : G} {x : D} {s : DSt} : kSet g x s = match g x s with | some s' => .nx s' | none => .bad := rfl
theorem w_Set : mSet ma g σ = (ma σ).run (kSet g) := rfl
def kOwn (i : Nat) : List D → DSt → SO := fun ys s => .nx (s.set i (Sl.own false ys))
theorem kOwn_  {i : Nat} {ys : List D} {s : DSt} : kOwn i ys s = .nx (s.set i (Sl.own false ys)) := rfl
theorem w_Own : mOwn i ml σ = (ml σ).run (kOwn i) := rfl
def kRet : D → DSt → SO := fun x s => .ret (.v x) s
theorem kRet_  {x : D} {s : DSt} : kRet  x s = .ret (.v x) s := rfl
theorem w_Ret : mRet ma σ = (ma σ).run kRet := rfl
def kRetL : List D → DSt → SO := fun ys s => .ret (.l ys) s
theorem kRetL_  {ys : List D} {s : DSt} : kRetL  ys s = .ret (.l ys) s := rfl
theorem w_RetL : mRetL ml σ = (ml σ).run kRetL := rfl
def kDrop : D → DSt → SO := fun x s => .nx s
theorem kDrop_  {x : D} {s : DSt} : kDrop  x s = .nx s := rfl
theorem w_Drop : mDrop ma σ = (ma σ).run kDrop := rfl
def kIfS (m1 : MS) (m2 : MS) : Bool → DSt → SO := fun k s => if k = true then m1 s else m2 s
theorem kIfS_  {m1 : MS} {m2 : MS} {k : Bool} {s : DSt} : kIfS m1 m2 k s = if k = true then m1 s else m2 s := rfl
theorem w_IfS : mIfS tc m1 m2 σ = (tc σ).run (kIfS m1 m2) := rfl
def kApp (i : Nat) : D → DSt → SO := fun x s => match s[i]? with | some (Sl.own b xs) => if xs.length < sizeLine then .nx (s.set i (Sl.own b (xs ++ [x]))) else .bad | _ => .bad
theorem kApp_  {i : Nat} {x : D} {s : DSt} : kApp i x s = match s[i]? with | some (Sl.own b xs) => if xs.length < sizeLine then .nx (s.set i (Sl.own b (xs ++ [x]))) else .bad | _ => .bad := rfl
theorem w_AppO : mAppO i ma σ = if isOwn i σ = true then (ma σ).run (kApp i) else .bad := rfl
def kPutb (i : Nat) (x : D) : D → DSt → SO := fun y t => DL.putAt i x y t
theorem kPutb_  {i : Nat} {x : D} {y : D} {t : DSt} : kPutb i x y t = DL.putAt i x y t := rfl
def kPut (i : Nat) (mb : M D) : D → DSt → SO := fun x s => if isOwn i s = true then (mb s).run (kPutb i x) else .bad
theorem kPut_  {i : Nat} {mb : M D} {x : D} {s : DSt} : kPut i mb x s = if isOwn i s = true then (mb s).run (kPutb i x) else .bad := rfl
theorem w_Put : mPut i ma mb σ = (ma σ).run (kPut i mb) := rfl
def kIxO (i : Nat) : D → DSt → R D := fun x t => ixAt i x t
theorem kIxO_  {i : Nat} {x : D} {t : DSt} : kIxO i x t = ixAt i x t := rfl
theorem w_IxO : mIxO i ma σ = if isOwn i σ = true then (ma σ).bind (kIxO i) else .bad := rfl
def kLook (i : Nat) (f : D → D → Option D) : D → DSt → R D := fun y t => match t[i]? with | some (Sl.own _ xs) => R.opt (f (.lst xs) y) t | _ => .bad
theorem kLook_  {i : Nat} {f : D → D → Option D} {y : D} {t : DSt} : kLook i f y t = match t[i]? with | some (Sl.own _ xs) => R.opt (f (.lst xs) y) t | _ => .bad := rfl
theorem w_Look : mLook i f mb σ = if isOwn i σ = true then (mb σ).bind (kLook i f) else .bad := rfl
def kMvb (x : D) : List Sl → DSt → R (List Sl) := fun q t => .ok (Sl.val x :: q) t
theorem kMvb_  {x : D} {q : List Sl} {t : DSt} : kMvb x q t = .ok (Sl.val x :: q) t := rfl
def kMv (sl : M (List Sl)) : D → DSt → R (List Sl) := fun x s => (sl s).bind (kMvb x)
theorem kMv_  {sl : M (List Sl)} {x : D} {s : DSt} : kMv sl x s = (sl s).bind (kMvb x) := rfl
theorem w_Mv : mMv ma sl σ = (ma σ).bind (kMv sl) := rfl
def kMlb (xs : List D) : List Sl → DSt → R (List Sl) := fun q t => .ok (Sl.own false xs :: q) t
theorem kMlb_  {xs : List D} {q : List Sl} {t : DSt} : kMlb xs q t = .ok (Sl.own false xs :: q) t := rfl
def kMl (sl : M (List Sl)) : List D → DSt → R (List Sl) := fun ys s => (sl s).bind (kMlb ys)
theorem kMl_  {sl : M (List Sl)} {ys : List D} {s : DSt} : kMl sl ys s = (sl s).bind (kMlb ys) := rfl
theorem w_Ml : mMl ml sl σ = (ml σ).bind (kMl sl) := rfl
def kP2 (i : Nat) (j : Nat) : List Sl → DSt → SO := fun q s => match q with | [a, b] => .nx ((s.set i a).set j b) | _ => .bad
theorem kP2_  {i : Nat} {j : Nat} {q : List Sl} {s : DSt} : kP2 i j q s = match q with | [a, b] => .nx ((s.set i a).set j b) | _ => .bad := rfl
theorem w_P2 : mPar2 i j sl σ = (sl σ).run (kP2 i j) := rfl
def kP3 (i : Nat) (j : Nat) (l : Nat) : List Sl → DSt → SO := fun q s => match q with | [a, b, c] => .nx (((s.set i a).set j b).set l c) | _ => .bad
theorem kP3_  {i : Nat} {j : Nat} {l : Nat} {q : List Sl} {s : DSt} : kP3 i j l q s = match q with | [a, b, c] => .nx (((s.set i a).set j b).set l c) | _ => .bad := rfl
theorem w_P3 : mPar3 i j l sl σ = (sl σ).run (kP3 i j l) := rfl
def kFor (g : G) (m1 : MS) : List D → DSt → SO := fun ds s => forM' g m1 ds s
theorem kFor_  {g : G} {m1 : MS} {ds : List D} {s : DSt} : kFor g m1 ds s = forM' g m1 ds s := rfl
theorem w_For : mFor ml g m1 σ = (ml σ).run (kFor g m1) := rfl
def kItems : D → DSt → R (List D) := fun x s => R.opt (items? x) s
theorem kItems_  {x : D} {s : DSt} : kItems  x s = R.opt (items? x) s := rfl
theorem w_Items : mItems' ma σ = (ma σ).bind kItems := rfl
def kIt (fl : List D → Option (List D)) : List D → DSt → R (List D) := fun ds s => R.opt (fl ds) s
theorem kIt_  {fl : List D → Option (List D)} {ds : List D} {s : DSt} : kIt fl ds s = R.opt (fl ds) s := rfl
theorem w_It : mIt fl ms σ = (ms σ).bind (kIt fl) := rfl
def kLc (vs : List Nat) (g : G) (tc : M Bool) (ma : M D) : List D → DSt → R (List D) := fun ds s => lcRest vs g tc ma ds s []
theorem kLc_ {vs : List Nat}  {vs : List Nat} {g : G} {tc : M Bool} {ma : M D} {ds : List D} {s : DSt} : kLc vs g tc ma ds s = lcRest vs g tc ma ds s [] := rfl
theorem w_Lc {vs : List Nat} : mLc ml vs g tc ma σ = (ml σ).bind (kLc vs g tc ma) := rfl
def kCall (F : List D → R0 Rt) (xs : List D) : List D → DSt → R D := fun ds s => (F (ds ++ xs)).at s
theorem kCall_  {F : List D → R0 Rt} {xs : List D} {ds : List D} {s : DSt} : kCall F xs ds s = (F (ds ++ xs)).at s := rfl
theorem w_Call : mCall F xs ms σ = (ms σ).bind (kCall F xs) := rfl
def kCallL (F : List D → R0 Rt) (xs : List D) : List D → DSt → R (List D) := fun ds s => (F (ds ++ xs)).atL s
theorem kCallL_  {F : List D → R0 Rt} {xs : List D} {ds : List D} {s : DSt} : kCallL F xs ds s = (F (ds ++ xs)).atL s := rfl
theorem w_CallL : mCallL F xs ms σ = (ms σ).bind (kCallL F xs) := rfl
def kCallB (i : Nat) (FB : List D → List D → R0 (Rt × List D)) : List D → DSt → R D := fun ds s => if isOwn i s = true then R0.atB i (FB (ownXs i s) ds) s else .bad
theorem kCallB_  {i : Nat} {FB : List D → List D → R0 (Rt × List D)} {ds : List D} {s : DSt} : kCallB i FB ds s = if isOwn i s = true then R0.atB i (FB (ownXs i s) ds) s else .bad := rfl
theorem w_CallB : mCallB i FB ms σ = if isOwn i σ = true then (ms σ).bind (kCallB i FB) else .bad := rfl
def kCKb (F : List D → R0 Rt) (pm : List (Sum Nat Nat)) (i : Nat) (l : Nat) (ds : List D) : List D → DSt → R D := fun es t => if ds.length = i ∧ es.length = l then (F (permG pm ds es)).at t else .bad
theorem kCKb_  {F : List D → R0 Rt} {pm : List (Sum Nat Nat)} {i : Nat} {l : Nat} {ds : List D} {es : List D} {t : DSt} : kCKb F pm i l ds es t = if ds.length = i ∧ es.length = l then (F (permG pm ds es)).at t else .bad := rfl
def kCK (F : List D → R0 Rt) (pm : List (Sum Nat Nat)) (i : Nat) (l : Nat) (mk : M (List D)) : List D → DSt → R D := fun ds s => (mk s).bind (kCKb F pm i l ds)
theorem kCK_  {F : List D → R0 Rt} {pm : List (Sum Nat Nat)} {i : Nat} {l : Nat} {mk : M (List D)} {ds : List D} {s : DSt} : kCK F pm i l mk ds s = (mk s).bind (kCKb F pm i l ds) := rfl
theorem w_CallK : mCallK F pm i l ms mk σ = (ms σ).bind (kCK F pm i l mk) := rfl
def kRaise (cx : Str) (fld : Str) : D → DSt → SO := fun x s => .err cx [(fld, x)] s
theorem kRaise_ {cx fld : Str}  {cx : Str} {fld : Str} {x : D} {s : DSt} : kRaise cx fld x s = .err cx [(fld, x)] s := rfl
theorem w_Raise {cx fld : Str} : mRaise cx fld ma σ = (ma σ).run (kRaise cx fld) := rfl
def kExt (i : Nat) : List D → DSt → SO := fun ys s => match s[i]? with | some (Sl.own b xs) => if xs.length + ys.length ≤ sizeLine then .nx (s.set i (Sl.own b (xs ++ ys))) else .bad | _ => .bad
theorem kExt_  {i : Nat} {ys : List D} {s : DSt} : kExt i ys s = match s[i]? with | some (Sl.own b xs) => if xs.length + ys.length ≤ sizeLine then .nx (s.set i (Sl.own b (xs ++ ys))) else .bad | _ => .bad := rfl
theorem w_Ext : mExt i ml σ = if isOwn i σ = true then (ml σ).run (kExt i) else .bad := rfl
theorem w_gC {gs : Gs} : gCo g gs (d :: xs) σ = match g d σ with | some s => gs xs s | none => none := by
  show (g d σ).bind _ = _
  cases g d σ <;> rfl
end
end DL
end

section
set_option Elab.async false
set_option linter.all false
set_option maxRecDepth 100000
set_option maxHeartbeats 4000000
set_option autoImplicit false
namespace LW
noncomputable section
open PySem L2 DL
open PySem.W (Frag)
def topS (i : Nat) : Stmt := PySem.Challenge.pw_cancelsback_k09_whole_picks_in_front_and.main.body.getD i (.Pass ⟨0, 0, 0, 0⟩)
/-! ### is_integer -/
abbrev s_is_integer : Stmt := topS 6
theorem sc_is_integer : FnScope ["value"] ["value"] (defScope s_is_integer) := ⟨rfl, rfl, rfl, by decide +kernel, rfl, by decide +kernel, by decide +kernel⟩
def m_is_integer : MS := mRet (mAndV (mOp1 (isiD "int") (mVar 0)) (mNotV (mOp1 (isiD "bool") (mVar 0))))
def f_is_integer : List D → R0 Rt := fbody 1 1 m_is_integer
theorem q_is_integer (d0 : D) : f_is_integer [d0] = (m_is_integer [.val d0]).out := fb_eq (n := 1) (l := 1) (m := m_is_integer) (ds := [d0]) rfl
theorem ok_is_integer {P : Program} {w : World} {K : Frag} {mg : Str → Option Value} {base : Heap} {f : Addr} {fd : FuncData} (F : Fd K "is_integer" s_is_integer f fd) (z_isinstance : mg "isinstance" = none) (z_int : mg "int" = none) (z_bool : mg "bool" = none) :
    FnG P w K mg base 1 f fd ["value"] (FSp ⟨K, mg⟩ f_is_integer) :=
  F.ok (k := 0) sc_is_integer fun cdv A outer s H E hr hgd =>
  (sss_one (ss_ret (se_and (se_isi1 kit_int (by rfl) z_isinstance (by rfl) z_int (by first | boot_by_name | rfl | kernel_rfl) (vv 0)) (se_one (se_not (se_isi1 kit_bool (by rfl) z_isinstance (by rfl) z_bool (by first | boot_by_name | rfl | kernel_rfl) (vv 0)))))))
/-! ### is_number -/
abbrev s_is_number : Stmt := topS 7
theorem sc_is_number : FnScope ["value"] ["value"] (defScope s_is_number) := ⟨rfl, rfl, rfl, by decide +kernel, rfl, by decide +kernel, by decide +kernel⟩
def m_is_number : MS := mRet (mAndV (mCall f_is_integer [] (mCons (mVar 0) (mNil))) (mOp2 geD (mVar 0) (mC (.int 0))))
def f_is_number : List D → R0 Rt := fbody 1 1 m_is_number
theorem q_is_number (d0 : D) : f_is_number [d0] = (m_is_number [.val d0]).out := fb_eq (n := 1) (l := 1) (m := m_is_number) (ds := [d0]) rfl
theorem ok_is_number {P : Program} {w : World} {K : Frag} {mg : Str → Option Value} {base : Heap} {f : Addr} {fd : FuncData} (F : Fd K "is_number" s_is_number f fd) (h_is_integer : Has P w K mg base 1 "is_integer" ["value"] f_is_integer) :
    FnG P w K mg base 2 f fd ["value"] (FSp ⟨K, mg⟩ f_is_number) :=
  F.ok (k := 1) sc_is_number fun cdv A outer s H E hr hgd =>
  (sss_one (ss_ret (se_and (cH (h_is_integer.up (by decide)) hr hgd (sa_cons (vv 0) sa_nil)) (se_one (oGe (vv 0) se_int)))))
/-! ### is_below -/
abbrev s_is_below : Stmt := topS 8
theorem sc_is_below : FnScope ["value", "many"] ["value", "many"] (defScope s_is_below) := ⟨rfl, rfl, rfl, by decide +kernel, rfl, by decide +kernel, by decide +kernel⟩
def m_is_below : MS := mRet (mAndV (mCall f_is_number [] (mCons (mVar 0) (mNil))) (mOp2 ltD (mVar 0) (mVar 1)))
def f_is_below : List D → R0 Rt := fbody 2 2 m_is_below
theorem q_is_below (d0 d1 : D) : f_is_below [d0, d1] = (m_is_below [.val d0, .val d1]).out := fb_eq (n := 2) (l := 2) (m := m_is_below) (ds := [d0, d1]) rfl
theorem ok_is_below {P : Program} {w : World} {K : Frag} {mg : Str → Option Value} {base : Heap} {f : Addr} {fd : FuncData} (F : Fd K "is_below" s_is_below f fd) (h_is_number : Has P w K mg base 2 "is_number" ["value"] f_is_number) :
    FnG P w K mg base 3 f fd ["value", "many"] (FSp ⟨K, mg⟩ f_is_below) :=
  F.ok (k := 2) sc_is_below fun cdv A outer s H E hr hgd =>
  (sss_one (ss_ret (se_and (cH (h_is_number.up (by decide)) hr hgd (sa_cons (vv 0) sa_nil)) (se_one (oLt (vv 0) (vv 1))))))
/-! ### is_sequence -/
abbrev s_is_sequence : Stmt := topS 9
theorem sc_is_sequence : FnScope ["value"] ["value"] (defScope s_is_sequence) := ⟨rfl, rfl, rfl, by decide +kernel, rfl, by decide +kernel, by decide +kernel⟩
def m_is_sequence : MS := mRet (mOp1 (isiD2 "list" "tuple") (mVar 0))
def f_is_sequence : List D → R0 Rt := fbody 1 1 m_is_sequence
theorem q_is_sequence (d0 : D) : f_is_sequence [d0] = (m_is_sequence [.val d0]).out := fb_eq (n := 1) (l := 1) (m := m_is_sequence) (ds := [d0]) rfl
theorem ok_is_sequence {P : Program} {w : World} {K : Frag} {mg : Str → Option Value} {base : Heap} {f : Addr} {fd : FuncData} (F : Fd K "is_sequence" s_is_sequence f fd) (z_isinstance : mg "isinstance" = none) (z_list : mg "list" = none) (z_tuple : mg "tuple" = none) :
    FnG P w K mg base 1 f fd ["value"] (FSp ⟨K, mg⟩ f_is_sequence) :=
  F.ok (k := 0) sc_is_sequence fun cdv A outer s H E hr hgd =>
  (sss_one (ss_ret (se_isi2 kit_list kit_tuple (by rfl) z_isinstance (by rfl) z_list (by first | boot_by_name | rfl | kernel_rfl) (by rfl) z_tuple (by first | boot_by_name | rfl | kernel_rfl) (vv 0))))
/-! ### is_letter -/
abbrev s_is_letter : Stmt := topS 10
theorem sc_is_letter : FnScope ["value"] ["value"] (defScope s_is_letter) := ⟨rfl, rfl, rfl, by decide +kernel, rfl, by decide +kernel, by decide +kernel⟩
def m_is_letter : MS := mRet (mCall f_is_below [] (mCons (mVar 0) (mCons (mC (.int 100)) (mNil))))
def f_is_letter : List D → R0 Rt := fbody 1 1 m_is_letter
theorem q_is_letter (d0 : D) : f_is_letter [d0] = (m_is_letter [.val d0]).out := fb_eq (n := 1) (l := 1) (m := m_is_letter) (ds := [d0]) rfl
theorem ok_is_letter {P : Program} {w : World} {K : Frag} {mg : Str → Option Value} {base : Heap} {f : Addr} {fd : FuncData} (F : Fd K "is_letter" s_is_letter f fd) (c_MANY_LETTERS : ∃ t, mg "MANY_LETTERS" = some (.int 100 t)) (h_is_below : Has P w K mg base 3 "is_below" ["value", "many"] f_is_below) :
    FnG P w K mg base 4 f fd ["value"] (FSp ⟨K, mg⟩ f_is_letter) :=
  F.ok (k := 3) sc_is_letter fun cdv A outer s H E hr hgd =>
  (sss_one (ss_ret (cH (h_is_below.up (by decide)) hr hgd (sa_cons (vv 0) (sa_cons (gi c_MANY_LETTERS) sa_nil)))))
/-! ### is_text -/
abbrev s_is_text : Stmt := topS 12
theorem sc_is_text : FnScope ["value", "one"] ["value"] (defScope s_is_text) := ⟨rfl, rfl, rfl, by decide +kernel, rfl, by decide +kernel, by decide +kernel⟩
def m_is_text : MS := mRet (mAndV (mCall f_is_sequence [] (mCons (mVar 0) (mNil))) (mFn allD (mCons (mFrz (mLc (mItems' (mVar 0)) [1] (gNm 1) (mYes) (mCall f_is_letter [] (mCons (mVar 1) (mNil))))) (mNil))))
def f_is_text : List D → R0 Rt := fbody 1 2 m_is_text
theorem q_is_text (d0 : D) : f_is_text [d0] = (m_is_text [.val d0, .no]).out := fb_eq (n := 1) (l := 2) (m := m_is_text) (ds := [d0]) rfl
theorem ok_is_text {P : Program} {w : World} {K : Frag} {mg : Str → Option Value} {base : Heap} {f : Addr} {fd : FuncData} (F : Fd K "is_text" s_is_text f fd) (h_is_sequence : Has P w K mg base 1 "is_sequence" ["value"] f_is_sequence) (h_is_letter : Has P w K mg base 4 "is_letter" ["value"] f_is_letter) (z_all : mg "all" = none) :
    FnG P w K mg base 5 f fd ["value"] (FSp ⟨K, mg⟩ f_is_text) :=
  F.ok (k := 4) sc_is_text fun cdv A outer s H E hr hgd =>
  (sss_one (ss_ret (se_and (cH (h_is_sequence.up (by decide)) hr hgd (sa_cons (vv 0) sa_nil)) (se_one (bAll rfl z_all (sa_cons (se_frz (sl_lc (own := [("one", 1)]) rfl sc_is_text.nd (si_seq (vv 0)) (blkOk_by (N := ["value", "one"]) (sc := defScope s_is_text) (by decide +kernel)) (fun _ _ _ _ _ => (tw 1 sc_is_text.nd)) (fun _ _ _ _ _ => sts_nil) (fun _ _ _ _ _ => (cH (h_is_letter.up (by decide)) hr hgd (sa_cons (vv 1) sa_nil))))) sa_nil))))))
/-! ### need_text -/
abbrev s_need_text : Stmt := topS 13
theorem sc_need_text : FnScope ["value", "at"] ["value", "at"] (defScope s_need_text) := ⟨rfl, rfl, rfl, by decide +kernel, rfl, by decide +kernel, by decide +kernel⟩
def m_need_text : MS := mSeq (mIfS (mNot (mTru (mCall f_is_text [] (mCons (mVar 0) (mNil)))))
  (mRaise "InvalidText" "at" (mVar 1))
  (mNx))
  (mRet (mFn tupD (mCons (mVar 0) (mNil))))
def f_need_text : List D → R0 Rt := fbody 2 2 m_need_text
theorem q_need_text (d0 d1 : D) : f_need_text [d0, d1] = (m_need_text [.val d0, .val d1]).out := fb_eq (n := 2) (l := 2) (m := m_need_text) (ds := [d0, d1]) rfl
theorem ok_need_text {P : Program} {w : World} {K : Frag} {mg : Str → Option Value} {base : Heap} {f : Addr} {fd : FuncData} (F : Fd K "need_text" s_need_text f fd) {a_InvalidText : Addr} (h_is_text : Has P w K mg base 5 "is_text" ["value"] f_is_text) (e_InvalidText : ErrC K P mg "InvalidText" "at" a_InvalidText) (z_super : mg "super" = none) (z_tuple : mg "tuple" = none) :
    FnG P w K mg base 6 f fd ["value", "at"] (FSp ⟨K, mg⟩ f_need_text) :=
  F.ok (k := 5) sc_need_text fun cdv A outer s H E hr hgd =>
  (sss_cons (ss_if (st_not (st_tru (cH (h_is_text.up (by decide)) hr hgd (sa_cons (vv 0) sa_nil))))
  (sss_one (ss_raise rfl e_InvalidText.sup hr (by rfl) e_InvalidText.mg z_super (vv 1)))
  sss_nil)
  (sss_one (ss_ret (bTuple z_tuple (sa_cons (vv 0) sa_nil)))))
/-! ### shared_length -/
abbrev s_shared_length : Stmt := topS 14
theorem sc_shared_length : FnScope ["one", "other", "at", "letter", "twin"] ["one", "other"] (defScope s_shared_length) := ⟨rfl, rfl, rfl, by decide +kernel, rfl, by decide +kernel, by decide +kernel⟩
def g_shared_length_0 : G := fun d σ => (gTu 2 (gCo (gNm 2) (gCo (gTu 2 (gCo (gNm 3) (gCo (gNm 4) (gNo)))) (gNo)))) d σ
def b_shared_length_0 : MS := fun σ => (mFgR 0 (mFgt [2, 3, 4] (mIfS (mB (mOp2 neD (mVar 3) (mVar 4)))
  (mRet (mVar 2))
  (mNx)))) σ
def m_shared_length : MS := mSeq (mFgt [2, 3, 4] (mFor (mIt ez? (mCons (mVar 0) (mCons (mVar 1) (mNil)))) g_shared_length_0 b_shared_length_0))
  (mRet (mFn minD (mCons (mFn lenD (mCons (mVar 0) (mNil))) (mCons (mFn lenD (mCons (mVar 1) (mNil))) (mNil)))))
def f_shared_length : List D → R0 Rt := fbody 2 5 m_shared_length
theorem q_shared_length (d0 d1 : D) : f_shared_length [d0, d1] = (m_shared_length [.val d0, .val d1, .no, .no, .no]).out := fb_eq (n := 2) (l := 5) (m := m_shared_length) (ds := [d0, d1]) rfl
theorem ok_shared_length {P : Program} {w : World} {K : Frag} {mg : Str → Option Value} {base : Heap} {f : Addr} {fd : FuncData} (F : Fd K "shared_length" s_shared_length f fd) (z_enumerate : mg "enumerate" = none) (z_zip : mg "zip" = none) (z_len : mg "len" = none) (z_min : mg "min" = none) :
    FnG P w K mg base 1 f fd ["one", "other"] (FSp ⟨K, mg⟩ f_shared_length) :=
  F.ok (k := 0) sc_shared_length fun cdv A outer s H E hr hgd =>
  (sss_cons (ss_fgt [2, 3, 4] (ss_for (passes_of rfl) rfl (si_ez (by rfl) z_enumerate (by rfl) z_zip (sa_cons (vv 0) (sa_cons (vv 1) sa_nil))) (sg_tu rfl (sgs_co (tg 2 sc_shared_length.nd) (sgs_co (sg_tu rfl (sgs_co (tg 3 sc_shared_length.nd) (sgs_co (tg 4 sc_shared_length.nd) sgs_no))) sgs_no)))
  (sss_fgr 0 (sss_fgt [2, 3, 4] (sss_one (ss_if (tNe' hr (vv 3) (vv 4))
  (sss_one (ss_ret (vv 2)))
  sss_nil))))))
  (sss_one (ss_ret (bMin rfl z_min (sa_cons (bLen z_len (sa_cons (vv 0) sa_nil)) (sa_cons (bLen z_len (sa_cons (vv 1) sa_nil)) sa_nil))))))
/-! ### need_three -/
abbrev s_need_three : Stmt := topS 17
theorem sc_need_three : FnScope ["base", "mine", "yours"] ["base", "mine", "yours"] (defScope s_need_three) := ⟨rfl, rfl, rfl, by decide +kernel, rfl, by decide +kernel, by decide +kernel⟩
def m_need_three : MS := mRet (mTup (mCons (mCall f_need_text [] (mCons (mVar 0) (mCons (mC (.int 0)) (mNil)))) (mCons (mCall f_need_text [] (mCons (mVar 1) (mCons (mC (.int 1)) (mNil)))) (mCons (mCall f_need_text [] (mCons (mVar 2) (mCons (mC (.int 2)) (mNil)))) (mNil)))))
def f_need_three : List D → R0 Rt := fbody 3 3 m_need_three
theorem q_need_three (d0 d1 d2 : D) : f_need_three [d0, d1, d2] = (m_need_three [.val d0, .val d1, .val d2]).out := fb_eq (n := 3) (l := 3) (m := m_need_three) (ds := [d0, d1, d2]) rfl
theorem ok_need_three {P : Program} {w : World} {K : Frag} {mg : Str → Option Value} {base : Heap} {f : Addr} {fd : FuncData} (F : Fd K "need_three" s_need_three f fd) (h_need_text : Has P w K mg base 6 "need_text" ["value", "at"] f_need_text) :
    FnG P w K mg base 7 f fd ["base", "mine", "yours"] (FSp ⟨K, mg⟩ f_need_three) :=
  F.ok (k := 6) sc_need_three fun cdv A outer s H E hr hgd =>
  (sss_one (ss_ret (se_tup (sa_cons (cH (h_need_text.up (by decide)) hr hgd (sa_cons (vv 0) (sa_cons se_int sa_nil))) (sa_cons (cH (h_need_text.up (by decide)) hr hgd (sa_cons (vv 1) (sa_cons se_int sa_nil))) (sa_cons (cH (h_need_text.up (by decide)) hr hgd (sa_cons (vv 2) (sa_cons se_int sa_nil))) sa_nil))))))
/-! ### claimed_ends -/
abbrev s_claimed_ends : Stmt := topS 18
theorem sc_claimed_ends : FnScope ["base", "mine", "yours", "tail"] ["base", "mine", "yours"] (defScope s_claimed_ends) := ⟨rfl, rfl, rfl, by decide +kernel, rfl, by decide +kernel, by decide +kernel⟩
def m_claimed_ends : MS := mSeq (mSet (mCall f_shared_length [] (mCons (mStep (mVar 0) (mOp1 negD (mC (.int 1)))) (mCons (mStep (mVar 1) (mOp1 negD (mC (.int 1)))) (mNil)))) (gNm 3))
  (mRet (mTup (mCons (mOp2 subD (mFn lenD (mCons (mVar 0) (mNil))) (mVar 3)) (mCons (mCall f_shared_length [] (mCons (mVar 0) (mCons (mVar 2) (mNil)))) (mNil)))))
def f_claimed_ends : List D → R0 Rt := fbody 3 4 m_claimed_ends
theorem q_claimed_ends (d0 d1 d2 : D) : f_claimed_ends [d0, d1, d2] = (m_claimed_ends [.val d0, .val d1, .val d2, .no]).out := fb_eq (n := 3) (l := 4) (m := m_claimed_ends) (ds := [d0, d1, d2]) rfl
theorem ok_claimed_ends {P : Program} {w : World} {K : Frag} {mg : Str → Option Value} {base : Heap} {f : Addr} {fd : FuncData} (F : Fd K "claimed_ends" s_claimed_ends f fd) (h_shared_length : Has P w K mg base 1 "shared_length" ["one", "other"] f_shared_length) (z_len : mg "len" = none) :
    FnG P w K mg base 2 f fd ["base", "mine", "yours"] (FSp ⟨K, mg⟩ f_claimed_ends) :=
  F.ok (k := 1) sc_claimed_ends fun cdv A outer s H E hr hgd =>
  (sss_cons (ss_set (cH (h_shared_length.up (by decide)) hr hgd (sa_cons (se_step (vv 0) (oNeg se_int)) (sa_cons (se_step (vv 1) (oNeg se_int)) sa_nil))) (tg 3 sc_claimed_ends.nd))
  (sss_one (ss_ret (se_tup (sa_cons (oSub (bLen z_len (sa_cons (vv 0) sa_nil)) (vv 3)) (sa_cons (cH (h_shared_length.up (by decide)) hr hgd (sa_cons (vv 0) (sa_cons (vv 2) sa_nil))) sa_nil))))))
/-! ### came_text -/
abbrev s_came_text : Stmt := topS 19
theorem sc_came_text : FnScope ["base", "mine", "yours", "end", "begin"] ["base", "mine", "yours"] (defScope s_came_text) := ⟨rfl, rfl, rfl, by decide +kernel, rfl, by decide +kernel, by decide +kernel⟩
def m_came_text : MS := mSeq (mSet (mCall f_claimed_ends [] (mCons (mVar 0) (mCons (mVar 1) (mCons (mVar 2) (mNil))))) (gTu 2 (gCo (gNm 3) (gCo (gNm 4) (gNo)))))
  (mSeq (mIfS (mB (mOp2 gtD (mVar 3) (mVar 4)))
  (mRet (mC .non))
  (mNx))
  (mRet (mOp2 addD (mSlA (mVar 1) (mNo) (mSome (mOp2 addD (mOp2 subD (mFn lenD (mCons (mVar 1) (mNil))) (mFn lenD (mCons (mVar 0) (mNil)))) (mVar 3)))) (mSlA (mVar 2) (mSome (mVar 3)) (mNo)))))
def f_came_text : List D → R0 Rt := fbody 3 5 m_came_text
theorem q_came_text (d0 d1 d2 : D) : f_came_text [d0, d1, d2] = (m_came_text [.val d0, .val d1, .val d2, .no, .no]).out := fb_eq (n := 3) (l := 5) (m := m_came_text) (ds := [d0, d1, d2]) rfl
theorem ok_came_text {P : Program} {w : World} {K : Frag} {mg : Str → Option Value} {base : Heap} {f : Addr} {fd : FuncData} (F : Fd K "came_text" s_came_text f fd) (h_claimed_ends : Has P w K mg base 2 "claimed_ends" ["base", "mine", "yours"] f_claimed_ends) (z_len : mg "len" = none) :
    FnG P w K mg base 3 f fd ["base", "mine", "yours"] (FSp ⟨K, mg⟩ f_came_text) :=
  F.ok (k := 2) sc_came_text fun cdv A outer s H E hr hgd =>
  (sss_cons (ss_set (cH (h_claimed_ends.up (by decide)) hr hgd (sa_cons (vv 0) (sa_cons (vv 1) (sa_cons (vv 2) sa_nil)))) (sg_tu rfl (sgs_co (tg 3 sc_came_text.nd) (sgs_co (tg 4 sc_came_text.nd) sgs_no))))
  (sss_cons (ss_if (tGt' (vv 3) (vv 4))
  (sss_one (ss_ret se_non))
  sss_nil)
  (sss_one (ss_ret (oAdd (slA (vv 1) so_none (so_some (oAdd (oSub (bLen z_len (sa_cons (vv 1) sa_nil)) (bLen z_len (sa_cons (vv 0) sa_nil))) (vv 3)))) (slA (vv 2) (so_some (vv 3)) so_none))))))
/-! ### front_pick -/
abbrev s_front_pick : Stmt := topS 20
theorem sc_front_pick : FnScope ["text", "old", "new"] ["text", "old", "new"] (defScope s_front_pick) := ⟨rfl, rfl, rfl, by decide +kernel, rfl, by decide +kernel, by decide +kernel⟩
def m_front_pick : MS := mSeq (mSet (mCall f_need_three [] (mCons (mVar 0) (mCons (mVar 1) (mCons (mVar 2) (mNil))))) (gTu 3 (gCo (gNm 0) (gCo (gNm 1) (gCo (gNm 2) (gNo))))))
  (mRet (mCall f_came_text [] (mCons (mVar 1) (mCons (mVar 2) (mCons (mVar 0) (mNil))))))
def f_front_pick : List D → R0 Rt := fbody 3 3 m_front_pick
theorem q_front_pick (d0 d1 d2 : D) : f_front_pick [d0, d1, d2] = (m_front_pick [.val d0, .val d1, .val d2]).out := fb_eq (n := 3) (l := 3) (m := m_front_pick) (ds := [d0, d1, d2]) rfl
theorem ok_front_pick {P : Program} {w : World} {K : Frag} {mg : Str → Option Value} {base : Heap} {f : Addr} {fd : FuncData} (F : Fd K "front_pick" s_front_pick f fd) (h_need_three : Has P w K mg base 7 "need_three" ["base", "mine", "yours"] f_need_three) (h_came_text : Has P w K mg base 3 "came_text" ["base", "mine", "yours"] f_came_text) :
    FnG P w K mg base 8 f fd ["text", "old", "new"] (FSp ⟨K, mg⟩ f_front_pick) :=
  F.ok (k := 7) sc_front_pick fun cdv A outer s H E hr hgd =>
  (sss_cons (ss_set (cH (h_need_three.up (by decide)) hr hgd (sa_cons (vv 0) (sa_cons (vv 1) (sa_cons (vv 2) sa_nil)))) (sg_tu rfl (sgs_co (tg 0 sc_front_pick.nd) (sgs_co (tg 1 sc_front_pick.nd) (sgs_co (tg 2 sc_front_pick.nd) sgs_no)))))
  (sss_one (ss_ret (cH (h_came_text.up (by decide)) hr hgd (sa_cons (vv 1) (sa_cons (vv 2) (sa_cons (vv 0) sa_nil)))))))
/-! ### back_pick -/
abbrev s_back_pick : Stmt := topS 21
theorem sc_back_pick : FnScope ["text", "old", "new"] ["text", "old", "new"] (defScope s_back_pick) := ⟨rfl, rfl, rfl, by decide +kernel, rfl, by decide +kernel, by decide +kernel⟩
def m_back_pick : MS := mSeq (mSet (mCall f_need_three [] (mCons (mVar 0) (mCons (mVar 1) (mCons (mVar 2) (mNil))))) (gTu 3 (gCo (gNm 0) (gCo (gNm 1) (gCo (gNm 2) (gNo))))))
  (mRet (mCall f_came_text [] (mCons (mVar 1) (mCons (mVar 0) (mCons (mVar 2) (mNil))))))
def f_back_pick : List D → R0 Rt := fbody 3 3 m_back_pick
theorem q_back_pick (d0 d1 d2 : D) : f_back_pick [d0, d1, d2] = (m_back_pick [.val d0, .val d1, .val d2]).out := fb_eq (n := 3) (l := 3) (m := m_back_pick) (ds := [d0, d1, d2]) rfl
theorem ok_back_pick {P : Program} {w : World} {K : Frag} {mg : Str → Option Value} {base : Heap} {f : Addr} {fd : FuncData} (F : Fd K "back_pick" s_back_pick f fd) (h_need_three : Has P w K mg base 7 "need_three" ["base", "mine", "yours"] f_need_three) (h_came_text : Has P w K mg base 3 "came_text" ["base", "mine", "yours"] f_came_text) :
    FnG P w K mg base 8 f fd ["text", "old", "new"] (FSp ⟨K, mg⟩ f_back_pick) :=
  F.ok (k := 7) sc_back_pick fun cdv A outer s H E hr hgd =>
  (sss_cons (ss_set (cH (h_need_three.up (by decide)) hr hgd (sa_cons (vv 0) (sa_cons (vv 1) (sa_cons (vv 2) sa_nil)))) (sg_tu rfl (sgs_co (tg 0 sc_back_pick.nd) (sgs_co (tg 1 sc_back_pick.nd) (sgs_co (tg 2 sc_back_pick.nd) sgs_no)))))
  (sss_one (ss_ret (cH (h_came_text.up (by decide)) hr hgd (sa_cons (vv 1) (sa_cons (vv 0) (sa_cons (vv 2) sa_nil)))))))
/-! ### need_picks -/
abbrev s_need_picks : Stmt := topS 22
theorem sc_need_picks : FnScope ["value", "at", "deed", "side", "old", "new"] ["value"] (defScope s_need_picks) := ⟨rfl, rfl, rfl, by decide +kernel, rfl, by decide +kernel, by decide +kernel⟩
def g_need_picks_0 : G := fun d σ => (gTu 2 (gCo (gNm 1) (gCo (gNm 2) (gNo)))) d σ
def b_need_picks_0 : MS := fun σ => (mFgR 0 (mFgt [1, 2] (mSeq (mIfS (mOr (mNot (mTru (mCall f_is_sequence [] (mCons (mVar 2) (mNil))))) (mOr (mB (mOp2 neD (mFn lenD (mCons (mVar 2) (mNil))) (mC (.int 3)))) (mB (mOp2 notInT (mOp2 ixD (mVar 2) (mC (.int 0))) (mC (.tup [.str "front", .str "back"]))))))
  (mRaise "InvalidDeeds" "at" (mVar 1))
  (mNx))
  (mIfS (mOr (mNot (mTru (mCall f_is_text [] (mCons (mOp2 ixD (mVar 2) (mC (.int 1))) (mNil))))) (mNot (mTru (mCall f_is_text [] (mCons (mOp2 ixD (mVar 2) (mC (.int 2))) (mNil))))))
  (mRaise "InvalidDeeds" "at" (mVar 1))
  (mNx))))) σ
def m_need_picks : MS := mSeq (mIfS (mNot (mTru (mCall f_is_sequence [] (mCons (mVar 0) (mNil)))))
  (mRaise "InvalidDeeds" "at" (mOp1 negD (mC (.int 1))))
  (mNx))
  (mSeq (mFgt [1, 2] (mFor (mIt enum2? (mCons (mVar 0) (mNil))) g_need_picks_0 b_need_picks_0))
  (mRet (mFrz (mLc (mItems' (mVar 0)) [3, 4, 5] (gTu 3 (gCo (gNm 3) (gCo (gNm 4) (gCo (gNm 5) (gNo))))) (mYes) (mTup (mCons (mVar 3) (mCons (mFn tupD (mCons (mVar 4) (mNil))) (mCons (mFn tupD (mCons (mVar 5) (mNil))) (mNil)))))))))
def f_need_picks : List D → R0 Rt := fbody 1 6 m_need_picks
theorem q_need_picks (d0 : D) : f_need_picks [d0] = (m_need_picks [.val d0, .no, .no, .no, .no, .no]).out := fb_eq (n := 1) (l := 6) (m := m_need_picks) (ds := [d0]) rfl
theorem ok_need_picks {P : Program} {w : World} {K : Frag} {mg : Str → Option Value} {base : Heap} {f : Addr} {fd : FuncData} (F : Fd K "need_picks" s_need_picks f fd) {a_InvalidDeeds : Addr} (h_is_sequence : Has P w K mg base 1 "is_sequence" ["value"] f_is_sequence) (e_InvalidDeeds : ErrC K P mg "InvalidDeeds" "at" a_InvalidDeeds) (z_super : mg "super" = none) (z_enumerate : mg "enumerate" = none) (z_len : mg "len" = none) (p_PICK_SIDES : GlT K mg "PICK_SIDES" [.str "front", .str "back"]) (h_is_text : Has P w K mg base 5 "is_text" ["value"] f_is_text) (z_tuple : mg "tuple" = none) :
    FnG P w K mg base 6 f fd ["value"] (FSp ⟨K, mg⟩ f_need_picks) :=
  F.ok (k := 5) sc_need_picks fun cdv A outer s H E hr hgd =>
  (sss_cons (ss_if (st_not (st_tru (cH (h_is_sequence.up (by decide)) hr hgd (sa_cons (vv 0) sa_nil))))
  (sss_one (ss_raise rfl e_InvalidDeeds.sup hr (by rfl) e_InvalidDeeds.mg z_super (oNeg se_int)))
  sss_nil)
  (sss_cons (ss_fgt [1, 2] (ss_for (passes_of rfl) rfl (si_enum2 (by rfl) z_enumerate (sa_cons (vv 0) sa_nil)) (sg_tu rfl (sgs_co (tg 1 sc_need_picks.nd) (sgs_co (tg 2 sc_need_picks.nd) sgs_no)))
  (sss_fgr 0 (sss_fgt [1, 2] (sss_cons (ss_if (SW.st (sw_or (st_not (st_tru (cH (h_is_sequence.up (by decide)) hr hgd (sa_cons (vv 2) sa_nil)))) (sw_or (tNe' hr (bLen z_len (sa_cons (vv 2) sa_nil)) se_int) (sw_or1 (tNotInT' hr (ix (vv 2) se_int) (gT p_PICK_SIDES))))))
  (sss_one (ss_raise rfl e_InvalidDeeds.sup hr (by rfl) e_InvalidDeeds.mg z_super (vv 1)))
  sss_nil)
  (sss_one (ss_if (SW.st (sw_or (st_not (st_tru (cH (h_is_text.up (by decide)) hr hgd (sa_cons (ix (vv 2) se_int) sa_nil)))) (sw_or1 (st_not (st_tru (cH (h_is_text.up (by decide)) hr hgd (sa_cons (ix (vv 2) se_int) sa_nil)))))))
  (sss_one (ss_raise rfl e_InvalidDeeds.sup hr (by rfl) e_InvalidDeeds.mg z_super (vv 1)))
  sss_nil)))))))
  (sss_one (ss_ret (se_frz (sl_lc (own := [("side", 3), ("old", 4), ("new", 5)]) rfl sc_need_picks.nd (si_seq (vv 0)) (blkOk_by (N := ["value", "at", "deed", "side", "old", "new"]) (sc := defScope s_need_picks) (by decide +kernel)) (fun _ _ _ _ _ => (wg_tu rfl (wgs_co (tw 3 sc_need_picks.nd) (wgs_co (tw 4 sc_need_picks.nd) (wgs_co (tw 5 sc_need_picks.nd) wgs_no))))) (fun _ _ _ _ _ => sts_nil) (fun _ _ _ _ _ => (se_tup (sa_cons (vv 3) (sa_cons (bTuple z_tuple (sa_cons (vv 4) sa_nil)) (sa_cons (bTuple z_tuple (sa_cons (vv 5) sa_nil)) sa_nil)))))))))))
/-! ### pick_row -/
abbrev s_pick_row : Stmt := topS 23
theorem sc_pick_row : FnScope ["text", "deeds", "at", "side", "old", "new"] ["text", "deeds"] (defScope s_pick_row) := ⟨rfl, rfl, rfl, by decide +kernel, rfl, by decide +kernel, by decide +kernel⟩
def g_pick_row_0 : G := fun d σ => (gTu 2 (gCo (gNm 2) (gCo (gTu 3 (gCo (gNm 3) (gCo (gNm 4) (gCo (gNm 5) (gNo))))) (gNo)))) d σ
def b_pick_row_0 : MS := fun σ => (mFgR 0 (mFgt [2, 3, 4, 5] (mSeq (mSet (mIf (mB (mOp2 eqD (mVar 3) (mC (.str "front")))) (mCall f_came_text [] (mCons (mVar 4) (mCons (mVar 5) (mCons (mVar 0) (mNil))))) (mCall f_came_text [] (mCons (mVar 4) (mCons (mVar 0) (mCons (mVar 5) (mNil)))))) (gNm 0))
  (mIfS (mB (mOp2 isD (mVar 0) (mC .non)))
  (mRet (mTup (mCons (mC (.str "stuck")) (mCons (mVar 2) (mNil)))))
  (mNx))))) σ
def m_pick_row : MS := mSeq (mSet (mCall f_need_text [.int (-1)] (mCons (mVar 0) (mNil))) (gNm 0))
  (mSeq (mFgt [2, 3, 4, 5] (mFor (mIt enum2? (mCons (mCall f_need_picks [] (mCons (mVar 1) (mNil))) (mNil))) g_pick_row_0 b_pick_row_0))
  (mRet (mTup (mCons (mC (.str "comes")) (mCons (mVar 0) (mNil))))))
def f_pick_row : List D → R0 Rt := fbody 2 6 m_pick_row
theorem q_pick_row (d0 d1 : D) : f_pick_row [d0, d1] = (m_pick_row [.val d0, .val d1, .no, .no, .no, .no]).out := fb_eq (n := 2) (l := 6) (m := m_pick_row) (ds := [d0, d1]) rfl
theorem ok_pick_row {P : Program} {w : World} {K : Frag} {mg : Str → Option Value} {base : Heap} {f : Addr} {fd : FuncData} (F : Fd K "pick_row" s_pick_row f fd) (D1_need_text : HasD P w K mg base 6 "need_text" ["value", "at"] [.int (-1)] f_need_text) (h_need_picks : Has P w K mg base 6 "need_picks" ["value"] f_need_picks) (z_enumerate : mg "enumerate" = none) (h_came_text : Has P w K mg base 3 "came_text" ["base", "mine", "yours"] f_came_text) :
    FnG P w K mg base 7 f fd ["text", "deeds"] (FSp ⟨K, mg⟩ f_pick_row) :=
  F.ok (k := 6) sc_pick_row fun cdv A outer s H E hr hgd =>
  (sss_cons (ss_set (cHD (D1_need_text.up (by decide)) hr hgd (sa_cons (vv 0) sa_nil)) (tg 0 sc_pick_row.nd))
  (sss_cons (ss_fgt [2, 3, 4, 5] (ss_for (passes_of rfl) rfl (si_enum2 (by rfl) z_enumerate (sa_cons (cH (h_need_picks.up (by decide)) hr hgd (sa_cons (vv 1) sa_nil)) sa_nil)) (sg_tu rfl (sgs_co (tg 2 sc_pick_row.nd) (sgs_co (sg_tu rfl (sgs_co (tg 3 sc_pick_row.nd) (sgs_co (tg 4 sc_pick_row.nd) (sgs_co (tg 5 sc_pick_row.nd) sgs_no)))) sgs_no)))
  (sss_fgr 0 (sss_fgt [2, 3, 4, 5] (sss_cons (ss_set (se_if (tEq' hr (vv 3) se_str) (cH (h_came_text.up (by decide)) hr hgd (sa_cons (vv 4) (sa_cons (vv 5) (sa_cons (vv 0) sa_nil)))) (cH (h_came_text.up (by decide)) hr hgd (sa_cons (vv 4) (sa_cons (vv 0) (sa_cons (vv 5) sa_nil))))) (tg 0 sc_pick_row.nd))
  (sss_one (ss_if (tIs' (vv 0) se_non)
  (sss_one (ss_ret (se_tup (sa_cons se_str (sa_cons (vv 2) sa_nil)))))
  sss_nil)))))))
  (sss_one (ss_ret (se_tup (sa_cons se_str (sa_cons (vv 0) sa_nil)))))))
/-! ### _law_box -/
abbrev s__law_box : Stmt := topS 25
theorem sc__law_box : FnScope ["_law_script", "_law_k", "_law_cell"] ["_law_script", "_law_k"] (defScope s__law_box) := ⟨rfl, rfl, rfl, by decide +kernel, rfl, by decide +kernel, by decide +kernel⟩
def m__law_box : MS := mSeq (mSet (mOp2 addD (mOp2 mulD (mC (.int 43163)) (mVar 1)) (mC (.int 3299))) (gNm 2))
  (mSeq (mIfS (mB (mOp2 ltD (mVar 1) (mFn lenD (mCons (mVar 0) (mNil)))))
  (mSet (mFn absD (mCons (mOp2 ixD (mVar 0) (mVar 1)) (mNil))) (gNm 2))
  (mIfS (mB (mOp2 gtD (mFn lenD (mCons (mVar 0) (mNil))) (mC (.int 0))))
  (mSet (mOp2 addD (mVar 2) (mOp2 mulD (mOp2 modD (mFn intD (mCons (mFn absD (mCons (mOp2 ixD (mVar 0) (mOp2 modD (mFn intD (mCons (mVar 1) (mNil))) (mFn lenD (mCons (mVar 0) (mNil))))) (mNil))) (mNil))) (mC (.int 2147483629))) (mC (.int 67103)))) (gNm 2))
  (mNx)))
  (mRetL (mLst (mCons (mOp2 ixD (mFrz (mLst (mCons (mC (.int 0)) (mCons (mVar 2) (mNil))))) (mFn intD (mCons (mOp2 geD (mVar 2) (mOp2 powD (mC (.int 10)) (mC (.int 18)))) (mNil)))) (mCons (mOp2 addD (mOp2 modD (mFn intD (mCons (mOp2 addD (mOp2 mulD (mOp2 modD (mFn intD (mCons (mVar 2) (mNil))) (mC (.int 2147483629))) (mC (.int 48271))) (mOp2 mulD (mC (.int 50131)) (mVar 1))) (mNil))) (mC (.int 2147483629))) (mC (.int 1))) (mCons (mC (.int 0)) (mNil)))))))
def f__law_box : List D → R0 Rt := fbody 2 3 m__law_box
theorem q__law_box (d0 d1 : D) : f__law_box [d0, d1] = (m__law_box [.val d0, .val d1, .no]).out := fb_eq (n := 2) (l := 3) (m := m__law_box) (ds := [d0, d1]) rfl
theorem ok__law_box {P : Program} {w : World} {K : Frag} {mg : Str → Option Value} {base : Heap} {f : Addr} {fd : FuncData} (F : Fd K "_law_box" s__law_box f fd) (z_len : mg "len" = none) (z_abs : mg "abs" = none) (z_int : mg "int" = none) :
    FnG P w K mg base 1 f fd ["_law_script", "_law_k"] (FSp ⟨K, mg⟩ f__law_box) :=
  F.ok (k := 0) sc__law_box fun cdv A outer s H E hr hgd =>
  (sss_cons (ss_set (oAdd (oMul se_int (vv 1)) se_int) (tg 2 sc__law_box.nd))
  (sss_cons (ss_if (tLt' (vv 1) (bLen z_len (sa_cons (vv 0) sa_nil)))
  (sss_one (ss_set (bAbs z_abs (sa_cons (ix (vv 0) (vv 1)) sa_nil)) (tg 2 sc__law_box.nd)))
  (sss_one (ss_if (tGt' (bLen z_len (sa_cons (vv 0) sa_nil)) se_int)
  (sss_one (ss_set (oAdd (vv 2) (oMul (oMod (bInt z_int (sa_cons (bAbs z_abs (sa_cons (ix (vv 0) (oMod (bInt z_int (sa_cons (vv 1) sa_nil)) (bLen z_len (sa_cons (vv 0) sa_nil)))) sa_nil)) sa_nil)) se_int) se_int)) (tg 2 sc__law_box.nd)))
  sss_nil)))
  (sss_one (ss_retL (sl_lst (sa_cons (ix (se_frz (sl_lst (sa_cons se_int (sa_cons (vv 2) sa_nil)))) (bInt z_int (sa_cons (oGe (vv 2) (oPow se_int se_int)) sa_nil))) (sa_cons (oAdd (oMod (bInt z_int (sa_cons (oAdd (oMul (oMod (bInt z_int (sa_cons (vv 2) sa_nil)) se_int) se_int) (oMul se_int (vv 1))) sa_nil)) se_int) se_int) (sa_cons se_int sa_nil))))))))
/-! ### _law_take -/
abbrev s__law_take : Stmt := topS 26
theorem sc__law_take : FnScope ["_law_box_here", "_law_many", "_law_digit", "_law_raw"] ["_law_box_here", "_law_many"] (defScope s__law_take) := ⟨rfl, rfl, rfl, by decide +kernel, rfl, by decide +kernel, by decide +kernel⟩
def m__law_take : MS := mSeq (mFgt [2] (mIfS (mB (mOp2 gtD (mIxO 0 (mC (.int 0))) (mC (.int 0))))
  (mSeq (mSet (mOp2 modD (mFn intD (mCons (mIxO 0 (mC (.int 0))) (mNil))) (mVar 1)) (gNm 2))
  (mSeq (mPut 0 (mOp2 divD (mIxO 0 (mC (.int 0))) (mVar 1)) (mC (.int 0)))
  (mRet (mVar 2))))
  (mNx)))
  (mSeq (mPut 0 (mOp2 addD (mIxO 0 (mC (.int 2))) (mC (.int 1))) (mC (.int 2)))
  (mSeq (mSet (mOp2 modD (mFn intD (mCons (mOp2 addD (mOp2 mulD (mOp2 addD (mIxO 0 (mC (.int 1))) (mOp2 mulD (mC (.int 101909)) (mIxO 0 (mC (.int 2))))) (mC (.int 67819))) (mC (.int 41))) (mNil))) (mC (.int 2147483563))) (gNm 3))
  (mSeq (mPut 0 (mOp2 addD (mOp2 modD (mFn intD (mCons (mOp2 addD (mOp2 mulD (mVar 3) (mC (.int 39373))) (mC (.int 27901))) (mNil))) (mC (.int 2147483629))) (mC (.int 1))) (mC (.int 1)))
  (mRet (mOp2 modD (mFn intD (mCons (mOp2 divD (mOp2 addD (mOp2 mulD (mVar 3) (mC (.int 2147483647))) (mIxO 0 (mC (.int 1)))) (mC (.int 8191))) (mNil))) (mVar 1))))))
def fb__law_take : List D → List D → R0 (Rt × List D) := fbodyB 2 4 m__law_take
theorem q__law_take (xs : List D) (d1 : D) : fb__law_take xs [d1] = (m__law_take [.own true xs, .val d1, .no, .no]).outB := fbB_eq (n := 2) (l := 4) (m := m__law_take) (xs := xs) (ds := [d1]) rfl
theorem ok__law_take {P : Program} {w : World} {K : Frag} {mg : Str → Option Value} {base : Heap} {f : Addr} {fd : FuncData} (F : Fd K "_law_take" s__law_take f fd) (z_int : mg "int" = none) :
    FnG P w K mg base 1 f fd ["_law_box_here", "_law_many"] (FSpB ⟨K, mg⟩ fb__law_take) :=
  F.okB (k := 0) sc__law_take fun cdv A outer s H E hr hgd =>
  (sss_cons (ss_fgt [2] (ss_if (tGt' (ixO 0 se_int) se_int)
  (sss_cons (ss_set (oMod (bInt z_int (sa_cons (ixO 0 se_int) sa_nil)) (vv 1)) (tg 2 sc__law_take.nd))
  (sss_cons (ss_put (i := 0) rfl (by first | exact Or.inl rfl | exact Or.inr (Or.inl rfl)) (oDiv (ixO 0 se_int) (vv 1)) se_int (by intro _; rfl) rfl rfl rfl)
  (sss_one (ss_ret (vv 2)))))
  sss_nil))
  (sss_cons (ss_put (i := 0) rfl (by first | exact Or.inl rfl | exact Or.inr (Or.inl rfl)) (oAdd (ixO 0 se_int) se_int) se_int (by intro _; rfl) rfl rfl rfl)
  (sss_cons (ss_set (oMod (bInt z_int (sa_cons (oAdd (oMul (oAdd (ixO 0 se_int) (oMul se_int (ixO 0 se_int))) se_int) se_int) sa_nil)) se_int) (tg 3 sc__law_take.nd))
  (sss_cons (ss_put (i := 0) rfl (by first | exact Or.inl rfl | exact Or.inr (Or.inl rfl)) (oAdd (oMod (bInt z_int (sa_cons (oAdd (oMul (vv 3) se_int) se_int) sa_nil)) se_int) se_int) se_int (by intro _; rfl) rfl rfl rfl)
  (sss_one (ss_ret (oMod (bInt z_int (sa_cons (oDiv (oAdd (oMul (vv 3) se_int) (ixO 0 se_int)) se_int) sa_nil)) (vv 1))))))))
/-! ### _law_pick -/
abbrev s__law_pick : Stmt := topS 27
theorem sc__law_pick : FnScope ["_law_box_here", "_law_some"] ["_law_box_here", "_law_some"] (defScope s__law_pick) := ⟨rfl, rfl, rfl, by decide +kernel, rfl, by decide +kernel, by decide +kernel⟩
def m__law_pick : MS := mRet (mOp2 ixD (mVar 1) (mCallB 0 fb__law_take (mCons (mFn lenD (mCons (mVar 1) (mNil))) (mNil))))
def fb__law_pick : List D → List D → R0 (Rt × List D) := fbodyB 2 2 m__law_pick
theorem q__law_pick (xs : List D) (d1 : D) : fb__law_pick xs [d1] = (m__law_pick [.own true xs, .val d1]).outB := fbB_eq (n := 2) (l := 2) (m := m__law_pick) (xs := xs) (ds := [d1]) rfl
theorem ok__law_pick {P : Program} {w : World} {K : Frag} {mg : Str → Option Value} {base : Heap} {f : Addr} {fd : FuncData} (F : Fd K "_law_pick" s__law_pick f fd) (z_len : mg "len" = none) (h_law_take : HasB P w K mg base 1 "_law_take" ["_law_box_here", "_law_many"] fb__law_take) :
    FnG P w K mg base 2 f fd ["_law_box_here", "_law_some"] (FSpB ⟨K, mg⟩ fb__law_pick) :=
  F.okB (k := 1) sc__law_pick fun cdv A outer s H E hr hgd =>
  (sss_one (ss_ret (ix (vv 1) (cB 0 (h_law_take.up (by decide)) hr hgd (sa_cons (bLen z_len (sa_cons (vv 1) sa_nil)) sa_nil)))))
/-! ### _law_word -/
abbrev s__law_word : Stmt := topS 28
theorem sc__law_word : FnScope ["_law_texts", "_law_word_here", "_law_spot", "_law_text_here", "_law_sign", "_law_letter"] ["_law_texts"] (defScope s__law_word) := ⟨rfl, rfl, rfl, by decide +kernel, rfl, by decide +kernel, by decide +kernel⟩
def g__law_word_0 : G := fun d σ => (gNm 5) d σ
def b__law_word_0 : MS := fun σ => (mFgt [5] (mIfS (mAnd (mEi 1 (mB (mLook 1 neD (mFrz (mLst (mNil))))) (mB (mOp2 neD (mVar 1) (mFrz (mLst (mNil)))))) (mB (mOp2 eqD (mEi 1 (mIxO 1 (mOp1 negD (mC (.int 1)))) (mOp2 ixD (mVar 1) (mOp1 negD (mC (.int 1))))) (mTup (mCons (mVar 5) (mCons (mOp2 subD (mC (.int 0)) (mVar 4)) (mNil)))))))
  (mDrop (mPop 1))
  (mAppO 1 (mTup (mCons (mVar 5) (mCons (mVar 4) (mNil))))))) σ
def g__law_word_1 : G := fun d σ => (gTu 2 (gCo (gNm 2) (gCo (gNm 3) (gNo)))) d σ
def b__law_word_1 : MS := fun σ => (mFgt [2, 3, 4, 5] (mSeq (mSet (mOp2 subD (mC (.int 1)) (mOp2 mulD (mC (.int 2)) (mOp2 modD (mVar 2) (mC (.int 2))))) (gNm 4))
  (mFgt [5] (mFor (mItems' (mStep (mVar 3) (mVar 4))) g__law_word_0 b__law_word_0)))) σ
def m__law_word : MS := mSeq (mOwn 1 (mLst (mNil)))
  (mSeq (mFgt [2, 3, 4, 5] (mFor (mIt enum2? (mCons (mVar 0) (mNil))) g__law_word_1 b__law_word_1))
  (mRet (mFn tupD (mCons (mVar 1) (mNil)))))
def f__law_word : List D → R0 Rt := fbody 1 6 m__law_word
theorem q__law_word (d0 : D) : f__law_word [d0] = (m__law_word [.val d0, .no, .no, .no, .no, .no]).out := fb_eq (n := 1) (l := 6) (m := m__law_word) (ds := [d0]) rfl
theorem ok__law_word {P : Program} {w : World} {K : Frag} {mg : Str → Option Value} {base : Heap} {f : Addr} {fd : FuncData} (F : Fd K "_law_word" s__law_word f fd) (z_enumerate : mg "enumerate" = none) (z_tuple : mg "tuple" = none) :
    FnG P w K mg base 1 f fd ["_law_texts"] (FSp ⟨K, mg⟩ f__law_word) :=
  F.ok (k := 0) sc__law_word fun cdv A outer s H E hr hgd =>
  (sss_cons (ss_own (i := 1) sc__law_word.nd rfl (by first | exact Or.inl rfl | exact Or.inr rfl) (sl_lst sa_nil))
  (sss_cons (ss_fgt [2, 3, 4, 5] (ss_for (passes_of rfl) rfl (si_enum2 (by rfl) z_enumerate (sa_cons (vv 0) sa_nil)) (sg_tu rfl (sgs_co (tg 2 sc__law_word.nd) (sgs_co (tg 3 sc__law_word.nd) sgs_no)))
  (sss_fgt [2, 3, 4, 5] (sss_cons (ss_set (oSub se_int (oMul se_int (oMod (vv 2) se_int))) (tg 4 sc__law_word.nd))
  (sss_one (ss_fgt [5] (ss_for (passes_of rfl) rfl (si_seq (se_step (vv 3) (vv 4))) (tg 5 sc__law_word.nd)
  (sss_fgt [5] (sss_one (ss_if (SW.st (sw_and (st_ei 1 (neT 1 hr (se_frz (sl_lst sa_nil))) (tNe' hr (vv 1) (se_frz (sl_lst sa_nil)))) (sw_and1 (tEq' hr (se_ei 1 (ixO 1 (oNeg se_int)) (ix (vv 1) (oNeg se_int))) (se_tup (sa_cons (vv 5) (sa_cons (oSub se_int (vv 4)) sa_nil)))))))
  (sss_one (ss_drop (pop0 1)))
  (sss_one (app 1 (se_tup (sa_cons (vv 5) (sa_cons (vv 4) sa_nil)))))))))))))))
  (sss_one (ss_ret (bTuple z_tuple (sa_cons (vv 1) sa_nil))))))
/-! ### _law_text -/
abbrev s__law_text : Stmt := topS 29
theorem sc__law_text : FnScope ["_law_texts", "_law_word_here", "_law_letter", "_law_sign"] ["_law_texts"] (defScope s__law_text) := ⟨rfl, rfl, rfl, by decide +kernel, rfl, by decide +kernel, by decide +kernel⟩
def m__law_text : MS := mSeq (mSet (mCall f__law_word [] (mCons (mVar 0) (mNil))) (gNm 1))
  (mRet (mIf (mB (mOp2 inD (mOp1 negD (mC (.int 1))) (mFrz (mLc (mItems' (mVar 1)) [2, 3] (gTu 2 (gCo (gNm 2) (gCo (gNm 3) (gNo)))) (mYes) (mVar 3))))) (mC .non) (mFn tupD (mCons (mFrz (mLc (mItems' (mVar 1)) [2, 3] (gTu 2 (gCo (gNm 2) (gCo (gNm 3) (gNo)))) (mYes) (mVar 2))) (mNil)))))
def f__law_text : List D → R0 Rt := fbody 1 4 m__law_text
theorem q__law_text (d0 : D) : f__law_text [d0] = (m__law_text [.val d0, .no, .no, .no]).out := fb_eq (n := 1) (l := 4) (m := m__law_text) (ds := [d0]) rfl
theorem ok__law_text {P : Program} {w : World} {K : Frag} {mg : Str → Option Value} {base : Heap} {f : Addr} {fd : FuncData} (F : Fd K "_law_text" s__law_text f fd) (h_law_word : Has P w K mg base 1 "_law_word" ["_law_texts"] f__law_word) (z_tuple : mg "tuple" = none) :
    FnG P w K mg base 2 f fd ["_law_texts"] (FSp ⟨K, mg⟩ f__law_text) :=
  F.ok (k := 1) sc__law_text fun cdv A outer s H E hr hgd =>
  (sss_cons (ss_set (cH (h_law_word.up (by decide)) hr hgd (sa_cons (vv 0) sa_nil)) (tg 1 sc__law_text.nd))
  (sss_one (ss_ret (se_if (tIn' hr (oNeg se_int) (se_frz (sl_lc (own := [("_law_letter", 2), ("_law_sign", 3)]) rfl sc__law_text.nd (si_seq (vv 1)) (blkOk_by (N := ["_law_texts", "_law_word_here", "_law_letter", "_law_sign"]) (sc := defScope s__law_text) (by decide +kernel)) (fun _ _ _ _ _ => (wg_tu rfl (wgs_co (tw 2 sc__law_text.nd) (wgs_co (tw 3 sc__law_text.nd) wgs_no)))) (fun _ _ _ _ _ => sts_nil) (fun _ _ _ _ _ => (vv 3))))) se_non (bTuple z_tuple (sa_cons (se_frz (sl_lc (own := [("_law_letter", 2), ("_law_sign", 3)]) rfl sc__law_text.nd (si_seq (vv 1)) (blkOk_by (N := ["_law_texts", "_law_word_here", "_law_letter", "_law_sign"]) (sc := defScope s__law_text) (by decide +kernel)) (fun _ _ _ _ _ => (wg_tu rfl (wgs_co (tw 2 sc__law_text.nd) (wgs_co (tw 3 sc__law_text.nd) wgs_no)))) (fun _ _ _ _ _ => sts_nil) (fun _ _ _ _ _ => (vv 2)))) sa_nil))))))
/-! ### _law_row -/
abbrev s__law_row : Stmt := topS 30
theorem sc__law_row : FnScope ["_law_box_here", "_law_letters", "_law_longest", "_law_spot"] ["_law_box_here", "_law_letters", "_law_longest"] (defScope s__law_row) := ⟨rfl, rfl, rfl, by decide +kernel, rfl, by decide +kernel, by decide +kernel⟩
def m__law_row : MS := mRet (mFn tupD (mCons (mFrz (mLc (mIt rng1? (mCons (mCallB 0 fb__law_take (mCons (mOp2 addD (mVar 2) (mC (.int 1))) (mNil))) (mNil))) [3] (gNm 3) (mYes) (mOp2 ixD (mTup (mCons (mC (.int 3)) (mCons (mC (.int 47)) (mCons (mC (.int 99)) (mNil))))) (mCallB 0 fb__law_take (mCons (mVar 1) (mNil)))))) (mNil)))
def fb__law_row : List D → List D → R0 (Rt × List D) := fbodyB 3 4 m__law_row
theorem q__law_row (xs : List D) (d1 d2 : D) : fb__law_row xs [d1, d2] = (m__law_row [.own true xs, .val d1, .val d2, .no]).outB := fbB_eq (n := 3) (l := 4) (m := m__law_row) (xs := xs) (ds := [d1, d2]) rfl
theorem ok__law_row {P : Program} {w : World} {K : Frag} {mg : Str → Option Value} {base : Heap} {f : Addr} {fd : FuncData} (F : Fd K "_law_row" s__law_row f fd) (h_law_take : HasB P w K mg base 1 "_law_take" ["_law_box_here", "_law_many"] fb__law_take) (z_range : mg "range" = none) (z_tuple : mg "tuple" = none) :
    FnG P w K mg base 2 f fd ["_law_box_here", "_law_letters", "_law_longest"] (FSpB ⟨K, mg⟩ fb__law_row) :=
  F.okB (k := 1) sc__law_row fun cdv A outer s H E hr hgd =>
  (sss_one (ss_ret (bTuple z_tuple (sa_cons (se_frz (sl_lc (own := [("_law_spot", 3)]) rfl sc__law_row.nd (si_rng1 (by rfl) z_range (sa_cons (cB 0 (h_law_take.up (by decide)) hr hgd (sa_cons (oAdd (vv 2) se_int) sa_nil)) sa_nil)) (blkOk_by (N := ["_law_box_here", "_law_letters", "_law_longest", "_law_spot"]) (sc := defScope s__law_row) (by decide +kernel)) (fun _ _ _ _ _ => (tw 3 sc__law_row.nd)) (fun _ _ _ _ _ => sts_nil) (fun _ _ _ _ _ => (ix (se_tup (sa_cons se_int (sa_cons se_int (sa_cons se_int sa_nil)))) (cB 0 (h_law_take.up (by decide)) hr hgd (sa_cons (vv 1) sa_nil)))))) sa_nil))))
/-! ### _law_refused -/
abbrev s__law_refused : Stmt := topS 31
theorem sc__law_refused : FnScope ["_law_text_here", "_law_deeds", "e"] ["_law_text_here", "_law_deeds"] (defScope s__law_refused) := ⟨rfl, rfl, rfl, by decide +kernel, rfl, by decide +kernel, by decide +kernel⟩
def m__law_refused : MS := mSeq (mTryN (mDrop (mCall f_pick_row [] (mCons (mVar 0) (mCons (mVar 1) (mNil))))) [⟨2, catN "InvalidDeeds" ["InvalidText"], fIf (cat1 "InvalidDeeds") (fTup (xCons (fun _ _ => some (.str "deeds")) (xCons (fAt ["InvalidDeeds"] "at") (fun _ _ => some [])))) (fun _ _ => some .non)⟩, ⟨2, catN "InvalidText" ["InvalidDeeds"], fTup (xCons (fun _ _ => some (.str "text")) (xCons (fAt ["InvalidText"] "at") (fun _ _ => some [])))⟩])
  (mRet (mC .non))
def f__law_refused : List D → R0 Rt := fbody 2 3 m__law_refused
theorem q__law_refused (d0 d1 : D) : f__law_refused [d0, d1] = (m__law_refused [.val d0, .val d1, .no]).out := fb_eq (n := 2) (l := 3) (m := m__law_refused) (ds := [d0, d1]) rfl
theorem ok__law_refused {P : Program} {w : World} {K : Frag} {mg : Str → Option Value} {base : Heap} {f : Addr} {fd : FuncData} (F : Fd K "_law_refused" s__law_refused f fd) {a_InvalidDeeds : Addr} {a_InvalidText : Addr} {a_MergeError : Addr} (h_pick_row : Has P w K mg base 7 "pick_row" ["text", "deeds"] f_pick_row) (e_InvalidDeeds : ErrC K P mg "InvalidDeeds" "at" a_InvalidDeeds) (e_InvalidText : ErrC K P mg "InvalidText" "at" a_InvalidText) (g_MergeError : mg "MergeError" = some (.ref a_MergeError)) (k_InvalidDeeds_MergeError : PySem.W.kitOne K (.ref a_InvalidDeeds) (.ref a_MergeError) = some true) (z_isinstance : mg "isinstance" = none) (kn_InvalidText_InvalidDeeds : PySem.W.exmOne K (.ref a_InvalidText) (.ref a_InvalidDeeds) = some false) (kn_InvalidDeeds_InvalidText : PySem.W.exmOne K (.ref a_InvalidDeeds) (.ref a_InvalidText) = some false) :
    FnG P w K mg base 8 f fd ["_law_text_here", "_law_deeds"] (FSp ⟨K, mg⟩ f__law_refused) :=
  F.ok (k := 7) sc__law_refused fun cdv A outer s H E hr hgd =>
  (sss_cons (ss_tryN rfl rfl sc__law_refused.nd (ClN.cons (q := ⟨2, catN "InvalidDeeds" ["InvalidText"], fIf (cat1 "InvalidDeeds") (fTup (xCons (fun _ _ => some (.str "deeds")) (xCons (fAt ["InvalidDeeds"] "at") (fun _ _ => some [])))) (fun _ _ => some .non)⟩) rfl rfl ⟨by rfl, by decide, .inl e_InvalidDeeds.mg⟩ (catN_ok e_InvalidDeeds (not_cons e_InvalidText kn_InvalidText_InvalidDeeds not_nil)) (sx_if (sx_isi rfl (.inl rfl) (by rfl) z_isinstance (by rfl) g_MergeError (isi1 e_InvalidDeeds k_InvalidDeeds_MergeError)) (sx_tup (sxs_cons sx_str (sxs_cons (sx_at (cs := ["InvalidDeeds"]) rfl (.inl rfl) (at1 e_InvalidDeeds)) sxs_nil))) sx_non) (ClN.cons (q := ⟨2, catN "InvalidText" ["InvalidDeeds"], fTup (xCons (fun _ _ => some (.str "text")) (xCons (fAt ["InvalidText"] "at") (fun _ _ => some [])))⟩) rfl rfl ⟨by rfl, by decide, .inl e_InvalidText.mg⟩ (catN_ok e_InvalidText (not_cons e_InvalidDeeds kn_InvalidDeeds_InvalidText not_nil)) (sx_tup (sxs_cons sx_str (sxs_cons (sx_at (cs := ["InvalidText"]) rfl (.inl rfl) (at1 e_InvalidText)) sxs_nil))) ClN.nil)) (fun _ _ po => (sss_one (ss_drop (cH (h_pick_row.up (by decide)) hr hgd (sa_cons (vv 0) (sa_cons (vv 1) sa_nil)))))))
  (sss_one (ss_ret se_non)))
/-! ### _law_refused_pick -/
abbrev s__law_refused_pick : Stmt := topS 32
theorem sc__law_refused_pick : FnScope ["_law_work", "_law_text_here", "_law_old", "_law_new", "e"] ["_law_work", "_law_text_here", "_law_old", "_law_new"] (defScope s__law_refused_pick) := ⟨rfl, rfl, rfl, by decide +kernel, rfl, by decide +kernel, by decide +kernel⟩
def tab : List (Str × (List D → R0 Rt)) := [("front_pick", f_front_pick), ("back_pick", f_back_pick)]
def m__law_refused_pick : MS := mSeq (mTryR 4 (mDrop (mCallV 0 tab (mCons (mVar 1) (mCons (mVar 2) (mCons (mVar 3) (mNil)))))) (cat1 "InvalidText") (fAt ["InvalidText"] "at"))
  (mRet (mC .non))
def f__law_refused_pick : List D → R0 Rt := fbody 4 5 m__law_refused_pick
theorem q__law_refused_pick (d0 d1 d2 d3 : D) : f__law_refused_pick [d0, d1, d2, d3] = (m__law_refused_pick [.val d0, .val d1, .val d2, .val d3, .no]).out := fb_eq (n := 4) (l := 5) (m := m__law_refused_pick) (ds := [d0, d1, d2, d3]) rfl
theorem ok__law_refused_pick {P : Program} {w : World} {K : Frag} {mg : Str → Option Value} {base : Heap} {f : Addr} {fd : FuncData} (F : Fd K "_law_refused_pick" s__law_refused_pick f fd) {a_InvalidText : Addr} (h_back_pick : Has P w K mg base 8 "back_pick" ["text", "old", "new"] f_back_pick) (h_front_pick : Has P w K mg base 8 "front_pick" ["text", "old", "new"] f_front_pick) (e_InvalidText : ErrC K P mg "InvalidText" "at" a_InvalidText) :
    FnG P w K mg base 9 f fd ["_law_work", "_law_text_here", "_law_old", "_law_new"] (FSp ⟨K, mg⟩ f__law_refused_pick) :=
  F.ok (k := 8) sc__law_refused_pick fun cdv A outer s H E hr hgd =>
  (sss_cons (ss_tryR (i := 4) rfl rfl sc__law_refused_pick.nd rfl rfl ⟨by rfl, by decide, .inl e_InvalidText.mg⟩ (cat1_ok e_InvalidText) (fun _ _ po => (sss_one (ss_drop (cV 0 (tb := tab) (tab_cons (h_front_pick.up (by decide)) (tab_cons (h_back_pick.up (by decide)) tab_nil)) hr hgd (sa_cons (vv 1) (sa_cons (vv 2) (sa_cons (vv 3) sa_nil))))))) (sx_at (cs := ["InvalidText"]) rfl (.inl rfl) (at1 e_InvalidText)))
  (sss_one (ss_ret se_non)))
/-! ### _law_put -/
abbrev s__law_put : Stmt := topS 33
theorem sc__law_put : FnScope ["_law_side", "_law_text_here", "_law_old", "_law_new"] ["_law_side", "_law_text_here", "_law_old", "_law_new"] (defScope s__law_put) := ⟨rfl, rfl, rfl, by decide +kernel, rfl, by decide +kernel, by decide +kernel⟩
def m__law_put : MS := mRet (mCall f__law_text [] (mCons (mIf (mB (mOp2 eqD (mVar 0) (mC (.str "front")))) (mFrz (mLst (mCons (mVar 3) (mCons (mVar 2) (mCons (mVar 1) (mNil)))))) (mFrz (mLst (mCons (mVar 1) (mCons (mVar 2) (mCons (mVar 3) (mNil))))))) (mNil)))
def f__law_put : List D → R0 Rt := fbody 4 4 m__law_put
theorem q__law_put (d0 d1 d2 d3 : D) : f__law_put [d0, d1, d2, d3] = (m__law_put [.val d0, .val d1, .val d2, .val d3]).out := fb_eq (n := 4) (l := 4) (m := m__law_put) (ds := [d0, d1, d2, d3]) rfl
theorem ok__law_put {P : Program} {w : World} {K : Frag} {mg : Str → Option Value} {base : Heap} {f : Addr} {fd : FuncData} (F : Fd K "_law_put" s__law_put f fd) (h_law_text : Has P w K mg base 2 "_law_text" ["_law_texts"] f__law_text) :
    FnG P w K mg base 3 f fd ["_law_side", "_law_text_here", "_law_old", "_law_new"] (FSp ⟨K, mg⟩ f__law_put) :=
  F.ok (k := 2) sc__law_put fun cdv A outer s H E hr hgd =>
  (sss_one (ss_ret (cH (h_law_text.up (by decide)) hr hgd (sa_cons (se_if (tEq' hr (vv 0) se_str) (se_frz (sl_lst (sa_cons (vv 3) (sa_cons (vv 2) (sa_cons (vv 1) sa_nil))))) (se_frz (sl_lst (sa_cons (vv 1) (sa_cons (vv 2) (sa_cons (vv 3) sa_nil)))))) sa_nil))))
/-! ### _law_deed -/
abbrev s__law_deed : Stmt := topS 34
theorem sc__law_deed : FnScope ["_law_box_here", "_law_text_here", "_law_letters", "_law_side", "_law_size", "_law_rest", "_law_new"] ["_law_box_here", "_law_text_here", "_law_letters"] (defScope s__law_deed) := ⟨rfl, rfl, rfl, by decide +kernel, rfl, by decide +kernel, by decide +kernel⟩
def m__law_deed : MS := mSeq (mPar3 3 4 5 (mMv (mCallB 0 fb__law_pick (mCons (mFrz (mLst (mCons (mC (.str "front")) (mCons (mC (.str "back")) (mNil))))) (mNil))) (mMv (mCallB 0 fb__law_take (mCons (mOp2 addD (mFn lenD (mCons (mVar 1) (mNil))) (mC (.int 1))) (mNil))) (mMv (mCallB 0 fb__law_row (mCons (mVar 2) (mCons (mC (.int 2)) (mNil)))) (mMn)))))
  (mSeq (mSet (mCallB 0 fb__law_row (mCons (mVar 2) (mCons (mC (.int 2)) (mNil)))) (gNm 6))
  (mSeq (mIfS (mB (mOp2 eqD (mCallB 0 fb__law_take (mCons (mC (.int 4)) (mNil))) (mC (.int 0))))
  (mRet (mTup (mCons (mVar 3) (mCons (mVar 5) (mCons (mVar 6) (mNil))))))
  (mNx))
  (mSeq (mIfS (mB (mOp2 eqD (mVar 3) (mC (.str "front"))))
  (mRet (mTup (mCons (mVar 3) (mCons (mOp2 addD (mSlA (mVar 1) (mNo) (mSome (mVar 4))) (mVar 5)) (mCons (mOp2 addD (mVar 6) (mVar 5)) (mNil))))))
  (mNx))
  (mRet (mTup (mCons (mVar 3) (mCons (mOp2 addD (mVar 5) (mSlA (mVar 1) (mSome (mVar 4)) (mNo))) (mCons (mOp2 addD (mVar 5) (mVar 6)) (mNil)))))))))
def fb__law_deed : List D → List D → R0 (Rt × List D) := fbodyB 3 7 m__law_deed
theorem q__law_deed (xs : List D) (d1 d2 : D) : fb__law_deed xs [d1, d2] = (m__law_deed [.own true xs, .val d1, .val d2, .no, .no, .no, .no]).outB := fbB_eq (n := 3) (l := 7) (m := m__law_deed) (xs := xs) (ds := [d1, d2]) rfl
theorem ok__law_deed {P : Program} {w : World} {K : Frag} {mg : Str → Option Value} {base : Heap} {f : Addr} {fd : FuncData} (F : Fd K "_law_deed" s__law_deed f fd) (h_law_row : HasB P w K mg base 2 "_law_row" ["_law_box_here", "_law_letters", "_law_longest"] fb__law_row) (z_len : mg "len" = none) (h_law_take : HasB P w K mg base 1 "_law_take" ["_law_box_here", "_law_many"] fb__law_take) (h_law_pick : HasB P w K mg base 2 "_law_pick" ["_law_box_here", "_law_some"] fb__law_pick) :
    FnG P w K mg base 3 f fd ["_law_box_here", "_law_text_here", "_law_letters"] (FSpB ⟨K, mg⟩ fb__law_deed) :=
  F.okB (k := 2) sc__law_deed fun cdv A outer s H E hr hgd =>
  (sss_cons (ss_par3 (i := 3) (j := 4) (l := 5) rfl sc__law_deed.nd rfl rfl rfl (by decide) (by decide) (by decide) rfl rfl rfl (sm_val (cB 0 (h_law_pick.up (by decide)) hr hgd (sa_cons (se_frz (sl_lst (sa_cons se_str (sa_cons se_str sa_nil)))) sa_nil)) (sm_val (cB 0 (h_law_take.up (by decide)) hr hgd (sa_cons (oAdd (bLen z_len (sa_cons (vv 1) sa_nil)) se_int) sa_nil)) (sm_val (cB 0 (h_law_row.up (by decide)) hr hgd (sa_cons (vv 2) (sa_cons se_int sa_nil))) sm_nil))) rfl)
  (sss_cons (ss_set (cB 0 (h_law_row.up (by decide)) hr hgd (sa_cons (vv 2) (sa_cons se_int sa_nil))) (tg 6 sc__law_deed.nd))
  (sss_cons (ss_if (tEq' hr (cB 0 (h_law_take.up (by decide)) hr hgd (sa_cons se_int sa_nil)) se_int)
  (sss_one (ss_ret (se_tup (sa_cons (vv 3) (sa_cons (vv 5) (sa_cons (vv 6) sa_nil))))))
  sss_nil)
  (sss_cons (ss_if (tEq' hr (vv 3) se_str)
  (sss_one (ss_ret (se_tup (sa_cons (vv 3) (sa_cons (oAdd (slA (vv 1) so_none (so_some (vv 4))) (vv 5)) (sa_cons (oAdd (vv 6) (vv 5)) sa_nil))))))
  sss_nil)
  (sss_one (ss_ret (se_tup (sa_cons (vv 3) (sa_cons (oAdd (vv 5) (slA (vv 1) (so_some (vv 4)) so_none)) (sa_cons (oAdd (vv 5) (vv 6)) sa_nil))))))))))
/-! ### law -/
abbrev s_law : Stmt := topS 35
theorem sc_law : FnScope ["_law_script", "_law_k", "_law_box_here", "_law_letters", "_law_text_here", "_law_deeds", "_law_here", "_law_due", "_law_at", "_law_side", "_law_old", "_law_new", "_law_came", "_law_told", "_law_back", "_law_one", "_law_other", "_law_ways", "_law_wrong"] ["_law_script"] (defScope s_law) := ⟨rfl, rfl, rfl, by decide +kernel, rfl, by decide +kernel, by decide +kernel⟩
def g_law_0 : G := fun d σ => (gNm 8) d σ
def b_law_0 : MS := fun σ => (mFgR 0 (mFgt [8, 9, 10, 11, 12, 13, 14] (mSeq (mSet (mCallB 2 fb__law_deed (mCons (mIf (mB (mOp2 isNotD (mVar 6) (mC .non))) (mVar 6) (mVar 4)) (mCons (mVar 3) (mNil)))) (gTu 3 (gCo (gNm 9) (gCo (gNm 10) (gCo (gNm 11) (gNo))))))
  (mSeq (mAppO 5 (mFrz (mLst (mCons (mVar 9) (mCons (mFrz (mFnL lstD (mCons (mVar 10) (mNil)))) (mCons (mVar 11) (mNil)))))))
  (mFgt [12, 13, 14] (mIfS (mB (mOp2 isD (mVar 7) (mC .non)))
  (mSeq (mSet (mCall f__law_put [] (mCons (mVar 9) (mCons (mVar 6) (mCons (mVar 10) (mCons (mVar 11) (mNil)))))) (gNm 12))
  (mSeq (mSet (mIf (mB (mOp2 eqD (mVar 9) (mC (.str "front")))) (mCall f_front_pick [] (mCons (mVar 6) (mCons (mVar 10) (mCons (mVar 11) (mNil))))) (mCallK f_back_pick [.inr 0, .inr 2, .inr 1] 0 3 mNil (mCons (mVar 6) (mCons (mVar 11) (mCons (mVar 10) (mNil)))))) (gNm 13))
  (mSeq (mIfS (mB (mOp2 neD (mFn reprD (mCons (mVar 13) (mNil))) (mFn reprD (mCons (mVar 12) (mNil)))))
  (mRet (mC (.bl false)))
  (mNx))
  (mFgt [14] (mIfS (mB (mOp2 isD (mVar 12) (mC .non)))
  (mSet (mTup (mCons (mC (.str "stuck")) (mCons (mVar 8) (mNil)))) (gNm 7))
  (mSeq (mSet (mIf (mB (mOp2 eqD (mVar 9) (mC (.str "front")))) (mCall f_front_pick [] (mCons (mVar 12) (mCons (mVar 11) (mCons (mVar 10) (mNil))))) (mCall f_back_pick [] (mCons (mVar 12) (mCons (mVar 11) (mCons (mVar 10) (mNil)))))) (gNm 14))
  (mSeq (mIfS (mB (mOp2 neD (mVar 14) (mVar 6)))
  (mRet (mC (.bl false)))
  (mNx))
  (mSet (mVar 12) (gNm 6)))))))))
  (mNx))))))) σ
def g_law_1 : G := fun d σ => (gNm 1) d σ
def b_law_1 : MS := fun σ => (mFgR 0 (mFgt [1, 2, 3, 4, 5, 6, 7, 8, 9, 10, 11, 12, 13, 14, 15, 16, 17, 18] (mSeq (mOwn 2 (mCallL f__law_box [] (mCons (mVar 0) (mCons (mVar 1) (mNil)))))
  (mSeq (mSet (mOp2 addD (mC (.int 1)) (mCallB 2 fb__law_take (mCons (mC (.int 3)) (mNil)))) (gNm 3))
  (mSeq (mSet (mCallB 2 fb__law_row (mCons (mVar 3) (mCons (mC (.int 6)) (mNil)))) (gNm 4))
  (mSeq (mPar3 5 6 7 (mMl (mLst (mNil)) (mMv (mVar 4) (mMv (mC .non) (mMn)))))
  (mSeq (mFgt [8, 9, 10, 11, 12, 13, 14] (mFor (mIt rng1? (mCons (mCallB 2 fb__law_take (mCons (mC (.int 6)) (mNil))) (mNil))) g_law_0 b_law_0))
  (mSeq (mIfS (mB (mOp2 isD (mVar 7) (mC .non)))
  (mSet (mTup (mCons (mC (.str "comes")) (mCons (mVar 6) (mNil)))) (gNm 7))
  (mNx))
  (mSeq (mIfS (mOr (mB (mOp2 neD (mFn reprD (mCons (mCallK f_pick_row [.inr 1, .inr 0] 0 2 mNil (mCons (mVar 5) (mCons (mFrz (mFnL lstD (mCons (mVar 4) (mNil)))) (mNil)))) (mNil))) (mFn reprD (mCons (mVar 7) (mNil))))) (mB (mOp2 neD (mFn reprD (mCons (mCall f_pick_row [] (mCons (mVar 4) (mCons (mFn tupD (mCons (mVar 5) (mNil))) (mNil)))) (mNil))) (mFn reprD (mCons (mVar 7) (mNil))))))
  (mRet (mC (.bl false)))
  (mNx))
  (mSeq (mPar2 15 16 (mMv (mOp2 addD (mTup (mCons (mC (.str "front")) (mNil))) (mSlA (mCallB 2 fb__law_deed (mCons (mVar 4) (mCons (mVar 3) (mNil)))) (mSome (mC (.int 1))) (mNo))) (mMv (mOp2 addD (mTup (mCons (mC (.str "back")) (mNil))) (mSlA (mCallB 2 fb__law_deed (mCons (mVar 4) (mCons (mVar 3) (mNil)))) (mSome (mC (.int 1))) (mNo))) (mMn))))
  (mSeq (mSet (mFrz (mLst (mCons (mCall f_pick_row [] (mCons (mVar 4) (mCons (mFrz (mLst (mCons (mVar 15) (mCons (mVar 16) (mNil))))) (mNil)))) (mCons (mCall f_pick_row [] (mCons (mVar 4) (mCons (mFrz (mLst (mCons (mVar 16) (mCons (mVar 15) (mNil))))) (mNil)))) (mNil))))) (gNm 17))
  (mSeq (mIfS (mAnd (mB (mOp2 eqD (mOp2 ixD (mOp2 ixD (mVar 17) (mC (.int 0))) (mC (.int 0))) (mC (.str "comes")))) (mAnd (mB (mOp2 eqD (mOp2 ixD (mOp2 ixD (mVar 17) (mC (.int 1))) (mC (.int 0))) (mC (.str "comes")))) (mB (mOp2 neD (mOp2 ixD (mVar 17) (mC (.int 0))) (mOp2 ixD (mVar 17) (mC (.int 1)))))))
  (mRet (mC (.bl false)))
  (mNx))
  (mSeq (mSet (mCallB 2 fb__law_pick (mCons (mFrz (mLst (mCons (mC .non) (mCons (mTup (mNil)) (mCons (mTup (mCons (mC (.str "front")) (mCons (mTup (mCons (mC (.int 0)) (mNil))) (mNil)))) (mCons (mTup (mCons (mC (.str "ahead")) (mCons (mTup (mNil)) (mCons (mTup (mNil)) (mNil))))) (mCons (mTup (mCons (mC (.str "front")) (mCons (mC .non) (mCons (mTup (mNil)) (mNil))))) (mCons (mTup (mCons (mC (.str "back")) (mCons (mTup (mNil)) (mCons (mFrz (mLst (mCons (mC (.int 100)) (mNil)))) (mNil))))) (mCons (mC (.int 3)) (mCons (mC (.str "front")) (mCons (mTup (mCons (mC (.str "back")) (mCons (mTup (mNil)) (mCons (mTup (mNil)) (mCons (mTup (mNil)) (mNil)))))) (mNil)))))))))))) (mNil))) (gNm 18))
  (mSeq (mIfS (mOr (mB (mOp2 neD (mCall f__law_refused [] (mCons (mVar 4) (mCons (mOp2 addLD (mVar 5) (mFrz (mLst (mCons (mVar 18) (mCons (mC .non) (mNil)))))) (mNil)))) (mTup (mCons (mC (.str "deeds")) (mCons (mEi 5 (mLenO 5) (mFn lenD (mCons (mVar 5) (mNil)))) (mNil)))))) (mB (mOp2 neD (mCall f__law_refused [] (mCons (mC .non) (mCons (mC .non) (mNil)))) (mTup (mCons (mC (.str "text")) (mCons (mOp2 subD (mC (.int 0)) (mC (.int 1))) (mNil)))))))
  (mRet (mC (.bl false)))
  (mNx))
  (mSeq (mIfS (mB (mOp2 neD (mCall f__law_refused [] (mCons (mVar 4) (mCons (mCallB 2 fb__law_pick (mCons (mFrz (mLst (mCons (mC .non) (mCons (mC (.int 4)) (mCons (mC (.str "front")) (mNil)))))) (mNil))) (mNil)))) (mTup (mCons (mC (.str "deeds")) (mCons (mOp2 subD (mC (.int 0)) (mC (.int 1))) (mNil))))))
  (mRet (mC (.bl false)))
  (mNx))
  (mIfS (mB (mOp2 neD (mFrz (mLst (mCons (mCall f__law_refused_pick [] (mCons (mC (.gl "front_pick")) (mCons (mC .non) (mCons (mC .non) (mCons (mC .non) (mNil)))))) (mCons (mCall f__law_refused_pick [] (mCons (mC (.gl "back_pick")) (mCons (mVar 4) (mCons (mC (.int 5)) (mCons (mC .non) (mNil)))))) (mCons (mCall f__law_refused_pick [] (mCons (mC (.gl "front_pick")) (mCons (mVar 4) (mCons (mVar 4) (mCons (mC (.str "a")) (mNil)))))) (mNil)))))) (mFrz (mLst (mCons (mC (.int 0)) (mCons (mC (.int 1)) (mCons (mC (.int 2)) (mNil))))))))
  (mRet (mC (.bl false)))
  (mNx))))))))))))))))) σ
def m_law : MS := mSeq (mIfS (mOr (mB (mOp2 neD (mCallK f_front_pick [.inr 0, .inr 1, .inr 2] 0 3 mNil (mCons (mTup (mCons (mC (.int 1)) (mCons (mC (.int 2)) (mCons (mC (.int 3)) (mNil))))) (mCons (mTup (mCons (mC (.int 1)) (mCons (mC (.int 5)) (mNil)))) (mCons (mTup (mCons (mC (.int 4)) (mCons (mC (.int 5)) (mNil)))) (mNil))))) (mTup (mCons (mC (.int 4)) (mCons (mC (.int 2)) (mCons (mC (.int 3)) (mNil))))))) (mB (mOp2 neD (mCall f_back_pick [] (mCons (mTup (mCons (mC (.int 1)) (mCons (mC (.int 2)) (mCons (mC (.int 3)) (mNil))))) (mCons (mTup (mCons (mC (.int 5)) (mCons (mC (.int 3)) (mNil)))) (mCons (mTup (mCons (mC (.int 5)) (mCons (mC (.int 4)) (mNil)))) (mNil))))) (mTup (mCons (mC (.int 1)) (mCons (mC (.int 2)) (mCons (mC (.int 4)) (mNil))))))))
  (mRet (mC (.bl false)))
  (mNx))
  (mSeq (mIfS (mOr (mB (mOp2 neD (mCall f_pick_row [] (mCons (mTup (mCons (mC (.int 1)) (mCons (mC (.int 4)) (mNil)))) (mCons (mFrz (mLst (mCons (mTup (mCons (mC (.str "front")) (mCons (mTup (mCons (mC (.int 1)) (mNil))) (mCons (mTup (mNil)) (mNil))))) (mCons (mTup (mCons (mC (.str "back")) (mCons (mTup (mCons (mC (.int 4)) (mNil))) (mCons (mTup (mCons (mC (.int 6)) (mNil))) (mNil))))) (mCons (mTup (mCons (mC (.str "front")) (mCons (mTup (mCons (mC (.int 4)) (mNil))) (mCons (mTup (mNil)) (mNil))))) (mNil)))))) (mNil)))) (mTup (mCons (mC (.str "stuck")) (mCons (mC (.int 2)) (mNil)))))) (mB (mOp2 isNotD (mCall f_front_pick [] (mCons (mTup (mCons (mC (.int 1)) (mNil))) (mCons (mTup (mCons (mC (.int 2)) (mNil))) (mCons (mTup (mNil)) (mNil))))) (mC .non))))
  (mRet (mC (.bl false)))
  (mNx))
  (mSeq (mFgt [1, 2, 3, 4, 5, 6, 7, 8, 9, 10, 11, 12, 13, 14, 15, 16, 17, 18] (mFor (mIt rng1? (mCons (mC (.int 3)) (mNil))) g_law_1 b_law_1))
  (mRet (mC (.bl true)))))
def f_law : List D → R0 Rt := fbody 1 19 m_law
theorem q_law (d0 : D) : f_law [d0] = (m_law [.val d0, .no, .no, .no, .no, .no, .no, .no, .no, .no, .no, .no, .no, .no, .no, .no, .no, .no, .no]).out := fb_eq (n := 1) (l := 19) (m := m_law) (ds := [d0]) rfl
theorem ok_law {P : Program} {w : World} {K : Frag} {mg : Str → Option Value} {base : Heap} {f : Addr} {fd : FuncData} (F : Fd K "law" s_law f fd) (K0_front_pick : HasK P w K mg base 8 "front_pick" ["text", "old", "new"] 0 ["text", "old", "new"] [.inr 0, .inr 1, .inr 2] f_front_pick) (h_back_pick : Has P w K mg base 8 "back_pick" ["text", "old", "new"] f_back_pick) (h_pick_row : Has P w K mg base 7 "pick_row" ["text", "deeds"] f_pick_row) (h_front_pick : Has P w K mg base 8 "front_pick" ["text", "old", "new"] f_front_pick) (z_range : mg "range" = none) (h_law_box : Has P w K mg base 1 "_law_box" ["_law_script", "_law_k"] f__law_box) (h_law_take : HasB P w K mg base 1 "_law_take" ["_law_box_here", "_law_many"] fb__law_take) (h_law_row : HasB P w K mg base 2 "_law_row" ["_law_box_here", "_law_letters", "_law_longest"] fb__law_row) (h_law_deed : HasB P w K mg base 3 "_law_deed" ["_law_box_here", "_law_text_here", "_law_letters"] fb__law_deed) (z_list : mg "list" = none) (h_law_put : Has P w K mg base 3 "_law_put" ["_law_side", "_law_text_here", "_law_old", "_law_new"] f__law_put) (K1_back_pick : HasK P w K mg base 8 "back_pick" ["text", "old", "new"] 0 ["text", "new", "old"] [.inr 0, .inr 2, .inr 1] f_back_pick) (z_repr : mg "repr" = none) (K2_pick_row : HasK P w K mg base 7 "pick_row" ["text", "deeds"] 0 ["deeds", "text"] [.inr 1, .inr 0] f_pick_row) (z_tuple : mg "tuple" = none) (h_law_pick : HasB P w K mg base 2 "_law_pick" ["_law_box_here", "_law_some"] fb__law_pick) (h_law_refused : Has P w K mg base 8 "_law_refused" ["_law_text_here", "_law_deeds"] f__law_refused) (z_len : mg "len" = none) (h_law_refused_pick : Has P w K mg base 9 "_law_refused_pick" ["_law_work", "_law_text_here", "_law_old", "_law_new"] f__law_refused_pick) :
    FnG P w K mg base 10 f fd ["_law_script"] (FSp ⟨K, mg⟩ f_law) :=
  F.ok (k := 9) sc_law fun cdv A outer s H E hr hgd =>
  (sss_cons (ss_if (SW.st (sw_or (tNe' hr (cK0 (K0_front_pick.up (by decide)) hr hgd (sk_cons (se_tup (sa_cons se_int (sa_cons se_int (sa_cons se_int sa_nil)))) (sk_cons (se_tup (sa_cons se_int (sa_cons se_int sa_nil))) (sk_cons (se_tup (sa_cons se_int (sa_cons se_int sa_nil))) sk_nil)))) (se_tup (sa_cons se_int (sa_cons se_int (sa_cons se_int sa_nil))))) (sw_or1 (tNe' hr (cH (h_back_pick.up (by decide)) hr hgd (sa_cons (se_tup (sa_cons se_int (sa_cons se_int (sa_cons se_int sa_nil)))) (sa_cons (se_tup (sa_cons se_int (sa_cons se_int sa_nil))) (sa_cons (se_tup (sa_cons se_int (sa_cons se_int sa_nil))) sa_nil)))) (se_tup (sa_cons se_int (sa_cons se_int (sa_cons se_int sa_nil))))))))
  (sss_one (ss_ret se_bl))
  sss_nil)
  (sss_cons (ss_if (SW.st (sw_or (tNe' hr (cH (h_pick_row.up (by decide)) hr hgd (sa_cons (se_tup (sa_cons se_int (sa_cons se_int sa_nil))) (sa_cons (se_frz (sl_lst (sa_cons (se_tup (sa_cons se_str (sa_cons (se_tup (sa_cons se_int sa_nil)) (sa_cons (se_tup sa_nil) sa_nil)))) (sa_cons (se_tup (sa_cons se_str (sa_cons (se_tup (sa_cons se_int sa_nil)) (sa_cons (se_tup (sa_cons se_int sa_nil)) sa_nil)))) (sa_cons (se_tup (sa_cons se_str (sa_cons (se_tup (sa_cons se_int sa_nil)) (sa_cons (se_tup sa_nil) sa_nil)))) sa_nil))))) sa_nil))) (se_tup (sa_cons se_str (sa_cons se_int sa_nil)))) (sw_or1 (tIsNot' (cH (h_front_pick.up (by decide)) hr hgd (sa_cons (se_tup (sa_cons se_int sa_nil)) (sa_cons (se_tup (sa_cons se_int sa_nil)) (sa_cons (se_tup sa_nil) sa_nil)))) se_non))))
  (sss_one (ss_ret se_bl))
  sss_nil)
  (sss_cons (ss_fgt [1, 2, 3, 4, 5, 6, 7, 8, 9, 10, 11, 12, 13, 14, 15, 16, 17, 18] (ss_for (passes_of rfl) rfl (si_rng1 (by rfl) z_range (sa_cons se_int sa_nil)) (tg 1 sc_law.nd)
  (sss_fgr 0 (sss_fgt [1, 2, 3, 4, 5, 6, 7, 8, 9, 10, 11, 12, 13, 14, 15, 16, 17, 18] (sss_cons (ss_own (i := 2) sc_law.nd rfl (by first | exact Or.inl rfl | exact Or.inr rfl) (cHL (h_law_box.up (by decide)) hr hgd (sa_cons (vv 0) (sa_cons (vv 1) sa_nil))))
  (sss_cons (ss_set (oAdd se_int (cB 2 (h_law_take.up (by decide)) hr hgd (sa_cons se_int sa_nil))) (tg 3 sc_law.nd))
  (sss_cons (ss_set (cB 2 (h_law_row.up (by decide)) hr hgd (sa_cons (vv 3) (sa_cons se_int sa_nil))) (tg 4 sc_law.nd))
  (sss_cons (ss_par3 (i := 5) (j := 6) (l := 7) rfl sc_law.nd rfl rfl rfl (by decide) (by decide) (by decide) rfl rfl rfl (sm_own (sl_lst sa_nil) (sm_val (vv 4) (sm_val se_non sm_nil))) rfl)
  (sss_cons (ss_fgt [8, 9, 10, 11, 12, 13, 14] (ss_for (passes_of rfl) rfl (si_rng1 (by rfl) z_range (sa_cons (cB 2 (h_law_take.up (by decide)) hr hgd (sa_cons se_int sa_nil)) sa_nil)) (tg 8 sc_law.nd)
  (sss_fgr 0 (sss_fgt [8, 9, 10, 11, 12, 13, 14] (sss_cons (ss_set (cB 2 (h_law_deed.up (by decide)) hr hgd (sa_cons (se_if (tIsNot' (vv 6) se_non) (vv 6) (vv 4)) (sa_cons (vv 3) sa_nil))) (sg_tu rfl (sgs_co (tg 9 sc_law.nd) (sgs_co (tg 10 sc_law.nd) (sgs_co (tg 11 sc_law.nd) sgs_no)))))
  (sss_cons (app 5 (se_frz (sl_lst (sa_cons (vv 9) (sa_cons (se_frz (bList z_list (sa_cons (vv 10) sa_nil))) (sa_cons (vv 11) sa_nil))))))
  (sss_one (ss_fgt [12, 13, 14] (ss_if (tIs' (vv 7) se_non)
  (sss_cons (ss_set (cH (h_law_put.up (by decide)) hr hgd (sa_cons (vv 9) (sa_cons (vv 6) (sa_cons (vv 10) (sa_cons (vv 11) sa_nil))))) (tg 12 sc_law.nd))
  (sss_cons (ss_set (se_if (tEq' hr (vv 9) se_str) (cH (h_front_pick.up (by decide)) hr hgd (sa_cons (vv 6) (sa_cons (vv 10) (sa_cons (vv 11) sa_nil)))) (cK0 (K1_back_pick.up (by decide)) hr hgd (sk_cons (vv 6) (sk_cons (vv 11) (sk_cons (vv 10) sk_nil))))) (tg 13 sc_law.nd))
  (sss_cons (ss_if (tNe' hr (bRepr hr hgd z_repr (sa_cons (vv 13) sa_nil)) (bRepr hr hgd z_repr (sa_cons (vv 12) sa_nil)))
  (sss_one (ss_ret se_bl))
  sss_nil)
  (sss_one (ss_fgt [14] (ss_if (tIs' (vv 12) se_non)
  (sss_one (ss_set (se_tup (sa_cons se_str (sa_cons (vv 8) sa_nil))) (tg 7 sc_law.nd)))
  (sss_cons (ss_set (se_if (tEq' hr (vv 9) se_str) (cH (h_front_pick.up (by decide)) hr hgd (sa_cons (vv 12) (sa_cons (vv 11) (sa_cons (vv 10) sa_nil)))) (cH (h_back_pick.up (by decide)) hr hgd (sa_cons (vv 12) (sa_cons (vv 11) (sa_cons (vv 10) sa_nil))))) (tg 14 sc_law.nd))
  (sss_cons (ss_if (tNe' hr (vv 14) (vv 6))
  (sss_one (ss_ret se_bl))
  sss_nil)
  (sss_one (ss_set (vv 12) (tg 6 sc_law.nd)))))))))))
  sss_nil)))))))))
  (sss_cons (ss_if (tIs' (vv 7) se_non)
  (sss_one (ss_set (se_tup (sa_cons se_str (sa_cons (vv 6) sa_nil))) (tg 7 sc_law.nd)))
  sss_nil)
  (sss_cons (ss_if (SW.st (sw_or (tNe' hr (bRepr hr hgd z_repr (sa_cons (cK0 (K2_pick_row.up (by decide)) hr hgd (sk_cons (vv 5) (sk_cons (se_frz (bList z_list (sa_cons (vv 4) sa_nil))) sk_nil))) sa_nil)) (bRepr hr hgd z_repr (sa_cons (vv 7) sa_nil))) (sw_or1 (tNe' hr (bRepr hr hgd z_repr (sa_cons (cH (h_pick_row.up (by decide)) hr hgd (sa_cons (vv 4) (sa_cons (bTuple z_tuple (sa_cons (vv 5) sa_nil)) sa_nil))) sa_nil)) (bRepr hr hgd z_repr (sa_cons (vv 7) sa_nil))))))
  (sss_one (ss_ret se_bl))
  sss_nil)
  (sss_cons (ss_par2 (i := 15) (j := 16) rfl sc_law.nd rfl rfl (by decide) rfl rfl (sm_val (oAdd (se_tup (sa_cons se_str sa_nil)) (slA (cB 2 (h_law_deed.up (by decide)) hr hgd (sa_cons (vv 4) (sa_cons (vv 3) sa_nil))) (so_some se_int) so_none)) (sm_val (oAdd (se_tup (sa_cons se_str sa_nil)) (slA (cB 2 (h_law_deed.up (by decide)) hr hgd (sa_cons (vv 4) (sa_cons (vv 3) sa_nil))) (so_some se_int) so_none)) sm_nil)) rfl)
  (sss_cons (ss_set (se_frz (sl_lst (sa_cons (cH (h_pick_row.up (by decide)) hr hgd (sa_cons (vv 4) (sa_cons (se_frz (sl_lst (sa_cons (vv 15) (sa_cons (vv 16) sa_nil)))) sa_nil))) (sa_cons (cH (h_pick_row.up (by decide)) hr hgd (sa_cons (vv 4) (sa_cons (se_frz (sl_lst (sa_cons (vv 16) (sa_cons (vv 15) sa_nil)))) sa_nil))) sa_nil)))) (tg 17 sc_law.nd))
  (sss_cons (ss_if (SW.st (sw_and (tEq' hr (ix (ix (vv 17) se_int) se_int) se_str) (sw_and (tEq' hr (ix (ix (vv 17) se_int) se_int) se_str) (sw_and1 (tNe' hr (ix (vv 17) se_int) (ix (vv 17) se_int))))))
  (sss_one (ss_ret se_bl))
  sss_nil)
  (sss_cons (ss_set (cB 2 (h_law_pick.up (by decide)) hr hgd (sa_cons (se_frz (sl_lst (sa_cons se_non (sa_cons (se_tup sa_nil) (sa_cons (se_tup (sa_cons se_str (sa_cons (se_tup (sa_cons se_int sa_nil)) sa_nil))) (sa_cons (se_tup (sa_cons se_str (sa_cons (se_tup sa_nil) (sa_cons (se_tup sa_nil) sa_nil)))) (sa_cons (se_tup (sa_cons se_str (sa_cons se_non (sa_cons (se_tup sa_nil) sa_nil)))) (sa_cons (se_tup (sa_cons se_str (sa_cons (se_tup sa_nil) (sa_cons (se_frz (sl_lst (sa_cons se_int sa_nil))) sa_nil)))) (sa_cons se_int (sa_cons se_str (sa_cons (se_tup (sa_cons se_str (sa_cons (se_tup sa_nil) (sa_cons (se_tup sa_nil) (sa_cons (se_tup sa_nil) sa_nil))))) sa_nil))))))))))) sa_nil)) (tg 18 sc_law.nd))
  (sss_cons (ss_if (SW.st (sw_or (tNe' hr (cH (h_law_refused.up (by decide)) hr hgd (sa_cons (vv 4) (sa_cons (oAddL (vv 5) (se_frz (sl_lst (sa_cons (vv 18) (sa_cons se_non sa_nil))))) sa_nil))) (se_tup (sa_cons se_str (sa_cons (se_ei 5 (lenO 5 z_len) (bLen z_len (sa_cons (vv 5) sa_nil))) sa_nil)))) (sw_or1 (tNe' hr (cH (h_law_refused.up (by decide)) hr hgd (sa_cons se_non (sa_cons se_non sa_nil))) (se_tup (sa_cons se_str (sa_cons (oSub se_int se_int) sa_nil)))))))
  (sss_one (ss_ret se_bl))
  sss_nil)
  (sss_cons (ss_if (tNe' hr (cH (h_law_refused.up (by decide)) hr hgd (sa_cons (vv 4) (sa_cons (cB 2 (h_law_pick.up (by decide)) hr hgd (sa_cons (se_frz (sl_lst (sa_cons se_non (sa_cons se_int (sa_cons se_str sa_nil))))) sa_nil)) sa_nil))) (se_tup (sa_cons se_str (sa_cons (oSub se_int se_int) sa_nil))))
  (sss_one (ss_ret se_bl))
  sss_nil)
  (sss_one (ss_if (tNe' hr (se_frz (sl_lst (sa_cons (cH (h_law_refused_pick.up (by decide)) hr hgd (sa_cons (gH (h_front_pick)) (sa_cons se_non (sa_cons se_non (sa_cons se_non sa_nil))))) (sa_cons (cH (h_law_refused_pick.up (by decide)) hr hgd (sa_cons (gH (h_back_pick)) (sa_cons (vv 4) (sa_cons se_int (sa_cons se_non sa_nil))))) (sa_cons (cH (h_law_refused_pick.up (by decide)) hr hgd (sa_cons (gH (h_front_pick)) (sa_cons (vv 4) (sa_cons (vv 4) (sa_cons se_str sa_nil))))) sa_nil))))) (se_frz (sl_lst (sa_cons se_int (sa_cons se_int (sa_cons se_int sa_nil))))))
  (sss_one (ss_ret se_bl))
  sss_nil)))))))))))))))))))
  (sss_one (ss_ret se_bl)))))
theorem tx_InvalidText : InitTxt (inClass (topS 2) 0) "at" := ⟨"at", ⟨_, rfl, rfl⟩, ⟨_, _, _, _, _, _, _, _, _, _, _, _, rfl, fun env => ⟨_, rfl⟩⟩, fun _ _ _ _ _ _ _ _ _ _ _ _ => ⟨_, rfl, rfl⟩, rfl, rfl, rfl, rfl, by decide, by decide, rfl, rfl, rfl, by decide +kernel⟩
theorem tx_InvalidDeeds : InitTxt (inClass (topS 3) 0) "at" := ⟨"at", ⟨_, rfl, rfl⟩, ⟨_, _, _, _, _, _, _, _, _, _, _, _, rfl, fun env => ⟨_, rfl⟩⟩, fun _ _ _ _ _ _ _ _ _ _ _ _ => ⟨_, rfl, rfl⟩, rfl, rfl, rfl, rfl, by decide, by decide, rfl, rfl, rfl, by decide +kernel⟩
/-! ### what stands behind the top -/
theorem top {w : World} {K : Frag} {h : Heap} {mg : Str → Option Value} {fa : Addr} (hX : K.In h) (G : h.Ns mainGlobals mg) (hfa : mg "law" = some (.ref fa))
    (math : ∀ ns : List Int, ns.length ≤ 63 → f_law [.lst (ns.map D.int)] = .ok (.v (.bl true)))
    {a_MergeError : Addr}
    {a_InvalidText : Addr}
    {a_InvalidDeeds : Addr}
    {D0_InvalidText fI_InvalidText cda_InvalidText cc_InvalidText N_InvalidText : Addr} {nm_InvalidText q_InvalidText qual_InvalidText file_InvalidText : Str} {bs_InvalidText sub_InvalidText : List Value} {sn_InvalidText : List Str} {ab_InvalidText : Bool} {col_InvalidText : Option Bool} {dd_InvalidText an_InvalidText od_InvalidText cdd_InvalidText cld_InvalidText : Option Addr} {k0_InvalidText k1_InvalidText k2_InvalidText k3_InvalidText k5_InvalidText : Option Value} {kV_InvalidText doc_InvalidText pm_InvalidText ct_InvalidText oc_InvalidText ccl_InvalidText cl_InvalidText dv_InvalidText tc_InvalidText : Value} {T_InvalidText : Addr} {tn_InvalidText : Nat} {td_InvalidText : Option Addr} {tsl_InvalidText : Array (Option Value)} {osl_InvalidText ccs_InvalidText csl_InvalidText : Array (Option Value)} {vs_InvalidText : Array Value} {tf_InvalidText : Tok}
    {D0_InvalidDeeds fI_InvalidDeeds cda_InvalidDeeds cc_InvalidDeeds N_InvalidDeeds : Addr} {nm_InvalidDeeds q_InvalidDeeds qual_InvalidDeeds file_InvalidDeeds : Str} {bs_InvalidDeeds sub_InvalidDeeds : List Value} {sn_InvalidDeeds : List Str} {ab_InvalidDeeds : Bool} {col_InvalidDeeds : Option Bool} {dd_InvalidDeeds an_InvalidDeeds od_InvalidDeeds cdd_InvalidDeeds cld_InvalidDeeds : Option Addr} {k0_InvalidDeeds k1_InvalidDeeds k2_InvalidDeeds k3_InvalidDeeds k5_InvalidDeeds : Option Value} {kV_InvalidDeeds doc_InvalidDeeds pm_InvalidDeeds ct_InvalidDeeds oc_InvalidDeeds ccl_InvalidDeeds cl_InvalidDeeds dv_InvalidDeeds tc_InvalidDeeds : Value} {T_InvalidDeeds : Addr} {tn_InvalidDeeds : Nat} {td_InvalidDeeds : Option Addr} {tsl_InvalidDeeds : Array (Option Value)} {osl_InvalidDeeds ccs_InvalidDeeds csl_InvalidDeeds : Array (Option Value)} {vs_InvalidDeeds : Array Value} {tf_InvalidDeeds : Tok}
    {tc_MANY_LETTERS : Tok}
    {ap_PICK_SIDES : Addr} {np_PICK_SIDES : Nat} {slp_PICK_SIDES : Array (Option Value)} {t0p_PICK_SIDES : Tok} {t1p_PICK_SIDES : Tok}
    {a_is_integer : Addr} {oc_is_integer kV_is_integer doc_is_integer pm_is_integer cd_is_integer ct_is_integer : Value} {od_is_integer an_is_integer : Option Addr} {sl_is_integer : Array (Option Value)}
    {a_is_number : Addr} {oc_is_number kV_is_number doc_is_number pm_is_number cd_is_number ct_is_number : Value} {od_is_number an_is_number : Option Addr} {sl_is_number : Array (Option Value)}
    {a_is_below : Addr} {oc_is_below kV_is_below doc_is_below pm_is_below cd_is_below ct_is_below : Value} {od_is_below an_is_below : Option Addr} {sl_is_below : Array (Option Value)}
    {a_is_sequence : Addr} {oc_is_sequence kV_is_sequence doc_is_sequence pm_is_sequence cd_is_sequence ct_is_sequence : Value} {od_is_sequence an_is_sequence : Option Addr} {sl_is_sequence : Array (Option Value)}
    {a_is_letter : Addr} {oc_is_letter kV_is_letter doc_is_letter pm_is_letter cd_is_letter ct_is_letter : Value} {od_is_letter an_is_letter : Option Addr} {sl_is_letter : Array (Option Value)}
    {a_is_text : Addr} {oc_is_text kV_is_text doc_is_text pm_is_text cd_is_text ct_is_text : Value} {od_is_text an_is_text : Option Addr} {sl_is_text : Array (Option Value)}
    {a_need_text : Addr} {oc_need_text kV_need_text doc_need_text pm_need_text cd_need_text ct_need_text : Value} {od_need_text an_need_text : Option Addr} {sl_need_text : Array (Option Value)}
    {T_need_text : Addr} {tc_need_text : Value} {tk0_need_text : Tok} {td_need_text : Option Addr} {tn_need_text : Nat} {ts_need_text : Array (Option Value)}
    {a_shared_length : Addr} {oc_shared_length kV_shared_length doc_shared_length pm_shared_length cd_shared_length ct_shared_length : Value} {od_shared_length an_shared_length : Option Addr} {sl_shared_length : Array (Option Value)}
    {a_need_three : Addr} {oc_need_three kV_need_three doc_need_three pm_need_three cd_need_three ct_need_three : Value} {od_need_three an_need_three : Option Addr} {sl_need_three : Array (Option Value)}
    {a_claimed_ends : Addr} {oc_claimed_ends kV_claimed_ends doc_claimed_ends pm_claimed_ends cd_claimed_ends ct_claimed_ends : Value} {od_claimed_ends an_claimed_ends : Option Addr} {sl_claimed_ends : Array (Option Value)}
    {a_came_text : Addr} {oc_came_text kV_came_text doc_came_text pm_came_text cd_came_text ct_came_text : Value} {od_came_text an_came_text : Option Addr} {sl_came_text : Array (Option Value)}
    {a_front_pick : Addr} {oc_front_pick kV_front_pick doc_front_pick pm_front_pick cd_front_pick ct_front_pick : Value} {od_front_pick an_front_pick : Option Addr} {sl_front_pick : Array (Option Value)}
    {a_back_pick : Addr} {oc_back_pick kV_back_pick doc_back_pick pm_back_pick cd_back_pick ct_back_pick : Value} {od_back_pick an_back_pick : Option Addr} {sl_back_pick : Array (Option Value)}
    {a_need_picks : Addr} {oc_need_picks kV_need_picks doc_need_picks pm_need_picks cd_need_picks ct_need_picks : Value} {od_need_picks an_need_picks : Option Addr} {sl_need_picks : Array (Option Value)}
    {a_pick_row : Addr} {oc_pick_row kV_pick_row doc_pick_row pm_pick_row cd_pick_row ct_pick_row : Value} {od_pick_row an_pick_row : Option Addr} {sl_pick_row : Array (Option Value)}
    {a__law_box : Addr} {oc__law_box kV__law_box doc__law_box pm__law_box cd__law_box ct__law_box : Value} {od__law_box an__law_box : Option Addr} {sl__law_box : Array (Option Value)}
    {a__law_take : Addr} {oc__law_take kV__law_take doc__law_take pm__law_take cd__law_take ct__law_take : Value} {od__law_take an__law_take : Option Addr} {sl__law_take : Array (Option Value)}
    {a__law_pick : Addr} {oc__law_pick kV__law_pick doc__law_pick pm__law_pick cd__law_pick ct__law_pick : Value} {od__law_pick an__law_pick : Option Addr} {sl__law_pick : Array (Option Value)}
    {a__law_word : Addr} {oc__law_word kV__law_word doc__law_word pm__law_word cd__law_word ct__law_word : Value} {od__law_word an__law_word : Option Addr} {sl__law_word : Array (Option Value)}
    {a__law_text : Addr} {oc__law_text kV__law_text doc__law_text pm__law_text cd__law_text ct__law_text : Value} {od__law_text an__law_text : Option Addr} {sl__law_text : Array (Option Value)}
    {a__law_row : Addr} {oc__law_row kV__law_row doc__law_row pm__law_row cd__law_row ct__law_row : Value} {od__law_row an__law_row : Option Addr} {sl__law_row : Array (Option Value)}
    {a__law_refused : Addr} {oc__law_refused kV__law_refused doc__law_refused pm__law_refused cd__law_refused ct__law_refused : Value} {od__law_refused an__law_refused : Option Addr} {sl__law_refused : Array (Option Value)}
    {a__law_refused_pick : Addr} {oc__law_refused_pick kV__law_refused_pick doc__law_refused_pick pm__law_refused_pick cd__law_refused_pick ct__law_refused_pick : Value} {od__law_refused_pick an__law_refused_pick : Option Addr} {sl__law_refused_pick : Array (Option Value)}
    {a__law_put : Addr} {oc__law_put kV__law_put doc__law_put pm__law_put cd__law_put ct__law_put : Value} {od__law_put an__law_put : Option Addr} {sl__law_put : Array (Option Value)}
    {a__law_deed : Addr} {oc__law_deed kV__law_deed doc__law_deed pm__law_deed cd__law_deed ct__law_deed : Value} {od__law_deed an__law_deed : Option Addr} {sl__law_deed : Array (Option Value)}
    {a_law : Addr} {oc_law kV_law doc_law pm_law cd_law ct_law : Value} {od_law an_law : Option Addr} {sl_law : Array (Option Value)}
    (noo : PySem.W.nsIn K cStatics "thirdparty.any" = some none)
    (n_MergeError : PySem.W.nsIn K mainGlobals "MergeError" = some (some (.ref a_MergeError)))
    (n_InvalidText : PySem.W.nsIn K mainGlobals "InvalidText" = some (some (.ref a_InvalidText)))
    (n_InvalidDeeds : PySem.W.nsIn K mainGlobals "InvalidDeeds" = some (some (.ref a_InvalidDeeds)))
    (cN : PySem.W.specialIn K (.builtin "object.__class__") "__get__" = some (some (.builtin "getset_descriptor.__get__")))
    (cT : PySem.W.takesIn K (.builtin "object.__class__") = some true)
    (i_MergeError : PySem.W.isClsIn K a_MergeError = true)
    (t_MergeError : PySem.W.typeIn K (.ref a_MergeError) = some (.type "type"))
    (xL_InvalidText : K.lookup a_InvalidText = some (excClassObj nm_InvalidText q_InvalidText a_InvalidText N_InvalidText bs_InvalidText [.ref D0_InvalidText, .type "Exception", .type "BaseException", .type "object"] true sn_InvalidText sub_InvalidText ab_InvalidText col_InvalidText dd_InvalidText k0_InvalidText k1_InvalidText k2_InvalidText k3_InvalidText k5_InvalidText "Exception.__new__"))
    (sa_InvalidText : PySem.W.findIn K (.ref a_InvalidText) "__setattr__" = some (some (.builtin "object.__setattr__")))
    (na_InvalidText : PySem.W.findIn K (.ref a_InvalidText) "at" = some none)
    (own_InvalidText : PySem.W.mroIn K a_InvalidText (.ref a_InvalidText) = some true)
    (exB_InvalidText : PySem.W.subIn K (.ref a_InvalidText) (.type "BaseException") = some true)
    (exE_InvalidText : PySem.W.subIn K (.ref a_InvalidText) (.type "Exception") = some true)
    (tyC_InvalidText : PySem.W.typeIn K (.ref a_InvalidText) = some (.type "type"))
    (kC_InvalidText : PySem.W.keepIn K (.ref a_InvalidText) = true)
    (iC_InvalidText : PySem.W.isClsIn K a_InvalidText = true)
    (hd_InvalidText : PySem.W.hasDictIn K a_InvalidText = true)
    (sup_InvalidText : PySem.W.ks_superIn K a_InvalidText a_InvalidText "__init__" = some (some (.builtin "Exception.__init__")))
    (ga_InvalidText : PySem.W.findIn K (.ref a_InvalidText) "__getattribute__" = some (some (.builtin "BaseException.__getattribute__")))
    (gg_InvalidText : PySem.W.findIn K (.ref a_InvalidText) "__getattr__" = some none)
    (cA_InvalidText : PySem.W.findIn K (.ref a_InvalidText) "__class__" = some (some (.builtin "object.__class__")))
    (cM_InvalidText : PySem.W.mroIn K a_InvalidText (.type "object") = some true)
    (a1_InvalidText : PySem.W.findIn K (.ref a_InvalidText) "__init__" = some (some (.ref fI_InvalidText)))
    (t1_InvalidText : PySem.W.typeIn K (.ref fI_InvalidText) = some (.type "function"))
    (l1_InvalidText : K.lookup fI_InvalidText = some ⟨oc_InvalidText, od_InvalidText, .func (PySem.W.ksFn "__init__" qual_InvalidText (defArgs (inClass (topS 2) 0)) (defBody (inClass (topS 2) 0)) (defScope (inClass (topS 2) 0)) (.ref T_InvalidText) kV_InvalidText doc_InvalidText pm_InvalidText an_InvalidText (.ref cda_InvalidText) ct_InvalidText cc_InvalidText), osl_InvalidText⟩)
    (lT_InvalidText : K.lookup T_InvalidText = some ⟨tc_InvalidText, td_InvalidText, .seq #[dv_InvalidText] tn_InvalidText, tsl_InvalidText⟩)
    (c1_InvalidText : PySem.W.codeIn K (.ref cda_InvalidText) qual_InvalidText = true)
    (l2_InvalidText : K.lookup cda_InvalidText = some ⟨ccl_InvalidText, cdd_InvalidText, .fields vs_InvalidText, ccs_InvalidText⟩)
    (hvs_InvalidText : vs_InvalidText[2]? = some (.str file_InvalidText tf_InvalidText))
    (hf_InvalidText : ((PySem.Challenge.rw_cancelsback_k09_whole_picks_in_front_and.prog.main.file : Str) == file_InvalidText) = true)
    (l3_InvalidText : K.lookup cc_InvalidText = some ⟨cl_InvalidText, cld_InvalidText, .cell (some (.ref a_InvalidText)), csl_InvalidText⟩)
    (xL_InvalidDeeds : K.lookup a_InvalidDeeds = some (excClassObj nm_InvalidDeeds q_InvalidDeeds a_InvalidDeeds N_InvalidDeeds bs_InvalidDeeds [.ref D0_InvalidDeeds, .type "Exception", .type "BaseException", .type "object"] true sn_InvalidDeeds sub_InvalidDeeds ab_InvalidDeeds col_InvalidDeeds dd_InvalidDeeds k0_InvalidDeeds k1_InvalidDeeds k2_InvalidDeeds k3_InvalidDeeds k5_InvalidDeeds "Exception.__new__"))
    (sa_InvalidDeeds : PySem.W.findIn K (.ref a_InvalidDeeds) "__setattr__" = some (some (.builtin "object.__setattr__")))
    (na_InvalidDeeds : PySem.W.findIn K (.ref a_InvalidDeeds) "at" = some none)
    (own_InvalidDeeds : PySem.W.mroIn K a_InvalidDeeds (.ref a_InvalidDeeds) = some true)
    (exB_InvalidDeeds : PySem.W.subIn K (.ref a_InvalidDeeds) (.type "BaseException") = some true)
    (exE_InvalidDeeds : PySem.W.subIn K (.ref a_InvalidDeeds) (.type "Exception") = some true)
    (tyC_InvalidDeeds : PySem.W.typeIn K (.ref a_InvalidDeeds) = some (.type "type"))
    (kC_InvalidDeeds : PySem.W.keepIn K (.ref a_InvalidDeeds) = true)
    (iC_InvalidDeeds : PySem.W.isClsIn K a_InvalidDeeds = true)
    (hd_InvalidDeeds : PySem.W.hasDictIn K a_InvalidDeeds = true)
    (sup_InvalidDeeds : PySem.W.ks_superIn K a_InvalidDeeds a_InvalidDeeds "__init__" = some (some (.builtin "Exception.__init__")))
    (ga_InvalidDeeds : PySem.W.findIn K (.ref a_InvalidDeeds) "__getattribute__" = some (some (.builtin "BaseException.__getattribute__")))
    (gg_InvalidDeeds : PySem.W.findIn K (.ref a_InvalidDeeds) "__getattr__" = some none)
    (cA_InvalidDeeds : PySem.W.findIn K (.ref a_InvalidDeeds) "__class__" = some (some (.builtin "object.__class__")))
    (cM_InvalidDeeds : PySem.W.mroIn K a_InvalidDeeds (.type "object") = some true)
    (a1_InvalidDeeds : PySem.W.findIn K (.ref a_InvalidDeeds) "__init__" = some (some (.ref fI_InvalidDeeds)))
    (t1_InvalidDeeds : PySem.W.typeIn K (.ref fI_InvalidDeeds) = some (.type "function"))
    (l1_InvalidDeeds : K.lookup fI_InvalidDeeds = some ⟨oc_InvalidDeeds, od_InvalidDeeds, .func (PySem.W.ksFn "__init__" qual_InvalidDeeds (defArgs (inClass (topS 3) 0)) (defBody (inClass (topS 3) 0)) (defScope (inClass (topS 3) 0)) (.ref T_InvalidDeeds) kV_InvalidDeeds doc_InvalidDeeds pm_InvalidDeeds an_InvalidDeeds (.ref cda_InvalidDeeds) ct_InvalidDeeds cc_InvalidDeeds), osl_InvalidDeeds⟩)
    (lT_InvalidDeeds : K.lookup T_InvalidDeeds = some ⟨tc_InvalidDeeds, td_InvalidDeeds, .seq #[dv_InvalidDeeds] tn_InvalidDeeds, tsl_InvalidDeeds⟩)
    (c1_InvalidDeeds : PySem.W.codeIn K (.ref cda_InvalidDeeds) qual_InvalidDeeds = true)
    (l2_InvalidDeeds : K.lookup cda_InvalidDeeds = some ⟨ccl_InvalidDeeds, cdd_InvalidDeeds, .fields vs_InvalidDeeds, ccs_InvalidDeeds⟩)
    (hvs_InvalidDeeds : vs_InvalidDeeds[2]? = some (.str file_InvalidDeeds tf_InvalidDeeds))
    (hf_InvalidDeeds : ((PySem.Challenge.rw_cancelsback_k09_whole_picks_in_front_and.prog.main.file : Str) == file_InvalidDeeds) = true)
    (l3_InvalidDeeds : K.lookup cc_InvalidDeeds = some ⟨cl_InvalidDeeds, cld_InvalidDeeds, .cell (some (.ref a_InvalidDeeds)), csl_InvalidDeeds⟩)
    (sk_InvalidDeeds_MergeError : PySem.W.subIn K (.ref a_InvalidDeeds) (.ref a_MergeError) = some true)
    (zz_abs : PySem.W.nsIn K mainGlobals "abs" = some none)
    (zz_all : PySem.W.nsIn K mainGlobals "all" = some none)
    (zz_bool : PySem.W.nsIn K mainGlobals "bool" = some none)
    (zz_enumerate : PySem.W.nsIn K mainGlobals "enumerate" = some none)
    (zz_int : PySem.W.nsIn K mainGlobals "int" = some none)
    (zz_isinstance : PySem.W.nsIn K mainGlobals "isinstance" = some none)
    (zz_len : PySem.W.nsIn K mainGlobals "len" = some none)
    (zz_list : PySem.W.nsIn K mainGlobals "list" = some none)
    (zz_min : PySem.W.nsIn K mainGlobals "min" = some none)
    (zz_range : PySem.W.nsIn K mainGlobals "range" = some none)
    (zz_repr : PySem.W.nsIn K mainGlobals "repr" = some none)
    (zz_super : PySem.W.nsIn K mainGlobals "super" = some none)
    (zz_tuple : PySem.W.nsIn K mainGlobals "tuple" = some none)
    (zz_zip : PySem.W.nsIn K mainGlobals "zip" = some none)
    (zc_MANY_LETTERS : PySem.W.nsIn K mainGlobals "MANY_LETTERS" = some (some (.int 100 tc_MANY_LETTERS)))
    (zp_PICK_SIDES : PySem.W.nsIn K mainGlobals "PICK_SIDES" = some (some (.ref ap_PICK_SIDES)))
    (lp_PICK_SIDES : K.lookup ap_PICK_SIDES = some ⟨.type "tuple", none, .seq #[.str "front" t0p_PICK_SIDES, .str "back" t1p_PICK_SIDES] np_PICK_SIDES, slp_PICK_SIDES⟩)
    (skn_InvalidDeeds_InvalidText : PySem.W.subIn K (.ref a_InvalidDeeds) (.ref a_InvalidText) = some false)
    (skn_InvalidText_InvalidDeeds : PySem.W.subIn K (.ref a_InvalidText) (.ref a_InvalidDeeds) = some false)
    (n_is_integer : PySem.W.nsIn K mainGlobals "is_integer" = some (some (.ref a_is_integer)))
    (l_is_integer : K.lookup a_is_integer = some ⟨oc_is_integer, od_is_integer, .func (PySem.W.fnOf "is_integer" "is_integer" (defArgs s_is_integer) (defBody s_is_integer) (defScope s_is_integer) .none kV_is_integer doc_is_integer pm_is_integer an_is_integer cd_is_integer ct_is_integer), sl_is_integer⟩)
    (cc_is_integer : PySem.W.codeIn K cd_is_integer "is_integer" = true)
    (kk_is_integer : PySem.W.keepIn K (.ref a_is_integer) = true)
    (n_is_number : PySem.W.nsIn K mainGlobals "is_number" = some (some (.ref a_is_number)))
    (l_is_number : K.lookup a_is_number = some ⟨oc_is_number, od_is_number, .func (PySem.W.fnOf "is_number" "is_number" (defArgs s_is_number) (defBody s_is_number) (defScope s_is_number) .none kV_is_number doc_is_number pm_is_number an_is_number cd_is_number ct_is_number), sl_is_number⟩)
    (cc_is_number : PySem.W.codeIn K cd_is_number "is_number" = true)
    (kk_is_number : PySem.W.keepIn K (.ref a_is_number) = true)
    (n_is_below : PySem.W.nsIn K mainGlobals "is_below" = some (some (.ref a_is_below)))
    (l_is_below : K.lookup a_is_below = some ⟨oc_is_below, od_is_below, .func (PySem.W.fnOf "is_below" "is_below" (defArgs s_is_below) (defBody s_is_below) (defScope s_is_below) .none kV_is_below doc_is_below pm_is_below an_is_below cd_is_below ct_is_below), sl_is_below⟩)
    (cc_is_below : PySem.W.codeIn K cd_is_below "is_below" = true)
    (kk_is_below : PySem.W.keepIn K (.ref a_is_below) = true)
    (n_is_sequence : PySem.W.nsIn K mainGlobals "is_sequence" = some (some (.ref a_is_sequence)))
    (l_is_sequence : K.lookup a_is_sequence = some ⟨oc_is_sequence, od_is_sequence, .func (PySem.W.fnOf "is_sequence" "is_sequence" (defArgs s_is_sequence) (defBody s_is_sequence) (defScope s_is_sequence) .none kV_is_sequence doc_is_sequence pm_is_sequence an_is_sequence cd_is_sequence ct_is_sequence), sl_is_sequence⟩)
    (cc_is_sequence : PySem.W.codeIn K cd_is_sequence "is_sequence" = true)
    (kk_is_sequence : PySem.W.keepIn K (.ref a_is_sequence) = true)
    (n_is_letter : PySem.W.nsIn K mainGlobals "is_letter" = some (some (.ref a_is_letter)))
    (l_is_letter : K.lookup a_is_letter = some ⟨oc_is_letter, od_is_letter, .func (PySem.W.fnOf "is_letter" "is_letter" (defArgs s_is_letter) (defBody s_is_letter) (defScope s_is_letter) .none kV_is_letter doc_is_letter pm_is_letter an_is_letter cd_is_letter ct_is_letter), sl_is_letter⟩)
    (cc_is_letter : PySem.W.codeIn K cd_is_letter "is_letter" = true)
    (kk_is_letter : PySem.W.keepIn K (.ref a_is_letter) = true)
    (n_is_text : PySem.W.nsIn K mainGlobals "is_text" = some (some (.ref a_is_text)))
    (l_is_text : K.lookup a_is_text = some ⟨oc_is_text, od_is_text, .func (PySem.W.fnOf "is_text" "is_text" (defArgs s_is_text) (defBody s_is_text) (defScope s_is_text) .none kV_is_text doc_is_text pm_is_text an_is_text cd_is_text ct_is_text), sl_is_text⟩)
    (cc_is_text : PySem.W.codeIn K cd_is_text "is_text" = true)
    (kk_is_text : PySem.W.keepIn K (.ref a_is_text) = true)
    (n_need_text : PySem.W.nsIn K mainGlobals "need_text" = some (some (.ref a_need_text)))
    (l_need_text : K.lookup a_need_text = some ⟨oc_need_text, od_need_text, .func (PySem.W.fnOf "need_text" "need_text" (defArgs s_need_text) (defBody s_need_text) (defScope s_need_text) (.ref T_need_text) kV_need_text doc_need_text pm_need_text an_need_text cd_need_text ct_need_text), sl_need_text⟩)
    (lT_need_text : K.lookup T_need_text = some ⟨tc_need_text, td_need_text, .seq #[.int (-1) tk0_need_text] tn_need_text, ts_need_text⟩)
    (cc_need_text : PySem.W.codeIn K cd_need_text "need_text" = true)
    (kk_need_text : PySem.W.keepIn K (.ref a_need_text) = true)
    (n_shared_length : PySem.W.nsIn K mainGlobals "shared_length" = some (some (.ref a_shared_length)))
    (l_shared_length : K.lookup a_shared_length = some ⟨oc_shared_length, od_shared_length, .func (PySem.W.fnOf "shared_length" "shared_length" (defArgs s_shared_length) (defBody s_shared_length) (defScope s_shared_length) .none kV_shared_length doc_shared_length pm_shared_length an_shared_length cd_shared_length ct_shared_length), sl_shared_length⟩)
    (cc_shared_length : PySem.W.codeIn K cd_shared_length "shared_length" = true)
    (kk_shared_length : PySem.W.keepIn K (.ref a_shared_length) = true)
    (n_need_three : PySem.W.nsIn K mainGlobals "need_three" = some (some (.ref a_need_three)))
    (l_need_three : K.lookup a_need_three = some ⟨oc_need_three, od_need_three, .func (PySem.W.fnOf "need_three" "need_three" (defArgs s_need_three) (defBody s_need_three) (defScope s_need_three) .none kV_need_three doc_need_three pm_need_three an_need_three cd_need_three ct_need_three), sl_need_three⟩)
    (cc_need_three : PySem.W.codeIn K cd_need_three "need_three" = true)
    (kk_need_three : PySem.W.keepIn K (.ref a_need_three) = true)
    (n_claimed_ends : PySem.W.nsIn K mainGlobals "claimed_ends" = some (some (.ref a_claimed_ends)))
    (l_claimed_ends : K.lookup a_claimed_ends = some ⟨oc_claimed_ends, od_claimed_ends, .func (PySem.W.fnOf "claimed_ends" "claimed_ends" (defArgs s_claimed_ends) (defBody s_claimed_ends) (defScope s_claimed_ends) .none kV_claimed_ends doc_claimed_ends pm_claimed_ends an_claimed_ends cd_claimed_ends ct_claimed_ends), sl_claimed_ends⟩)
    (cc_claimed_ends : PySem.W.codeIn K cd_claimed_ends "claimed_ends" = true)
    (kk_claimed_ends : PySem.W.keepIn K (.ref a_claimed_ends) = true)
    (n_came_text : PySem.W.nsIn K mainGlobals "came_text" = some (some (.ref a_came_text)))
    (l_came_text : K.lookup a_came_text = some ⟨oc_came_text, od_came_text, .func (PySem.W.fnOf "came_text" "came_text" (defArgs s_came_text) (defBody s_came_text) (defScope s_came_text) .none kV_came_text doc_came_text pm_came_text an_came_text cd_came_text ct_came_text), sl_came_text⟩)
    (cc_came_text : PySem.W.codeIn K cd_came_text "came_text" = true)
    (kk_came_text : PySem.W.keepIn K (.ref a_came_text) = true)
    (n_front_pick : PySem.W.nsIn K mainGlobals "front_pick" = some (some (.ref a_front_pick)))
    (l_front_pick : K.lookup a_front_pick = some ⟨oc_front_pick, od_front_pick, .func (PySem.W.fnOf "front_pick" "front_pick" (defArgs s_front_pick) (defBody s_front_pick) (defScope s_front_pick) .none kV_front_pick doc_front_pick pm_front_pick an_front_pick cd_front_pick ct_front_pick), sl_front_pick⟩)
    (cc_front_pick : PySem.W.codeIn K cd_front_pick "front_pick" = true)
    (kk_front_pick : PySem.W.keepIn K (.ref a_front_pick) = true)
    (n_back_pick : PySem.W.nsIn K mainGlobals "back_pick" = some (some (.ref a_back_pick)))
    (l_back_pick : K.lookup a_back_pick = some ⟨oc_back_pick, od_back_pick, .func (PySem.W.fnOf "back_pick" "back_pick" (defArgs s_back_pick) (defBody s_back_pick) (defScope s_back_pick) .none kV_back_pick doc_back_pick pm_back_pick an_back_pick cd_back_pick ct_back_pick), sl_back_pick⟩)
    (cc_back_pick : PySem.W.codeIn K cd_back_pick "back_pick" = true)
    (kk_back_pick : PySem.W.keepIn K (.ref a_back_pick) = true)
    (n_need_picks : PySem.W.nsIn K mainGlobals "need_picks" = some (some (.ref a_need_picks)))
    (l_need_picks : K.lookup a_need_picks = some ⟨oc_need_picks, od_need_picks, .func (PySem.W.fnOf "need_picks" "need_picks" (defArgs s_need_picks) (defBody s_need_picks) (defScope s_need_picks) .none kV_need_picks doc_need_picks pm_need_picks an_need_picks cd_need_picks ct_need_picks), sl_need_picks⟩)
    (cc_need_picks : PySem.W.codeIn K cd_need_picks "need_picks" = true)
    (kk_need_picks : PySem.W.keepIn K (.ref a_need_picks) = true)
    (n_pick_row : PySem.W.nsIn K mainGlobals "pick_row" = some (some (.ref a_pick_row)))
    (l_pick_row : K.lookup a_pick_row = some ⟨oc_pick_row, od_pick_row, .func (PySem.W.fnOf "pick_row" "pick_row" (defArgs s_pick_row) (defBody s_pick_row) (defScope s_pick_row) .none kV_pick_row doc_pick_row pm_pick_row an_pick_row cd_pick_row ct_pick_row), sl_pick_row⟩)
    (cc_pick_row : PySem.W.codeIn K cd_pick_row "pick_row" = true)
    (kk_pick_row : PySem.W.keepIn K (.ref a_pick_row) = true)
    (n__law_box : PySem.W.nsIn K mainGlobals "_law_box" = some (some (.ref a__law_box)))
    (l__law_box : K.lookup a__law_box = some ⟨oc__law_box, od__law_box, .func (PySem.W.fnOf "_law_box" "_law_box" (defArgs s__law_box) (defBody s__law_box) (defScope s__law_box) .none kV__law_box doc__law_box pm__law_box an__law_box cd__law_box ct__law_box), sl__law_box⟩)
    (cc__law_box : PySem.W.codeIn K cd__law_box "_law_box" = true)
    (kk__law_box : PySem.W.keepIn K (.ref a__law_box) = true)
    (n__law_take : PySem.W.nsIn K mainGlobals "_law_take" = some (some (.ref a__law_take)))
    (l__law_take : K.lookup a__law_take = some ⟨oc__law_take, od__law_take, .func (PySem.W.fnOf "_law_take" "_law_take" (defArgs s__law_take) (defBody s__law_take) (defScope s__law_take) .none kV__law_take doc__law_take pm__law_take an__law_take cd__law_take ct__law_take), sl__law_take⟩)
    (cc__law_take : PySem.W.codeIn K cd__law_take "_law_take" = true)
    (kk__law_take : PySem.W.keepIn K (.ref a__law_take) = true)
    (n__law_pick : PySem.W.nsIn K mainGlobals "_law_pick" = some (some (.ref a__law_pick)))
    (l__law_pick : K.lookup a__law_pick = some ⟨oc__law_pick, od__law_pick, .func (PySem.W.fnOf "_law_pick" "_law_pick" (defArgs s__law_pick) (defBody s__law_pick) (defScope s__law_pick) .none kV__law_pick doc__law_pick pm__law_pick an__law_pick cd__law_pick ct__law_pick), sl__law_pick⟩)
    (cc__law_pick : PySem.W.codeIn K cd__law_pick "_law_pick" = true)
    (kk__law_pick : PySem.W.keepIn K (.ref a__law_pick) = true)
    (n__law_word : PySem.W.nsIn K mainGlobals "_law_word" = some (some (.ref a__law_word)))
    (l__law_word : K.lookup a__law_word = some ⟨oc__law_word, od__law_word, .func (PySem.W.fnOf "_law_word" "_law_word" (defArgs s__law_word) (defBody s__law_word) (defScope s__law_word) .none kV__law_word doc__law_word pm__law_word an__law_word cd__law_word ct__law_word), sl__law_word⟩)
    (cc__law_word : PySem.W.codeIn K cd__law_word "_law_word" = true)
    (kk__law_word : PySem.W.keepIn K (.ref a__law_word) = true)
    (n__law_text : PySem.W.nsIn K mainGlobals "_law_text" = some (some (.ref a__law_text)))
    (l__law_text : K.lookup a__law_text = some ⟨oc__law_text, od__law_text, .func (PySem.W.fnOf "_law_text" "_law_text" (defArgs s__law_text) (defBody s__law_text) (defScope s__law_text) .none kV__law_text doc__law_text pm__law_text an__law_text cd__law_text ct__law_text), sl__law_text⟩)
    (cc__law_text : PySem.W.codeIn K cd__law_text "_law_text" = true)
    (kk__law_text : PySem.W.keepIn K (.ref a__law_text) = true)
    (n__law_row : PySem.W.nsIn K mainGlobals "_law_row" = some (some (.ref a__law_row)))
    (l__law_row : K.lookup a__law_row = some ⟨oc__law_row, od__law_row, .func (PySem.W.fnOf "_law_row" "_law_row" (defArgs s__law_row) (defBody s__law_row) (defScope s__law_row) .none kV__law_row doc__law_row pm__law_row an__law_row cd__law_row ct__law_row), sl__law_row⟩)
    (cc__law_row : PySem.W.codeIn K cd__law_row "_law_row" = true)
    (kk__law_row : PySem.W.keepIn K (.ref a__law_row) = true)
    (n__law_refused : PySem.W.nsIn K mainGlobals "_law_refused" = some (some (.ref a__law_refused)))
    (l__law_refused : K.lookup a__law_refused = some ⟨oc__law_refused, od__law_refused, .func (PySem.W.fnOf "_law_refused" "_law_refused" (defArgs s__law_refused) (defBody s__law_refused) (defScope s__law_refused) .none kV__law_refused doc__law_refused pm__law_refused an__law_refused cd__law_refused ct__law_refused), sl__law_refused⟩)
    (cc__law_refused : PySem.W.codeIn K cd__law_refused "_law_refused" = true)
    (kk__law_refused : PySem.W.keepIn K (.ref a__law_refused) = true)
    (n__law_refused_pick : PySem.W.nsIn K mainGlobals "_law_refused_pick" = some (some (.ref a__law_refused_pick)))
    (l__law_refused_pick : K.lookup a__law_refused_pick = some ⟨oc__law_refused_pick, od__law_refused_pick, .func (PySem.W.fnOf "_law_refused_pick" "_law_refused_pick" (defArgs s__law_refused_pick) (defBody s__law_refused_pick) (defScope s__law_refused_pick) .none kV__law_refused_pick doc__law_refused_pick pm__law_refused_pick an__law_refused_pick cd__law_refused_pick ct__law_refused_pick), sl__law_refused_pick⟩)
    (cc__law_refused_pick : PySem.W.codeIn K cd__law_refused_pick "_law_refused_pick" = true)
    (kk__law_refused_pick : PySem.W.keepIn K (.ref a__law_refused_pick) = true)
    (n__law_put : PySem.W.nsIn K mainGlobals "_law_put" = some (some (.ref a__law_put)))
    (l__law_put : K.lookup a__law_put = some ⟨oc__law_put, od__law_put, .func (PySem.W.fnOf "_law_put" "_law_put" (defArgs s__law_put) (defBody s__law_put) (defScope s__law_put) .none kV__law_put doc__law_put pm__law_put an__law_put cd__law_put ct__law_put), sl__law_put⟩)
    (cc__law_put : PySem.W.codeIn K cd__law_put "_law_put" = true)
    (kk__law_put : PySem.W.keepIn K (.ref a__law_put) = true)
    (n__law_deed : PySem.W.nsIn K mainGlobals "_law_deed" = some (some (.ref a__law_deed)))
    (l__law_deed : K.lookup a__law_deed = some ⟨oc__law_deed, od__law_deed, .func (PySem.W.fnOf "_law_deed" "_law_deed" (defArgs s__law_deed) (defBody s__law_deed) (defScope s__law_deed) .none kV__law_deed doc__law_deed pm__law_deed an__law_deed cd__law_deed ct__law_deed), sl__law_deed⟩)
    (cc__law_deed : PySem.W.codeIn K cd__law_deed "_law_deed" = true)
    (kk__law_deed : PySem.W.keepIn K (.ref a__law_deed) = true)
    (n_law : PySem.W.nsIn K mainGlobals "law" = some (some (.ref a_law)))
    (l_law : K.lookup a_law = some ⟨oc_law, od_law, .func (PySem.W.fnOf "law" "law" (defArgs s_law) (defBody s_law) (defScope s_law) .none kV_law doc_law pm_law an_law cd_law ct_law), sl_law⟩)
    (cc_law : PySem.W.codeIn K cd_law "law" = true)
    (kk_law : PySem.W.keepIn K (.ref a_law) = true)
    : ∃ (fd : FuncData) (fm : List D → R0 Rt), (∀ (s : Shared) (u : Value), BindsTo s fd ⟨[u], []⟩ [("_law_script", u)]) ∧ (∀ ns : List Int, ns.length ≤ 63 → fm [.lst (ns.map D.int)] = .ok (.v (.bl true))) ∧ ∀ base : Heap, K.In base → base.Ns mainGlobals mg → FnG PySem.Challenge.rw_cancelsback_k09_whole_picks_in_front_and.prog w K mg base 10 fa fd ["_law_script"] (FSp ⟨K, mg⟩ fm) := by
  have e := hfa.symm.trans (PySem.W.mg_of hX G n_law)
  cases e
  have z_abs := PySem.W.mg_none_of hX G zz_abs
  have z_all := PySem.W.mg_none_of hX G zz_all
  have z_bool := PySem.W.mg_none_of hX G zz_bool
  have z_enumerate := PySem.W.mg_none_of hX G zz_enumerate
  have z_int := PySem.W.mg_none_of hX G zz_int
  have z_isinstance := PySem.W.mg_none_of hX G zz_isinstance
  have z_len := PySem.W.mg_none_of hX G zz_len
  have z_list := PySem.W.mg_none_of hX G zz_list
  have z_min := PySem.W.mg_none_of hX G zz_min
  have z_range := PySem.W.mg_none_of hX G zz_range
  have z_repr := PySem.W.mg_none_of hX G zz_repr
  have z_super := PySem.W.mg_none_of hX G zz_super
  have z_tuple := PySem.W.mg_none_of hX G zz_tuple
  have z_zip := PySem.W.mg_none_of hX G zz_zip
  have c_MANY_LETTERS : ∃ t, mg "MANY_LETTERS" = some (.int 100 t) := ⟨_, PySem.W.mg_of hX G zc_MANY_LETTERS⟩
  have g_MergeError := PySem.W.mg_of hX G n_MergeError
  have e_InvalidText : ErrC K PySem.Challenge.rw_cancelsback_k09_whole_picks_in_front_and.prog mg "InvalidText" "at" a_InvalidText := err_mk hX G tx_InvalidText rfl hf_InvalidText n_InvalidText xL_InvalidText sa_InvalidText na_InvalidText own_InvalidText exB_InvalidText exE_InvalidText tyC_InvalidText kC_InvalidText iC_InvalidText hd_InvalidText sup_InvalidText noo ga_InvalidText gg_InvalidText cA_InvalidText cN cT cM_InvalidText a1_InvalidText t1_InvalidText l1_InvalidText lT_InvalidText c1_InvalidText l2_InvalidText hvs_InvalidText l3_InvalidText
  have e_InvalidDeeds : ErrC K PySem.Challenge.rw_cancelsback_k09_whole_picks_in_front_and.prog mg "InvalidDeeds" "at" a_InvalidDeeds := err_mk hX G tx_InvalidDeeds rfl hf_InvalidDeeds n_InvalidDeeds xL_InvalidDeeds sa_InvalidDeeds na_InvalidDeeds own_InvalidDeeds exB_InvalidDeeds exE_InvalidDeeds tyC_InvalidDeeds kC_InvalidDeeds iC_InvalidDeeds hd_InvalidDeeds sup_InvalidDeeds noo ga_InvalidDeeds gg_InvalidDeeds cA_InvalidDeeds cN cT cM_InvalidDeeds a1_InvalidDeeds t1_InvalidDeeds l1_InvalidDeeds lT_InvalidDeeds c1_InvalidDeeds l2_InvalidDeeds hvs_InvalidDeeds l3_InvalidDeeds
  have k_InvalidDeeds_MergeError := kit_below i_MergeError t_MergeError sk_InvalidDeeds_MergeError
  have kn_InvalidDeeds_InvalidText := PySem.W.exm_ref exB_InvalidText hd_InvalidText tyC_InvalidText skn_InvalidDeeds_InvalidText
  have kn_InvalidText_InvalidDeeds := PySem.W.exm_ref exB_InvalidDeeds hd_InvalidDeeds tyC_InvalidDeeds skn_InvalidText_InvalidDeeds
  have p_PICK_SIDES := glT_mk (PySem.W.mg_of hX G zp_PICK_SIDES) lp_PICK_SIDES (Nat.le_of_ble_eq_true rfl) (fun _ _ => (fl_str (fl_str .nil)))
  have F_is_integer := fd_mk (st := s_is_integer) l_is_integer cc_is_integer kk_is_integer
  have F_is_number := fd_mk (st := s_is_number) l_is_number cc_is_number kk_is_number
  have F_is_below := fd_mk (st := s_is_below) l_is_below cc_is_below kk_is_below
  have F_is_sequence := fd_mk (st := s_is_sequence) l_is_sequence cc_is_sequence kk_is_sequence
  have F_is_letter := fd_mk (st := s_is_letter) l_is_letter cc_is_letter kk_is_letter
  have F_is_text := fd_mk (st := s_is_text) l_is_text cc_is_text kk_is_text
  have F_need_text := fd_mk (st := s_need_text) l_need_text cc_need_text kk_need_text
  have F_shared_length := fd_mk (st := s_shared_length) l_shared_length cc_shared_length kk_shared_length
  have F_need_three := fd_mk (st := s_need_three) l_need_three cc_need_three kk_need_three
  have F_claimed_ends := fd_mk (st := s_claimed_ends) l_claimed_ends cc_claimed_ends kk_claimed_ends
  have F_came_text := fd_mk (st := s_came_text) l_came_text cc_came_text kk_came_text
  have F_front_pick := fd_mk (st := s_front_pick) l_front_pick cc_front_pick kk_front_pick
  have F_back_pick := fd_mk (st := s_back_pick) l_back_pick cc_back_pick kk_back_pick
  have F_need_picks := fd_mk (st := s_need_picks) l_need_picks cc_need_picks kk_need_picks
  have F_pick_row := fd_mk (st := s_pick_row) l_pick_row cc_pick_row kk_pick_row
  have F__law_box := fd_mk (st := s__law_box) l__law_box cc__law_box kk__law_box
  have F__law_take := fd_mk (st := s__law_take) l__law_take cc__law_take kk__law_take
  have F__law_pick := fd_mk (st := s__law_pick) l__law_pick cc__law_pick kk__law_pick
  have F__law_word := fd_mk (st := s__law_word) l__law_word cc__law_word kk__law_word
  have F__law_text := fd_mk (st := s__law_text) l__law_text cc__law_text kk__law_text
  have F__law_row := fd_mk (st := s__law_row) l__law_row cc__law_row kk__law_row
  have F__law_refused := fd_mk (st := s__law_refused) l__law_refused cc__law_refused kk__law_refused
  have F__law_refused_pick := fd_mk (st := s__law_refused_pick) l__law_refused_pick cc__law_refused_pick kk__law_refused_pick
  have F__law_put := fd_mk (st := s__law_put) l__law_put cc__law_put kk__law_put
  have F__law_deed := fd_mk (st := s__law_deed) l__law_deed cc__law_deed kk__law_deed
  have F_law := fd_mk (st := s_law) l_law cc_law kk_law
  refine ⟨PySem.W.fnOf "law" "law" (defArgs s_law) (defBody s_law) (defScope s_law) .none kV_law doc_law pm_law an_law cd_law ct_law, f_law, fun s u => .of_eq rfl, math, fun base _ _ => ?_⟩
  have G_is_integer := ok_is_integer (P := PySem.Challenge.rw_cancelsback_k09_whole_picks_in_front_and.prog) (w := w) (K := K) (mg := mg) (base := base) F_is_integer z_isinstance z_int z_bool
  have h_is_integer := has_mk F_is_integer (PySem.W.mg_of hX G n_is_integer) G_is_integer (.all fun us hl => match us, hl with | [_], _ => rfl)
  have G_is_number := ok_is_number (P := PySem.Challenge.rw_cancelsback_k09_whole_picks_in_front_and.prog) (w := w) (K := K) (mg := mg) (base := base) F_is_number h_is_integer
  have h_is_number := has_mk F_is_number (PySem.W.mg_of hX G n_is_number) G_is_number (.all fun us hl => match us, hl with | [_], _ => rfl)
  have G_is_below := ok_is_below (P := PySem.Challenge.rw_cancelsback_k09_whole_picks_in_front_and.prog) (w := w) (K := K) (mg := mg) (base := base) F_is_below h_is_number
  have h_is_below := has_mk F_is_below (PySem.W.mg_of hX G n_is_below) G_is_below (.all fun us hl => match us, hl with | [_, _], _ => rfl)
  have G_is_sequence := ok_is_sequence (P := PySem.Challenge.rw_cancelsback_k09_whole_picks_in_front_and.prog) (w := w) (K := K) (mg := mg) (base := base) F_is_sequence z_isinstance z_list z_tuple
  have h_is_sequence := has_mk F_is_sequence (PySem.W.mg_of hX G n_is_sequence) G_is_sequence (.all fun us hl => match us, hl with | [_], _ => rfl)
  have G_is_letter := ok_is_letter (P := PySem.Challenge.rw_cancelsback_k09_whole_picks_in_front_and.prog) (w := w) (K := K) (mg := mg) (base := base) F_is_letter c_MANY_LETTERS h_is_below
  have h_is_letter := has_mk F_is_letter (PySem.W.mg_of hX G n_is_letter) G_is_letter (.all fun us hl => match us, hl with | [_], _ => rfl)
  have G_is_text := ok_is_text (P := PySem.Challenge.rw_cancelsback_k09_whole_picks_in_front_and.prog) (w := w) (K := K) (mg := mg) (base := base) F_is_text h_is_sequence h_is_letter z_all
  have h_is_text := has_mk F_is_text (PySem.W.mg_of hX G n_is_text) G_is_text (.all fun us hl => match us, hl with | [_], _ => rfl)
  have G_need_text := ok_need_text (P := PySem.Challenge.rw_cancelsback_k09_whole_picks_in_front_and.prog) (w := w) (K := K) (mg := mg) (base := base) F_need_text h_is_text e_InvalidText z_super z_tuple
  have h_need_text := has_mk F_need_text (PySem.W.mg_of hX G n_need_text) G_need_text (binds_d lT_need_text fun us hl => match us, hl with | [_, _], _ => ⟨_, rfl, rfl⟩)
  have D1_need_text := hasD_mk (dvs := [.int (-1)]) (ds := [.int (-1) tk0_need_text]) F_need_text (PySem.W.mg_of hX G n_need_text) G_need_text (binds_dn lT_need_text fun us hl => match us, (by simpa using hl : us.length = 1) with | [_], _ => ⟨_, rfl, rfl⟩) (.cons ⟨_, rfl⟩ .nil) (sc_int sc_nil)
  have G_shared_length := ok_shared_length (P := PySem.Challenge.rw_cancelsback_k09_whole_picks_in_front_and.prog) (w := w) (K := K) (mg := mg) (base := base) F_shared_length z_enumerate z_zip z_len z_min
  have h_shared_length := has_mk F_shared_length (PySem.W.mg_of hX G n_shared_length) G_shared_length (.all fun us hl => match us, hl with | [_, _], _ => rfl)
  have G_need_three := ok_need_three (P := PySem.Challenge.rw_cancelsback_k09_whole_picks_in_front_and.prog) (w := w) (K := K) (mg := mg) (base := base) F_need_three h_need_text
  have h_need_three := has_mk F_need_three (PySem.W.mg_of hX G n_need_three) G_need_three (.all fun us hl => match us, hl with | [_, _, _], _ => rfl)
  have G_claimed_ends := ok_claimed_ends (P := PySem.Challenge.rw_cancelsback_k09_whole_picks_in_front_and.prog) (w := w) (K := K) (mg := mg) (base := base) F_claimed_ends h_shared_length z_len
  have h_claimed_ends := has_mk F_claimed_ends (PySem.W.mg_of hX G n_claimed_ends) G_claimed_ends (.all fun us hl => match us, hl with | [_, _, _], _ => rfl)
  have G_came_text := ok_came_text (P := PySem.Challenge.rw_cancelsback_k09_whole_picks_in_front_and.prog) (w := w) (K := K) (mg := mg) (base := base) F_came_text h_claimed_ends z_len
  have h_came_text := has_mk F_came_text (PySem.W.mg_of hX G n_came_text) G_came_text (.all fun us hl => match us, hl with | [_, _, _], _ => rfl)
  have G_front_pick := ok_front_pick (P := PySem.Challenge.rw_cancelsback_k09_whole_picks_in_front_and.prog) (w := w) (K := K) (mg := mg) (base := base) F_front_pick h_need_three h_came_text
  have h_front_pick := has_mk F_front_pick (PySem.W.mg_of hX G n_front_pick) G_front_pick (.all fun us hl => match us, hl with | [_, _, _], _ => rfl)
  have K0_front_pick := hasK_mk F_front_pick (PySem.W.mg_of hX G n_front_pick) G_front_pick (kbn_mk (n := 0) (ks := ["text", "old", "new"]) (pm := [.inr 0, .inr 1, .inr 2]) fun us ws h1 h2 => match us, ws, h1, h2 with | [], [_, _, _], _, _ => rfl)
  have G_back_pick := ok_back_pick (P := PySem.Challenge.rw_cancelsback_k09_whole_picks_in_front_and.prog) (w := w) (K := K) (mg := mg) (base := base) F_back_pick h_need_three h_came_text
  have h_back_pick := has_mk F_back_pick (PySem.W.mg_of hX G n_back_pick) G_back_pick (.all fun us hl => match us, hl with | [_, _, _], _ => rfl)
  have K1_back_pick := hasK_mk F_back_pick (PySem.W.mg_of hX G n_back_pick) G_back_pick (kbn_mk (n := 0) (ks := ["text", "new", "old"]) (pm := [.inr 0, .inr 2, .inr 1]) fun us ws h1 h2 => match us, ws, h1, h2 with | [], [_, _, _], _, _ => rfl)
  have G_need_picks := ok_need_picks (P := PySem.Challenge.rw_cancelsback_k09_whole_picks_in_front_and.prog) (w := w) (K := K) (mg := mg) (base := base) F_need_picks h_is_sequence e_InvalidDeeds z_super z_enumerate z_len p_PICK_SIDES h_is_text z_tuple
  have h_need_picks := has_mk F_need_picks (PySem.W.mg_of hX G n_need_picks) G_need_picks (.all fun us hl => match us, hl with | [_], _ => rfl)
  have G_pick_row := ok_pick_row (P := PySem.Challenge.rw_cancelsback_k09_whole_picks_in_front_and.prog) (w := w) (K := K) (mg := mg) (base := base) F_pick_row D1_need_text h_need_picks z_enumerate h_came_text
  have h_pick_row := has_mk F_pick_row (PySem.W.mg_of hX G n_pick_row) G_pick_row (.all fun us hl => match us, hl with | [_, _], _ => rfl)
  have K2_pick_row := hasK_mk F_pick_row (PySem.W.mg_of hX G n_pick_row) G_pick_row (kbn_mk (n := 0) (ks := ["deeds", "text"]) (pm := [.inr 1, .inr 0]) fun us ws h1 h2 => match us, ws, h1, h2 with | [], [_, _], _, _ => rfl)
  have G__law_box := ok__law_box (P := PySem.Challenge.rw_cancelsback_k09_whole_picks_in_front_and.prog) (w := w) (K := K) (mg := mg) (base := base) F__law_box z_len z_abs z_int
  have h_law_box := has_mk F__law_box (PySem.W.mg_of hX G n__law_box) G__law_box (.all fun us hl => match us, hl with | [_, _], _ => rfl)
  have G__law_take := ok__law_take (P := PySem.Challenge.rw_cancelsback_k09_whole_picks_in_front_and.prog) (w := w) (K := K) (mg := mg) (base := base) F__law_take z_int
  have h_law_take := hasB_mk F__law_take (PySem.W.mg_of hX G n__law_take) G__law_take (.all fun us hl => match us, hl with | [_, _], _ => rfl)
  have G__law_pick := ok__law_pick (P := PySem.Challenge.rw_cancelsback_k09_whole_picks_in_front_and.prog) (w := w) (K := K) (mg := mg) (base := base) F__law_pick z_len h_law_take
  have h_law_pick := hasB_mk F__law_pick (PySem.W.mg_of hX G n__law_pick) G__law_pick (.all fun us hl => match us, hl with | [_, _], _ => rfl)
  have G__law_word := ok__law_word (P := PySem.Challenge.rw_cancelsback_k09_whole_picks_in_front_and.prog) (w := w) (K := K) (mg := mg) (base := base) F__law_word z_enumerate z_tuple
  have h_law_word := has_mk F__law_word (PySem.W.mg_of hX G n__law_word) G__law_word (.all fun us hl => match us, hl with | [_], _ => rfl)
  have G__law_text := ok__law_text (P := PySem.Challenge.rw_cancelsback_k09_whole_picks_in_front_and.prog) (w := w) (K := K) (mg := mg) (base := base) F__law_text h_law_word z_tuple
  have h_law_text := has_mk F__law_text (PySem.W.mg_of hX G n__law_text) G__law_text (.all fun us hl => match us, hl with | [_], _ => rfl)
  have G__law_row := ok__law_row (P := PySem.Challenge.rw_cancelsback_k09_whole_picks_in_front_and.prog) (w := w) (K := K) (mg := mg) (base := base) F__law_row h_law_take z_range z_tuple
  have h_law_row := hasB_mk F__law_row (PySem.W.mg_of hX G n__law_row) G__law_row (.all fun us hl => match us, hl with | [_, _, _], _ => rfl)
  have G__law_refused := ok__law_refused (P := PySem.Challenge.rw_cancelsback_k09_whole_picks_in_front_and.prog) (w := w) (K := K) (mg := mg) (base := base) F__law_refused h_pick_row e_InvalidDeeds e_InvalidText g_MergeError k_InvalidDeeds_MergeError z_isinstance kn_InvalidText_InvalidDeeds kn_InvalidDeeds_InvalidText
  have h_law_refused := has_mk F__law_refused (PySem.W.mg_of hX G n__law_refused) G__law_refused (.all fun us hl => match us, hl with | [_, _], _ => rfl)
  have G__law_refused_pick := ok__law_refused_pick (P := PySem.Challenge.rw_cancelsback_k09_whole_picks_in_front_and.prog) (w := w) (K := K) (mg := mg) (base := base) F__law_refused_pick h_back_pick h_front_pick e_InvalidText
  have h_law_refused_pick := has_mk F__law_refused_pick (PySem.W.mg_of hX G n__law_refused_pick) G__law_refused_pick (.all fun us hl => match us, hl with | [_, _, _, _], _ => rfl)
  have G__law_put := ok__law_put (P := PySem.Challenge.rw_cancelsback_k09_whole_picks_in_front_and.prog) (w := w) (K := K) (mg := mg) (base := base) F__law_put h_law_text
  have h_law_put := has_mk F__law_put (PySem.W.mg_of hX G n__law_put) G__law_put (.all fun us hl => match us, hl with | [_, _, _, _], _ => rfl)
  have G__law_deed := ok__law_deed (P := PySem.Challenge.rw_cancelsback_k09_whole_picks_in_front_and.prog) (w := w) (K := K) (mg := mg) (base := base) F__law_deed h_law_row z_len h_law_take h_law_pick
  have h_law_deed := hasB_mk F__law_deed (PySem.W.mg_of hX G n__law_deed) G__law_deed (.all fun us hl => match us, hl with | [_, _, _], _ => rfl)
  exact ok_law F_law K0_front_pick h_back_pick h_pick_row h_front_pick z_range h_law_box h_law_take h_law_row h_law_deed z_list h_law_put K1_back_pick z_repr K2_pick_row z_tuple h_law_pick h_law_refused z_len h_law_refused_pick
end
end LW
end

set_option maxRecDepth 100000
open PySem L2 DL in
local macro_rules | `(tactic| simp_arith) => `(tactic| simp (disch := first | assumption | (simp only [k_non, k_bl, k_int, k_lst, k_tup, k_nil, k_cons, k_map, k_app, Bool.and_self, implies_true]; done) | omega | (refine Each.mk fun a ha => ?_; (try have ha2 := List.mem_range.mp ha); simp (disch := first | assumption | (simp only [k_non, k_bl, k_int, k_lst, k_tup, k_nil, k_cons, k_map, k_app, Bool.and_self, implies_true]; done) | omega) only [↓reduceIte, if_true, if_false, ite_true, ite_false, eq_self, reduceCtorEq, Nat.reduceAdd, Nat.reduceLeDiff, Nat.reduceLT, Nat.reduceSub, Int.reduceNeg, Int.reduceLT, Int.reduceLE, Int.reduceAdd, Int.reduceSub, Int.reduceMul, Int.reduceEq, Nat.reduceEqDiff, Int.reducePow, Int.reduceToNat, Nat.reduceMul, and_self, and_true, true_and, false_and, and_false, not_true_eq_false, not_false_eq_true, List.filterMap_cons, List.filterMap_nil, beq_self_eq_true, ev_bo, ev_be, ev_bb, ev_ro, ev_re, ev_rb, ev_sn, ev_sr, ev_sb, ev_sc, ev_se, ev_sx, ev_os, ev_on, ev_C, ev_Nil, ev_No, ev_Seq, ev_Nx, ev_Brk, ev_Cont, ev_Pop, ev_LenO, ev_Mn, ev_Yes, ev_Rg2T, ev_Rg2L, ev_gN, ev_gO, ev_gT, ev_gL, ev_itL, ev_itT, ev_atv, ev_atl, ev_ate, ev_alv, ev_ale, out_ret, out_nx, out_err, outB_ret, outB_nx, addI, subI, negI, ltI, leI, gtI, geI, isNonN, isNonT, isNotNonN, isNotNonT, lo_nx, lo_ct, lo_bk, lo_rt, lo_er, for_nil, vv0, vo0, gt0, st0, vv1, vo1, gt1, st1, vv2, vo2, gt2, st2, vv3, vo3, gt3, st3, vv4, vo4, gt4, st4, vv5, vo5, gt5, st5, vv6, vo6, gt6, st6, vv7, vo7, gt7, st7, vv8, vo8, gt8, st8, vv9, vo9, gt9, st9, vv10, vo10, gt10, st10, vv11, vo11, gt11, st11, vv12, vo12, gt12, st12, vv13, vo13, gt13, st13, vv14, vo14, gt14, st14, vv15, vo15, gt15, st15, vv16, vo16, gt16, st16, vv17, vo17, gt17, st17, vv18, vo18, gt18, st18, vv19, vo19, gt19, st19, vv20, vo20, gt20, st20, vv21, vo21, gt21, st21, vv22, vo22, gt22, st22, vv23, vo23, gt23, st23, vv24, vo24, gt24, st24, vv25, vo25, gt25, st25, vv26, vo26, gt26, st26, vv27, vo27, gt27, st27, vv28, vo28, gt28, st28, vv29, vo29, gt29, st29, vv30, vo30, gt30, st30, vv31, vo31, gt31, st31, vv32, vo32, gt32, st32, vv33, vo33, gt33, st33, zFg, zFr, fg_nx, fg_ct, fg_bk, fg_rt, fg_er, fg_0, fg_c, wr_nx, wr_ct, wr_bk, wr_rt, wr_er, wr_0n, wr_0c, wr_1c, z_io, z_ox, z_ixAt, z_put, z_atBv, z_atBl, z_ixN, z_ixM, z_nat, le_size, lt_size, okR_i, rgOk_i, z_rng1, z_rng2, z_len0, z_lenc, z_lenm, z_lena, z_app0, z_app1, z_app2, z_appm, z_revm, z_takem, z_dropm, z_emp0, z_empc, z_lenT, z_lenL, z_absI, z_intI, z_intB, z_minI, z_maxI, z_tupL, z_tupT, z_lstL, z_lstT, z_allL, z_anyL, z_mapS, z_mapN, z_bindS, z_bindN, z_truN, z_truB, z_truI, z_truL, z_truT, z_ixL, z_ixT, z_at0, z_at1, z_at2, z_at3, z_at4, z_at5, z_at6, z_at7, z_at8, z_at9, z_atm, z_isi, z_isi2, z_tyN, z_tyB, z_tyI, z_tyS, z_tyL, z_tyT, z_sub_NoneType_bool, z_sub_NoneType_int, z_sub_NoneType_str, z_sub_NoneType_list, z_sub_NoneType_tuple, z_sub_bool_bool, z_sub_bool_int, z_sub_bool_str, z_sub_bool_list, z_sub_bool_tuple, z_sub_int_bool, z_sub_int_int, z_sub_int_str, z_sub_int_list, z_sub_int_tuple, z_sub_str_bool, z_sub_str_int, z_sub_str_str, z_sub_str_list, z_sub_str_tuple, z_sub_list_bool, z_sub_list_int, z_sub_list_str, z_sub_list_list, z_sub_list_tuple, z_sub_tuple_bool, z_sub_tuple_int, z_sub_tuple_str, z_sub_tuple_list, z_sub_tuple_tuple, z_addT, z_mulR, z_mulL, z_modI, z_divI, isNI, isNotNI, isNL, isNotNL, pg_0, pg_l, pg_r, z_addLL, k_non, k_bl, k_int, k_lst, k_tup, k_nil, k_cons, k_map, k_app, z_eq, z_ne, z_inL, z_notInL, e_ii, e_bb, e_bi, e_ib, e_ss, e_tt, e_ll, e_00, e_0c, e_c0, e_cc, e_ints, e_ints0, e_0ints, e_nn, e_nb, e_ni, e_ns, e_nt, e_nl, e_bn, e_bs, e_bt, e_bl, e_in, e_is, e_it, e_il, e_sn, e_sb, e_si, e_st, e_sl, e_tn, e_tb, e_ti, e_ts, e_tl, e_ln, e_lb, e_li, e_ls, e_lt, in_0, in_c, q_it, q_if, q_ft, q_tf, q_dt, q_df, q_nt, q_nf, q_nd, q_ne, q_ta, q_fa, q_at, q_af, q_to, q_fo, q_ot, q_of, q_ss, q_nT, q_nF, q_nn, q_dT, q_dF, q_be, rg0, rg1, rg2, rg3, rg4, rg5, rg6, rg7, rg8, rg9, z_for, wp_0, wp_c, z_ei, z_notInT, z_inT, z_enL, z_enT, z_enc, z_enn, z_cast, k2b_, k2_, w_2, k1_, w_1, kCb_, kC_, w_Cons, kTup_, w_Tup, kLst_, w_Lst, kFrz_, w_Frz, kFn_, w_Fn, kFnL_, w_FnL, kB_, w_B, kTru_, w_Tru, kAnd_, w_And, kOr_, w_Or, kNot_, w_Not, kIf_, w_If, kAndV_, w_AndV, kOrV_, w_OrV, kNotV_, w_NotV, kSome_, w_Some, kSAc_, kSAb_, kSA_, w_SlA, kSLc_, kSLb_, kSL_, w_SlL, kStb_, kSt_, w_Step, kSet_, w_Set, kOwn_, w_Own, kRet_, w_Ret, kRetL_, w_RetL, kDrop_, w_Drop, kIfS_, w_IfS, kApp_, w_AppO, kPutb_, kPut_, w_Put, kIxO_, w_IxO, kLook_, w_Look, kMvb_, kMv_, w_Mv, kMlb_, kMl_, w_Ml, kP2_, w_P2, kP3_, w_P3, kFor_, w_For, kItems_, w_Items, kIt_, w_It, kLc_, w_Lc, kCall_, w_Call, kCallL_, w_CallL, kCallB_, w_CallB, kCKb_, kCK_, w_CallK, kRaise_, w_Raise, kExt_, w_Ext, w_gC, lc_ev, testL_eq, elemL_eq, goodL_eq, fil_t, fil_f, forall_const, implies_true]; done)) only [↓reduceIte, if_true, if_false, ite_true, ite_false, eq_self, reduceCtorEq, Nat.reduceAdd, Nat.reduceLeDiff, Nat.reduceLT, Nat.reduceSub, Int.reduceNeg, Int.reduceLT, Int.reduceLE, Int.reduceAdd, Int.reduceSub, Int.reduceMul, Int.reduceEq, Nat.reduceEqDiff, Int.reducePow, Int.reduceToNat, Nat.reduceMul, and_self, and_true, true_and, false_and, and_false, not_true_eq_false, not_false_eq_true, List.filterMap_cons, List.filterMap_nil, beq_self_eq_true, ev_bo, ev_be, ev_bb, ev_ro, ev_re, ev_rb, ev_sn, ev_sr, ev_sb, ev_sc, ev_se, ev_sx, ev_os, ev_on, ev_C, ev_Nil, ev_No, ev_Seq, ev_Nx, ev_Brk, ev_Cont, ev_Pop, ev_LenO, ev_Mn, ev_Yes, ev_Rg2T, ev_Rg2L, ev_gN, ev_gO, ev_gT, ev_gL, ev_itL, ev_itT, ev_atv, ev_atl, ev_ate, ev_alv, ev_ale, out_ret, out_nx, out_err, outB_ret, outB_nx, addI, subI, negI, ltI, leI, gtI, geI, isNonN, isNonT, isNotNonN, isNotNonT, lo_nx, lo_ct, lo_bk, lo_rt, lo_er, for_nil, vv0, vo0, gt0, st0, vv1, vo1, gt1, st1, vv2, vo2, gt2, st2, vv3, vo3, gt3, st3, vv4, vo4, gt4, st4, vv5, vo5, gt5, st5, vv6, vo6, gt6, st6, vv7, vo7, gt7, st7, vv8, vo8, gt8, st8, vv9, vo9, gt9, st9, vv10, vo10, gt10, st10, vv11, vo11, gt11, st11, vv12, vo12, gt12, st12, vv13, vo13, gt13, st13, vv14, vo14, gt14, st14, vv15, vo15, gt15, st15, vv16, vo16, gt16, st16, vv17, vo17, gt17, st17, vv18, vo18, gt18, st18, vv19, vo19, gt19, st19, vv20, vo20, gt20, st20, vv21, vo21, gt21, st21, vv22, vo22, gt22, st22, vv23, vo23, gt23, st23, vv24, vo24, gt24, st24, vv25, vo25, gt25, st25, vv26, vo26, gt26, st26, vv27, vo27, gt27, st27, vv28, vo28, gt28, st28, vv29, vo29, gt29, st29, vv30, vo30, gt30, st30, vv31, vo31, gt31, st31, vv32, vo32, gt32, st32, vv33, vo33, gt33, st33, zFg, zFr, fg_nx, fg_ct, fg_bk, fg_rt, fg_er, fg_0, fg_c, wr_nx, wr_ct, wr_bk, wr_rt, wr_er, wr_0n, wr_0c, wr_1c, z_io, z_ox, z_ixAt, z_put, z_atBv, z_atBl, z_ixN, z_ixM, z_nat, le_size, lt_size, okR_i, rgOk_i, z_rng1, z_rng2, z_len0, z_lenc, z_lenm, z_lena, z_app0, z_app1, z_app2, z_appm, z_revm, z_takem, z_dropm, z_emp0, z_empc, z_lenT, z_lenL, z_absI, z_intI, z_intB, z_minI, z_maxI, z_tupL, z_tupT, z_lstL, z_lstT, z_allL, z_anyL, z_mapS, z_mapN, z_bindS, z_bindN, z_truN, z_truB, z_truI, z_truL, z_truT, z_ixL, z_ixT, z_at0, z_at1, z_at2, z_at3, z_at4, z_at5, z_at6, z_at7, z_at8, z_at9, z_atm, z_isi, z_isi2, z_tyN, z_tyB, z_tyI, z_tyS, z_tyL, z_tyT, z_sub_NoneType_bool, z_sub_NoneType_int, z_sub_NoneType_str, z_sub_NoneType_list, z_sub_NoneType_tuple, z_sub_bool_bool, z_sub_bool_int, z_sub_bool_str, z_sub_bool_list, z_sub_bool_tuple, z_sub_int_bool, z_sub_int_int, z_sub_int_str, z_sub_int_list, z_sub_int_tuple, z_sub_str_bool, z_sub_str_int, z_sub_str_str, z_sub_str_list, z_sub_str_tuple, z_sub_list_bool, z_sub_list_int, z_sub_list_str, z_sub_list_list, z_sub_list_tuple, z_sub_tuple_bool, z_sub_tuple_int, z_sub_tuple_str, z_sub_tuple_list, z_sub_tuple_tuple, z_addT, z_mulR, z_mulL, z_modI, z_divI, isNI, isNotNI, isNL, isNotNL, pg_0, pg_l, pg_r, z_addLL, k_non, k_bl, k_int, k_lst, k_tup, k_nil, k_cons, k_map, k_app, z_eq, z_ne, z_inL, z_notInL, e_ii, e_bb, e_bi, e_ib, e_ss, e_tt, e_ll, e_00, e_0c, e_c0, e_cc, e_ints, e_ints0, e_0ints, e_nn, e_nb, e_ni, e_ns, e_nt, e_nl, e_bn, e_bs, e_bt, e_bl, e_in, e_is, e_it, e_il, e_sn, e_sb, e_si, e_st, e_sl, e_tn, e_tb, e_ti, e_ts, e_tl, e_ln, e_lb, e_li, e_ls, e_lt, in_0, in_c, q_it, q_if, q_ft, q_tf, q_dt, q_df, q_nt, q_nf, q_nd, q_ne, q_ta, q_fa, q_at, q_af, q_to, q_fo, q_ot, q_of, q_ss, q_nT, q_nF, q_nn, q_dT, q_dF, q_be, rg0, rg1, rg2, rg3, rg4, rg5, rg6, rg7, rg8, rg9, z_for, wp_0, wp_c, z_ei, z_notInT, z_inT, z_enL, z_enT, z_enc, z_enn, z_cast, k2b_, k2_, w_2, k1_, w_1, kCb_, kC_, w_Cons, kTup_, w_Tup, kLst_, w_Lst, kFrz_, w_Frz, kFn_, w_Fn, kFnL_, w_FnL, kB_, w_B, kTru_, w_Tru, kAnd_, w_And, kOr_, w_Or, kNot_, w_Not, kIf_, w_If, kAndV_, w_AndV, kOrV_, w_OrV, kNotV_, w_NotV, kSome_, w_Some, kSAc_, kSAb_, kSA_, w_SlA, kSLc_, kSLb_, kSL_, w_SlL, kStb_, kSt_, w_Step, kSet_, w_Set, kOwn_, w_Own, kRet_, w_Ret, kRetL_, w_RetL, kDrop_, w_Drop, kIfS_, w_IfS, kApp_, w_AppO, kPutb_, kPut_, w_Put, kIxO_, w_IxO, kLook_, w_Look, kMvb_, kMv_, w_Mv, kMlb_, kMl_, w_Ml, kP2_, w_P2, kP3_, w_P3, kFor_, w_For, kItems_, w_Items, kIt_, w_It, kLc_, w_Lc, kCall_, w_Call, kCallL_, w_CallL, kCallB_, w_CallB, kCKb_, kCK_, w_CallK, kRaise_, w_Raise, kExt_, w_Ext, w_gC, lc_ev, testL_eq, elemL_eq, goodL_eq, fil_t, fil_f])
open PySem L2 DL in
local macro_rules | `(tactic| simp_arith [$ls,*]) => `(tactic| simp (disch := first | assumption | (simp only [k_non, k_bl, k_int, k_lst, k_tup, k_nil, k_cons, k_map, k_app, Bool.and_self, implies_true, $ls,*]; done) | omega | (refine Each.mk fun a ha => ?_; (try have ha2 := List.mem_range.mp ha); simp (disch := first | assumption | (simp only [k_non, k_bl, k_int, k_lst, k_tup, k_nil, k_cons, k_map, k_app, Bool.and_self, implies_true, $ls,*]; done) | omega) only [↓reduceIte, if_true, if_false, ite_true, ite_false, eq_self, reduceCtorEq, Nat.reduceAdd, Nat.reduceLeDiff, Nat.reduceLT, Nat.reduceSub, Int.reduceNeg, Int.reduceLT, Int.reduceLE, Int.reduceAdd, Int.reduceSub, Int.reduceMul, Int.reduceEq, Nat.reduceEqDiff, Int.reducePow, Int.reduceToNat, Nat.reduceMul, and_self, and_true, true_and, false_and, and_false, not_true_eq_false, not_false_eq_true, List.filterMap_cons, List.filterMap_nil, beq_self_eq_true, ev_bo, ev_be, ev_bb, ev_ro, ev_re, ev_rb, ev_sn, ev_sr, ev_sb, ev_sc, ev_se, ev_sx, ev_os, ev_on, ev_C, ev_Nil, ev_No, ev_Seq, ev_Nx, ev_Brk, ev_Cont, ev_Pop, ev_LenO, ev_Mn, ev_Yes, ev_Rg2T, ev_Rg2L, ev_gN, ev_gO, ev_gT, ev_gL, ev_itL, ev_itT, ev_atv, ev_atl, ev_ate, ev_alv, ev_ale, out_ret, out_nx, out_err, outB_ret, outB_nx, addI, subI, negI, ltI, leI, gtI, geI, isNonN, isNonT, isNotNonN, isNotNonT, lo_nx, lo_ct, lo_bk, lo_rt, lo_er, for_nil, vv0, vo0, gt0, st0, vv1, vo1, gt1, st1, vv2, vo2, gt2, st2, vv3, vo3, gt3, st3, vv4, vo4, gt4, st4, vv5, vo5, gt5, st5, vv6, vo6, gt6, st6, vv7, vo7, gt7, st7, vv8, vo8, gt8, st8, vv9, vo9, gt9, st9, vv10, vo10, gt10, st10, vv11, vo11, gt11, st11, vv12, vo12, gt12, st12, vv13, vo13, gt13, st13, vv14, vo14, gt14, st14, vv15, vo15, gt15, st15, vv16, vo16, gt16, st16, vv17, vo17, gt17, st17, vv18, vo18, gt18, st18, vv19, vo19, gt19, st19, vv20, vo20, gt20, st20, vv21, vo21, gt21, st21, vv22, vo22, gt22, st22, vv23, vo23, gt23, st23, vv24, vo24, gt24, st24, vv25, vo25, gt25, st25, vv26, vo26, gt26, st26, vv27, vo27, gt27, st27, vv28, vo28, gt28, st28, vv29, vo29, gt29, st29, vv30, vo30, gt30, st30, vv31, vo31, gt31, st31, vv32, vo32, gt32, st32, vv33, vo33, gt33, st33, zFg, zFr, fg_nx, fg_ct, fg_bk, fg_rt, fg_er, fg_0, fg_c, wr_nx, wr_ct, wr_bk, wr_rt, wr_er, wr_0n, wr_0c, wr_1c, z_io, z_ox, z_ixAt, z_put, z_atBv, z_atBl, z_ixN, z_ixM, z_nat, le_size, lt_size, okR_i, rgOk_i, z_rng1, z_rng2, z_len0, z_lenc, z_lenm, z_lena, z_app0, z_app1, z_app2, z_appm, z_revm, z_takem, z_dropm, z_emp0, z_empc, z_lenT, z_lenL, z_absI, z_intI, z_intB, z_minI, z_maxI, z_tupL, z_tupT, z_lstL, z_lstT, z_allL, z_anyL, z_mapS, z_mapN, z_bindS, z_bindN, z_truN, z_truB, z_truI, z_truL, z_truT, z_ixL, z_ixT, z_at0, z_at1, z_at2, z_at3, z_at4, z_at5, z_at6, z_at7, z_at8, z_at9, z_atm, z_isi, z_isi2, z_tyN, z_tyB, z_tyI, z_tyS, z_tyL, z_tyT, z_sub_NoneType_bool, z_sub_NoneType_int, z_sub_NoneType_str, z_sub_NoneType_list, z_sub_NoneType_tuple, z_sub_bool_bool, z_sub_bool_int, z_sub_bool_str, z_sub_bool_list, z_sub_bool_tuple, z_sub_int_bool, z_sub_int_int, z_sub_int_str, z_sub_int_list, z_sub_int_tuple, z_sub_str_bool, z_sub_str_int, z_sub_str_str, z_sub_str_list, z_sub_str_tuple, z_sub_list_bool, z_sub_list_int, z_sub_list_str, z_sub_list_list, z_sub_list_tuple, z_sub_tuple_bool, z_sub_tuple_int, z_sub_tuple_str, z_sub_tuple_list, z_sub_tuple_tuple, z_addT, z_mulR, z_mulL, z_modI, z_divI, isNI, isNotNI, isNL, isNotNL, pg_0, pg_l, pg_r, z_addLL, k_non, k_bl, k_int, k_lst, k_tup, k_nil, k_cons, k_map, k_app, z_eq, z_ne, z_inL, z_notInL, e_ii, e_bb, e_bi, e_ib, e_ss, e_tt, e_ll, e_00, e_0c, e_c0, e_cc, e_ints, e_ints0, e_0ints, e_nn, e_nb, e_ni, e_ns, e_nt, e_nl, e_bn, e_bs, e_bt, e_bl, e_in, e_is, e_it, e_il, e_sn, e_sb, e_si, e_st, e_sl, e_tn, e_tb, e_ti, e_ts, e_tl, e_ln, e_lb, e_li, e_ls, e_lt, in_0, in_c, q_it, q_if, q_ft, q_tf, q_dt, q_df, q_nt, q_nf, q_nd, q_ne, q_ta, q_fa, q_at, q_af, q_to, q_fo, q_ot, q_of, q_ss, q_nT, q_nF, q_nn, q_dT, q_dF, q_be, rg0, rg1, rg2, rg3, rg4, rg5, rg6, rg7, rg8, rg9, z_for, wp_0, wp_c, z_ei, z_notInT, z_inT, z_enL, z_enT, z_enc, z_enn, z_cast, k2b_, k2_, w_2, k1_, w_1, kCb_, kC_, w_Cons, kTup_, w_Tup, kLst_, w_Lst, kFrz_, w_Frz, kFn_, w_Fn, kFnL_, w_FnL, kB_, w_B, kTru_, w_Tru, kAnd_, w_And, kOr_, w_Or, kNot_, w_Not, kIf_, w_If, kAndV_, w_AndV, kOrV_, w_OrV, kNotV_, w_NotV, kSome_, w_Some, kSAc_, kSAb_, kSA_, w_SlA, kSLc_, kSLb_, kSL_, w_SlL, kStb_, kSt_, w_Step, kSet_, w_Set, kOwn_, w_Own, kRet_, w_Ret, kRetL_, w_RetL, kDrop_, w_Drop, kIfS_, w_IfS, kApp_, w_AppO, kPutb_, kPut_, w_Put, kIxO_, w_IxO, kLook_, w_Look, kMvb_, kMv_, w_Mv, kMlb_, kMl_, w_Ml, kP2_, w_P2, kP3_, w_P3, kFor_, w_For, kItems_, w_Items, kIt_, w_It, kLc_, w_Lc, kCall_, w_Call, kCallL_, w_CallL, kCallB_, w_CallB, kCKb_, kCK_, w_CallK, kRaise_, w_Raise, kExt_, w_Ext, w_gC, lc_ev, testL_eq, elemL_eq, goodL_eq, fil_t, fil_f, $ls,*, forall_const, implies_true]; done)) only [↓reduceIte, if_true, if_false, ite_true, ite_false, eq_self, reduceCtorEq, Nat.reduceAdd, Nat.reduceLeDiff, Nat.reduceLT, Nat.reduceSub, Int.reduceNeg, Int.reduceLT, Int.reduceLE, Int.reduceAdd, Int.reduceSub, Int.reduceMul, Int.reduceEq, Nat.reduceEqDiff, Int.reducePow, Int.reduceToNat, Nat.reduceMul, and_self, and_true, true_and, false_and, and_false, not_true_eq_false, not_false_eq_true, List.filterMap_cons, List.filterMap_nil, beq_self_eq_true, ev_bo, ev_be, ev_bb, ev_ro, ev_re, ev_rb, ev_sn, ev_sr, ev_sb, ev_sc, ev_se, ev_sx, ev_os, ev_on, ev_C, ev_Nil, ev_No, ev_Seq, ev_Nx, ev_Brk, ev_Cont, ev_Pop, ev_LenO, ev_Mn, ev_Yes, ev_Rg2T, ev_Rg2L, ev_gN, ev_gO, ev_gT, ev_gL, ev_itL, ev_itT, ev_atv, ev_atl, ev_ate, ev_alv, ev_ale, out_ret, out_nx, out_err, outB_ret, outB_nx, addI, subI, negI, ltI, leI, gtI, geI, isNonN, isNonT, isNotNonN, isNotNonT, lo_nx, lo_ct, lo_bk, lo_rt, lo_er, for_nil, vv0, vo0, gt0, st0, vv1, vo1, gt1, st1, vv2, vo2, gt2, st2, vv3, vo3, gt3, st3, vv4, vo4, gt4, st4, vv5, vo5, gt5, st5, vv6, vo6, gt6, st6, vv7, vo7, gt7, st7, vv8, vo8, gt8, st8, vv9, vo9, gt9, st9, vv10, vo10, gt10, st10, vv11, vo11, gt11, st11, vv12, vo12, gt12, st12, vv13, vo13, gt13, st13, vv14, vo14, gt14, st14, vv15, vo15, gt15, st15, vv16, vo16, gt16, st16, vv17, vo17, gt17, st17, vv18, vo18, gt18, st18, vv19, vo19, gt19, st19, vv20, vo20, gt20, st20, vv21, vo21, gt21, st21, vv22, vo22, gt22, st22, vv23, vo23, gt23, st23, vv24, vo24, gt24, st24, vv25, vo25, gt25, st25, vv26, vo26, gt26, st26, vv27, vo27, gt27, st27, vv28, vo28, gt28, st28, vv29, vo29, gt29, st29, vv30, vo30, gt30, st30, vv31, vo31, gt31, st31, vv32, vo32, gt32, st32, vv33, vo33, gt33, st33, zFg, zFr, fg_nx, fg_ct, fg_bk, fg_rt, fg_er, fg_0, fg_c, wr_nx, wr_ct, wr_bk, wr_rt, wr_er, wr_0n, wr_0c, wr_1c, z_io, z_ox, z_ixAt, z_put, z_atBv, z_atBl, z_ixN, z_ixM, z_nat, le_size, lt_size, okR_i, rgOk_i, z_rng1, z_rng2, z_len0, z_lenc, z_lenm, z_lena, z_app0, z_app1, z_app2, z_appm, z_revm, z_takem, z_dropm, z_emp0, z_empc, z_lenT, z_lenL, z_absI, z_intI, z_intB, z_minI, z_maxI, z_tupL, z_tupT, z_lstL, z_lstT, z_allL, z_anyL, z_mapS, z_mapN, z_bindS, z_bindN, z_truN, z_truB, z_truI, z_truL, z_truT, z_ixL, z_ixT, z_at0, z_at1, z_at2, z_at3, z_at4, z_at5, z_at6, z_at7, z_at8, z_at9, z_atm, z_isi, z_isi2, z_tyN, z_tyB, z_tyI, z_tyS, z_tyL, z_tyT, z_sub_NoneType_bool, z_sub_NoneType_int, z_sub_NoneType_str, z_sub_NoneType_list, z_sub_NoneType_tuple, z_sub_bool_bool, z_sub_bool_int, z_sub_bool_str, z_sub_bool_list, z_sub_bool_tuple, z_sub_int_bool, z_sub_int_int, z_sub_int_str, z_sub_int_list, z_sub_int_tuple, z_sub_str_bool, z_sub_str_int, z_sub_str_str, z_sub_str_list, z_sub_str_tuple, z_sub_list_bool, z_sub_list_int, z_sub_list_str, z_sub_list_list, z_sub_list_tuple, z_sub_tuple_bool, z_sub_tuple_int, z_sub_tuple_str, z_sub_tuple_list, z_sub_tuple_tuple, z_addT, z_mulR, z_mulL, z_modI, z_divI, isNI, isNotNI, isNL, isNotNL, pg_0, pg_l, pg_r, z_addLL, k_non, k_bl, k_int, k_lst, k_tup, k_nil, k_cons, k_map, k_app, z_eq, z_ne, z_inL, z_notInL, e_ii, e_bb, e_bi, e_ib, e_ss, e_tt, e_ll, e_00, e_0c, e_c0, e_cc, e_ints, e_ints0, e_0ints, e_nn, e_nb, e_ni, e_ns, e_nt, e_nl, e_bn, e_bs, e_bt, e_bl, e_in, e_is, e_it, e_il, e_sn, e_sb, e_si, e_st, e_sl, e_tn, e_tb, e_ti, e_ts, e_tl, e_ln, e_lb, e_li, e_ls, e_lt, in_0, in_c, q_it, q_if, q_ft, q_tf, q_dt, q_df, q_nt, q_nf, q_nd, q_ne, q_ta, q_fa, q_at, q_af, q_to, q_fo, q_ot, q_of, q_ss, q_nT, q_nF, q_nn, q_dT, q_dF, q_be, rg0, rg1, rg2, rg3, rg4, rg5, rg6, rg7, rg8, rg9, z_for, wp_0, wp_c, z_ei, z_notInT, z_inT, z_enL, z_enT, z_enc, z_enn, z_cast, k2b_, k2_, w_2, k1_, w_1, kCb_, kC_, w_Cons, kTup_, w_Tup, kLst_, w_Lst, kFrz_, w_Frz, kFn_, w_Fn, kFnL_, w_FnL, kB_, w_B, kTru_, w_Tru, kAnd_, w_And, kOr_, w_Or, kNot_, w_Not, kIf_, w_If, kAndV_, w_AndV, kOrV_, w_OrV, kNotV_, w_NotV, kSome_, w_Some, kSAc_, kSAb_, kSA_, w_SlA, kSLc_, kSLb_, kSL_, w_SlL, kStb_, kSt_, w_Step, kSet_, w_Set, kOwn_, w_Own, kRet_, w_Ret, kRetL_, w_RetL, kDrop_, w_Drop, kIfS_, w_IfS, kApp_, w_AppO, kPutb_, kPut_, w_Put, kIxO_, w_IxO, kLook_, w_Look, kMvb_, kMv_, w_Mv, kMlb_, kMl_, w_Ml, kP2_, w_P2, kP3_, w_P3, kFor_, w_For, kItems_, w_Items, kIt_, w_It, kLc_, w_Lc, kCall_, w_Call, kCallL_, w_CallL, kCallB_, w_CallB, kCKb_, kCK_, w_CallK, kRaise_, w_Raise, kExt_, w_Ext, w_gC, lc_ev, testL_eq, elemL_eq, goodL_eq, fil_t, fil_f, $ls,*])

section
set_option Elab.async false
set_option linter.all false
set_option maxRecDepth 100000
set_option maxHeartbeats 4000000
set_option autoImplicit false
namespace LW
open PySem L2 DL
/-! C1: kinds of values, texts. -/
/-- a letter -/
def letterD : D → Bool
  | .int n => decide (0 ≤ n) && decide (n < 100)
  | .non => false
  | .bl _ => false
  | .str _ => false
  | .lst _ => false
  | .tup _ => false
  | .gl _ => false
def noGl : D → Bool
  | .gl _ => false
  | .int _ => true
  | .non => true
  | .bl _ => true
  | .str _ => true
  | .lst _ => true
  | .tup _ => true
theorem t_letter (d : D) (h : noGl d = true) : f_is_letter [d] = .ok (.v (.bl (letterD d))) := by
  cases d with
  | gl x => cases h
  | int n =>
    by_cases h1 : 0 ≤ n
    · by_cases h2 : n < 100 <;> simp [q_is_letter, m_is_letter, q_is_below, m_is_below, q_is_number, m_is_number, q_is_integer, m_is_integer, mVar, letterD, isiD, tyD, subT, geD, ltD, h1, h2]
    · simp [q_is_letter, m_is_letter, q_is_below, m_is_below, q_is_number, m_is_number, q_is_integer, m_is_integer, mVar, letterD, isiD, tyD, subT, geD, ltD, h1]
  | _ => simp [q_is_letter, m_is_letter, q_is_below, m_is_below, q_is_number, m_is_number, q_is_integer, m_is_integer, mVar, letterD, isiD, tyD, subT, geD, ltD]
/-- all are letters -/
theorem bools_map (p : D → Bool) : ∀ xs : List D, bools? (xs.map fun d => D.bl (p d)) = some (xs.map p)
  | [] => rfl
  | x :: xs => by
    rw [List.map_cons]
    show (bools? (xs.map fun d => D.bl (p d))).map (p x :: ·) = _
    rw [bools_map p xs]
    rfl
theorem lc_letters (v : D) (s : Sl) (xs : List D) (hx : ∀ d ∈ xs, noGl d = true) (hl : xs.length ≤ sizeLine) : lcRest [1] (gNm 1) mYes (mCall f_is_letter [] (mCons (mVar 1) mNil)) xs [.val v, s] [] = .ok (xs.map fun d => .bl (letterD d)) [.val v, .no] := by
  refine lc_map (fun d => .bl (letterD d)) xs _ rfl (fun d hd => ⟨[.val v, .val d], rfl, rfl, ?_⟩) hl
  simp [mVar, t_letter d (hx d hd)]
/-- is_text -/
def textD : D → Bool
  | .tup xs => xs.all letterD
  | .lst xs => xs.all letterD
  | _ => false
def tame : D → Bool
  | .tup xs => xs.all noGl && decide (xs.length ≤ sizeLine)
  | .lst xs => xs.all noGl && decide (xs.length ≤ sizeLine)
  | d => noGl d
theorem t_seq (d : D) (h : noGl d = true) : f_is_sequence [d] = .ok (.v (.bl (match d with | .tup _ => true | .lst _ => true | _ => false))) := by
  cases d with
  | gl x => cases h
  | _ => simp [q_is_sequence, m_is_sequence, mVar, isiD2, tyD, subT]
theorem t_seqT (xs : List D) : f_is_sequence [.tup xs] = .ok (.v (.bl true)) := t_seq _ rfl
theorem t_seqL (xs : List D) : f_is_sequence [.lst xs] = .ok (.v (.bl true)) := t_seq _ rfl
theorem t_seqI (x : Int) : f_is_sequence [.int x] = .ok (.v (.bl false)) := t_seq _ rfl
theorem t_seqB (x : Bool) : f_is_sequence [.bl x] = .ok (.v (.bl false)) := t_seq _ rfl
theorem t_seqS (x : Str) : f_is_sequence [.str x] = .ok (.v (.bl false)) := t_seq _ rfl
theorem t_seqN : f_is_sequence [.non] = .ok (.v (.bl false)) := t_seq _ rfl
theorem t_text (d : D) (h : tame d = true) : f_is_text [d] = .ok (.v (.bl (textD d))) := by
  cases d with
  | gl x => cases h
  | tup xs =>
    obtain ⟨h1, h2⟩ := Bool.and_eq_true_iff.mp h
    have z := lc_letters (.tup xs) .no xs (List.all_eq_true.mp h1) (of_decide_eq_true h2)
    rw [q_is_text]
    simp only [m_is_text]
    simp [mVar, t_seqT, t_seqL, z, allD, bools_map, textD, List.all_map]
  | lst xs =>
    obtain ⟨h1, h2⟩ := Bool.and_eq_true_iff.mp h
    have z := lc_letters (.lst xs) .no xs (List.all_eq_true.mp h1) (of_decide_eq_true h2)
    rw [q_is_text]
    simp only [m_is_text]
    simp [mVar, t_seqT, t_seqL, z, allD, bools_map, textD, List.all_map]
  | _ => simp [q_is_text, m_is_text, mVar, t_seqI, t_seqB, t_seqS, t_seqN, textD]
/-- its items -/
def itemsD : D → List D
  | .tup xs => xs
  | .lst xs => xs
  | _ => []
theorem t_need (d a : D) (h : tame d = true) : f_need_text [d, a] = if textD d = true then .ok (.v (.tup (itemsD d))) else .err "InvalidText" [("at", a)] := by
  rw [q_need_text]
  simp only [m_need_text]
  cases d with
  | gl x => cases h
  | tup xs => by_cases ht : textD (.tup xs) = true <;> simp [mVar, t_text _ h, ht, truD, tupD, itemsD]
  | lst xs => by_cases ht : textD (.lst xs) = true <;> simp [mVar, t_text _ h, ht, truD, tupD, itemsD]
  | _ => simp [mVar, t_text _ h, textD, truD]
theorem t_three (x y z : D) (hx : tame x = true) (hy : tame y = true) (hz : tame z = true) : f_need_three [x, y, z] = if textD x = true then (if textD y = true then (if textD z = true then .ok (.v (.tup [.tup (itemsD x), .tup (itemsD y), .tup (itemsD z)])) else .err "InvalidText" [("at", .int 2)]) else .err "InvalidText" [("at", .int 1)]) else .err "InvalidText" [("at", .int 0)] := by
  rw [q_need_three]
  simp only [m_need_three]
  by_cases h1 : textD x = true <;> by_cases h2 : textD y = true <;> by_cases h3 : textD z = true <;> simp [mVar, t_need _ _ hx, t_need _ _ hy, t_need _ _ hz, h1, h2, h3, sizeLine]
end LW
end

section
set_option Elab.async false
set_option linter.all false
set_option maxRecDepth 100000
set_option maxHeartbeats 1000000
set_option autoImplicit false
/-! M06p: merges in the free group, plain. -/
namespace LW
/-- how far two texts agree -/
def cpl : List Int → List Int → Nat
  | x :: xs, y :: ys => if x = y then cpl xs ys + 1 else 0
  | [], _ => 0
  | _ :: _, [] => 0
theorem cpl_l : ∀ xs ys : List Int, cpl xs ys ≤ xs.length
  | [], _ => Nat.zero_le _
  | _ :: _, [] => Nat.zero_le _
  | x :: xs, y :: ys => by
    unfold cpl
    have := cpl_l xs ys
    by_cases h : x = y
    · rw [if_pos h, List.length_cons]
      omega
    · rw [if_neg h]
      exact Nat.zero_le _
theorem cpl_r : ∀ xs ys : List Int, cpl xs ys ≤ ys.length
  | [], _ => Nat.zero_le _
  | _ :: _, [] => Nat.zero_le _
  | x :: xs, y :: ys => by
    unfold cpl
    have := cpl_r xs ys
    by_cases h : x = y
    · rw [if_pos h, List.length_cons]
      omega
    · rw [if_neg h]
      exact Nat.zero_le _
theorem cpl_take : ∀ (xs ys : List Int) (c : Nat), c ≤ cpl xs ys → ys.take c = xs.take c
  | _, _, 0, _ => by rw [List.take_zero, List.take_zero]
  | [], _, c + 1, h => by unfold cpl at h; omega
  | _ :: _, [], c + 1, h => by unfold cpl at h; omega
  | x :: xs, y :: ys, c + 1, h => by
    unfold cpl at h
    by_cases e : x = y
    · rw [if_pos e] at h
      rw [List.take_succ_cons, List.take_succ_cons, cpl_take xs ys c (by omega), e]
    · rw [if_neg e] at h
      omega
theorem cpl_of : ∀ (xs ys : List Int) (c : Nat), c ≤ xs.length → ys.take c = xs.take c → c ≤ cpl xs ys
  | _, _, 0, _, _ => Nat.zero_le _
  | [], _, c + 1, h, _ => by simp at h
  | x :: xs, [], c + 1, h, e => by simp at e
  | x :: xs, y :: ys, c + 1, h, e => by
    rw [List.take_succ_cons, List.take_succ_cons] at e
    have e1 := (List.cons.inj e).1
    have e2 := (List.cons.inj e).2
    unfold cpl
    rw [if_pos e1.symm]
    have := cpl_of xs ys c (by simpa using h) e2
    omega
theorem cpl_self : ∀ xs : List Int, cpl xs xs = xs.length
  | [] => rfl
  | x :: xs => by
    unfold cpl
    rw [if_pos rfl, cpl_self xs, List.length_cons]
/-- the ends that the two changes claim -/
def tl (A B : List Int) : Nat := cpl A.reverse B.reverse
def en (A B : List Int) : Nat := A.length - tl A B
def bg (A C : List Int) : Nat := cpl A C
theorem tl_a (A B : List Int) : tl A B ≤ A.length := by
  have := cpl_l A.reverse B.reverse
  rw [List.length_reverse] at this
  exact this
theorem tl_b (A B : List Int) : tl A B ≤ B.length := by
  have := cpl_r A.reverse B.reverse
  rw [List.length_reverse] at this
  exact this
/-- what comes of the merge -/
def came (A B C : List Int) : Option (List Int) := if bg A C < en A B then none else some (B.take (B.length - tl A B) ++ C.drop (en A B))
/-! a cut -/
theorem drop_rev (xs : List Int) (n : Nat) (h : n ≤ xs.length) : xs.drop (xs.length - n) = (xs.reverse.take n).reverse := by
  rw [List.take_reverse, List.reverse_reverse]
theorem cut_ends (A B : List Int) (c : Nat) (hc : c ≤ A.length) : (A.length - c ≤ B.length ∧ B.drop (B.length - (A.length - c)) = A.drop c) ↔ en A B ≤ c := by
  have ha := tl_a A B
  have e2 : A.drop c = (A.reverse.take (A.length - c)).reverse := by
    have := drop_rev A (A.length - c) (Nat.sub_le _ _)
    rw [Nat.sub_sub_self hc] at this
    exact this
  constructor
  · rintro ⟨h1, h2⟩
    rw [drop_rev B _ h1, e2] at h2
    have h3 := congrArg List.reverse h2
    rw [List.reverse_reverse, List.reverse_reverse] at h3
    have := cpl_of A.reverse B.reverse (A.length - c) (by rw [List.length_reverse]; omega) h3
    unfold en tl
    omega
  · intro h
    have h1 : A.length - c ≤ tl A B := by unfold en at h; omega
    have hb := tl_b A B
    refine ⟨by omega, ?_⟩
    rw [drop_rev B _ (by omega), e2, cpl_take A.reverse B.reverse _ h1]
theorem cut_begins (A C : List Int) (c : Nat) (hc : c ≤ A.length) : C.take c = A.take c ↔ c ≤ bg A C := ⟨cpl_of A C c hc, cpl_take A C c⟩
theorem bg_a (A C : List Int) : bg A C ≤ A.length := cpl_l A C
/-- what a cut gives -/
theorem cut_came (A B C : List Int) (c : Nat) (h1 : en A B ≤ c) (h2 : c ≤ bg A C) : came A B C = some (B.take (B.length - (A.length - c)) ++ C.drop c) := by
  have ha := tl_a A B
  have hb := tl_b A B
  have hg := bg_a A C
  unfold came
  rw [if_neg (by omega)]
  congr 1
  have e1 := ((cut_ends A B (en A B) (by unfold en; omega)).mpr (Nat.le_refl _)).2
  have e3 := cpl_take A C c h2
  have hen : A.length - en A B = tl A B := by unfold en; omega
  rw [hen] at e1
  -- B = P ++ A.drop en
  have eB : B = B.take (B.length - tl A B) ++ A.drop (en A B) := by
    rw [← e1, List.take_append_drop]
  have eC : C = A.take c ++ C.drop c := by
    rw [← e3, List.take_append_drop]
  have g1 : en A B ≤ A.length := by unfold en; omega
  have g2 : tl A B = A.length - en A B := by unfold en; omega
  generalize en A B = E at *
  rw [g2] at hen e1 eB hb ⊢
  clear g2
  generalize hP : B.take (B.length - (A.length - E)) = P at *
  generalize hR : C.drop c = R at *
  have lP : P.length = B.length - (A.length - E) := by
    rw [← hP, List.length_take]
    omega
  have f1 : C.drop E = (A.drop E).take (c - E) ++ R := by
    rw [eC, List.drop_append_of_le_length (by rw [List.length_take]; omega), List.drop_take]
  have f2 : B.take (B.length - (A.length - c)) = P ++ (A.drop E).take (c - E) := by
    have hl : B.length - (A.length - c) = P.length + (c - E) := by omega
    rw [hl]
    conv => lhs; rw [eB]
    rw [List.take_append, List.take_of_length_le (by omega), Nat.add_sub_cancel_left]
  rw [f1, f2, List.append_assoc]
/-! the reduced word -/
abbrev L1 := List (Int × Int)
def push (w : L1) (p : Int × Int) : L1 := if w.getLast? = some (p.1, -p.2) then w.dropLast else w ++ [p]
def pos (xs : List Int) : L1 := xs.map fun x => (x, 1)
def neg (xs : List Int) : L1 := xs.map fun x => (x, -1)
theorem push_at (w : L1) (p : Int × Int) (h : ∀ q, w.getLast? = some q → q ≠ (p.1, -p.2)) : push w p = w ++ [p] := by
  unfold push
  rw [if_neg fun e => h _ e rfl]
theorem fold_pos : ∀ (xs : List Int) (w : L1), (∀ q, w.getLast? = some q → q.2 = 1) → (pos xs).foldl push w = w ++ pos xs
  | [], w, _ => by
    show w = w ++ []
    rw [List.append_nil]
  | x :: xs, w, h => by
    show (pos xs).foldl push (push w (x, 1)) = w ++ (x, 1) :: pos xs
    rw [push_at w (x, 1) (fun q hq e => by
      have := h q hq
      rw [e] at this
      simp at this), fold_pos xs _ (fun q hq => by
      rw [List.getLast?_concat] at hq
      cases hq
      rfl), List.append_assoc]
    rfl
theorem fold_neg : ∀ (xs : List Int) (w : L1), (∀ q, w.getLast? = some q → q.2 = -1) → (neg xs).foldl push w = w ++ neg xs
  | [], w, _ => by
    show w = w ++ []
    rw [List.append_nil]
  | x :: xs, w, h => by
    show (neg xs).foldl push (push w (x, -1)) = w ++ (x, -1) :: neg xs
    rw [push_at w (x, -1) (fun q hq e => by
      have := h q hq
      rw [e] at this
      simp at this), fold_neg xs _ (fun q hq => by
      rw [List.getLast?_concat] at hq
      cases hq
      rfl), List.append_assoc]
    rfl
theorem pos_app (a b : List Int) : pos (a ++ b) = pos a ++ pos b := List.map_append
theorem neg_app (a b : List Int) : neg (a ++ b) = neg a ++ neg b := List.map_append
/-- minus a text, behind plus a text (both told from their ends) -/
theorem fold_back : ∀ (ra rb : List Int), (neg ra).foldl push (pos rb.reverse) = pos (rb.drop (cpl ra rb)).reverse ++ neg (ra.drop (cpl ra rb))
  | [], rb => by
    unfold cpl
    show pos rb.reverse = pos (rb.drop 0).reverse ++ neg []
    rw [List.drop_zero]
    exact (List.append_nil _).symm
  | a :: ra, [] => by
    unfold cpl
    show (neg (a :: ra)).foldl push [] = [] ++ neg (a :: ra)
    exact fold_neg (a :: ra) [] (fun q h => by cases h)
  | a :: ra, b :: rb => by
    have e0 : pos (b :: rb).reverse = pos rb.reverse ++ [(b, 1)] := by
      rw [List.reverse_cons, pos_app]
      rfl
    show (neg ra).foldl push (push (pos (b :: rb).reverse) (a, -1)) = _
    unfold cpl
    by_cases h : a = b
    · rw [if_pos h]
      have e1 : push (pos (b :: rb).reverse) (a, -1) = pos rb.reverse := by
        unfold push
        rw [e0, List.getLast?_concat, if_pos (by rw [h]; rfl), List.dropLast_concat]
      rw [e1, fold_back ra rb, List.drop_succ_cons, List.drop_succ_cons]
    · rw [if_neg h]
      have e1 : push (pos (b :: rb).reverse) (a, -1) = pos (b :: rb).reverse ++ [(a, -1)] := by
        refine push_at _ _ fun q hq e => ?_
        rw [e0, List.getLast?_concat] at hq
        cases hq
        have := congrArg Prod.fst e
        exact h this.symm
      rw [e1, fold_neg ra _ (fun q hq => by
        rw [List.getLast?_concat] at hq
        cases hq
        rfl), List.drop_zero, List.drop_zero, List.append_assoc]
      rfl
/-- plus a text, behind minus one (told from its begin) behind plus one -/
theorem fold_front : ∀ (S C P : List Int), (S.length ≤ cpl S C → (pos C).foldl push (pos P ++ neg S.reverse) = pos (P ++ C.drop S.length)) ∧ (cpl S C < S.length → ∃ x, (x, (-1 : Int)) ∈ (pos C).foldl push (pos P ++ neg S.reverse))
  | [], C, P => by
    refine ⟨fun _ => ?_, fun h => absurd h (by simp)⟩
    show (pos C).foldl push (pos P ++ []) = pos (P ++ C.drop 0)
    rw [List.append_nil, List.drop_zero, pos_app]
    exact fold_pos C _ (fun q hq => by
      have hm := List.mem_of_getLast? hq
      obtain ⟨x, _, e⟩ := List.mem_map.mp hm
      rw [← e])
  | s :: S, [], P => by
    refine ⟨fun h => absurd h (by unfold cpl; simp), fun _ => ⟨s, ?_⟩⟩
    show (s, (-1 : Int)) ∈ pos P ++ neg (s :: S).reverse
    exact List.mem_append_right _ (List.mem_map.mpr ⟨s, by simp, rfl⟩)
  | s :: S, c :: C, P => by
    obtain ⟨h1, h2⟩ := fold_front S C P
    have e0 : pos P ++ neg (s :: S).reverse = (pos P ++ neg S.reverse) ++ [(s, -1)] := by
      rw [List.reverse_cons, neg_app, ← List.append_assoc]
      rfl
    show (_ → (pos C).foldl push (push (pos P ++ neg (s :: S).reverse) (c, 1)) = _) ∧ (_ → ∃ x, _ ∈ (pos C).foldl push (push (pos P ++ neg (s :: S).reverse) (c, 1)))
    unfold cpl
    by_cases h : s = c
    · rw [if_pos h]
      have e1 : push (pos P ++ neg (s :: S).reverse) (c, 1) = pos P ++ neg S.reverse := by
        unfold push
        rw [e0, List.getLast?_concat, if_pos (by rw [h]), List.dropLast_concat]
      rw [e1, List.length_cons, List.drop_succ_cons]
      exact ⟨fun q => h1 (by omega), fun q => h2 (by omega)⟩
    · rw [if_neg h]
      refine ⟨fun q => absurd q (by rw [List.length_cons]; omega), fun _ => ⟨s, ?_⟩⟩
      have e1 : push (pos P ++ neg (s :: S).reverse) (c, 1) = (pos P ++ neg (s :: S).reverse) ++ [(c, 1)] := by
        refine push_at _ _ fun q hq e => ?_
        rw [e0, List.getLast?_concat] at hq
        cases hq
        exact h (congrArg Prod.fst e)
      rw [e1, fold_pos C _ (fun q hq => by
        rw [List.getLast?_concat] at hq
        cases hq
        rfl)]
      exact List.mem_append_left _ (List.mem_append_left _ (List.mem_append_right _ (List.mem_map.mpr ⟨s, by simp, rfl⟩)))
/-- mine, minus base, yours -/
def word3 (A B C : List Int) : L1 := (pos C).foldl push ((neg A.reverse).foldl push ((pos B).foldl push []))
theorem word3_came (A B C : List Int) : (∀ t, came A B C = some t → word3 A B C = pos t) ∧ (came A B C = none → ∃ x, (x, (-1 : Int)) ∈ word3 A B C) := by
  have ha := tl_a A B
  have hb := tl_b A B
  have e1 : (pos B).foldl push [] = pos B.reverse.reverse := by
    rw [fold_pos B [] (fun q h => by cases h), List.reverse_reverse]
    rfl
  have e2 : (neg A.reverse).foldl push ((pos B).foldl push []) = pos (B.take (B.length - tl A B)) ++ neg ((A.take (en A B)).reverse) := by
    rw [e1, fold_back]
    have f1 : (B.reverse.drop (cpl A.reverse B.reverse)).reverse = B.take (B.length - tl A B) := by
      rw [List.drop_reverse, List.reverse_reverse]
      rfl
    have f2 : A.reverse.drop (cpl A.reverse B.reverse) = (A.take (en A B)).reverse := by
      rw [List.drop_reverse]
      rfl
    rw [f1, f2]
  have hl : (A.take (en A B)).length = en A B := by
    rw [List.length_take]
    unfold en
    omega
  have hc : ∀ (S C : List Int) (n : Nat), n ≤ S.length → (n ≤ cpl S C ↔ n ≤ cpl (S.take n) C) := by
    intro S C n hn
    have ln : (S.take n).length = n := by rw [List.length_take]; omega
    constructor
    · intro h
      refine cpl_of _ _ _ (by omega) ?_
      rw [List.take_take, Nat.min_self]
      exact cpl_take S C n h
    · intro h
      refine cpl_of _ _ _ hn ?_
      have := cpl_take (S.take n) C n h
      rw [List.take_take, Nat.min_self] at this
      exact this
  have hk := hc A C (en A B) (by unfold en; omega)
  obtain ⟨g1, g2⟩ := fold_front (A.take (en A B)) C (B.take (B.length - tl A B))
  unfold word3
  rw [e2]
  unfold came bg
  by_cases h : cpl A C < en A B
  · rw [if_pos h]
    refine ⟨fun t ht => (by cases ht), fun _ => g2 ?_⟩
    rw [hl]
    by_cases z : en A B ≤ cpl (A.take (en A B)) C
    · have := hk.mpr z
      omega
    · omega
  · rw [if_neg h]
    refine ⟨fun t ht => ?_, fun ht => (by cases ht)⟩
    cases ht
    rw [g1 (by rw [hl]; exact hk.mp (by omega)), hl]
/-! same texts -/
theorem en_self (A : List Int) : en A A = 0 := by
  unfold en tl
  rw [cpl_self, List.length_reverse, Nat.sub_self]
theorem bg_self (A : List Int) : bg A A = A.length := cpl_self A
theorem came_l (A C : List Int) : came A A C = some C := by
  unfold came
  rw [en_self, if_neg (Nat.not_lt_zero _), List.drop_zero]
  unfold tl
  rw [cpl_self, List.length_reverse, Nat.sub_self, List.take_zero, List.nil_append]
theorem came_r (A B : List Int) : came A B A = some B := by
  have ha := tl_a A B
  unfold came
  rw [bg_self, if_neg (by unfold en; omega)]
  have e1 := ((cut_ends A B (en A B) (by unfold en; omega)).mpr (Nat.le_refl _)).2
  have hen : A.length - en A B = tl A B := by unfold en; omega
  rw [hen] at e1
  rw [← e1, List.take_append_drop]
/-- the cuts -/
def cuts (A B C : List Int) : List Nat := (List.range (A.length + 1)).filter fun c => decide (en A B ≤ c) && decide (c ≤ bg A C)
theorem cuts_eq (A B C : List Int) : cuts A B C = List.range' (en A B) (bg A C + 1 - en A B) := by
  have hg := bg_a A C
  unfold cuts
  have key : ∀ (n a b : Nat), b ≤ n → (List.range n).filter (fun c => decide (a ≤ c) && decide (c < b)) = List.range' a (b - a) := by
    intro n
    induction n with
    | zero =>
      intro a b h
      have : b - a = 0 := by omega
      rw [this]
      rfl
    | succ n ih =>
      intro a b h
      rw [List.range_succ, List.filter_append]
      by_cases hb : b ≤ n
      · rw [ih a b hb]
        have : (decide (a ≤ n) && decide (n < b)) = false := by simp; omega
        rw [List.filter_cons_of_neg (by rw [this]; exact Bool.false_ne_true), List.filter_nil, List.append_nil]
      · have eb : b = n + 1 := by omega
        subst eb
        have e1 : (List.range n).filter (fun c => decide (a ≤ c) && decide (c < n + 1)) = (List.range n).filter (fun c => decide (a ≤ c) && decide (c < n)) := by
          apply List.filter_congr
          intro c hc
          have := List.mem_range.mp hc
          show (decide (a ≤ c) && decide (c < n + 1)) = (decide (a ≤ c) && decide (c < n))
          rw [decide_eq_true (show c < n + 1 by omega), decide_eq_true this]
        rw [e1, ih a n (Nat.le_refl _)]
        by_cases ha : a ≤ n
        · have e2 : (decide (a ≤ n) && decide (n < n + 1)) = true := by simp; omega
          rw [List.filter_cons_of_pos (p := fun c => decide (a ≤ c) && decide (c < n + 1)) e2, List.filter_nil]
          have e3 : n + 1 - a = (n - a) + 1 := by omega
          rw [e3, List.range'_concat]
          congr 1
          simp
          omega
        · have e2 : (decide (a ≤ n) && decide (n < n + 1)) = false := by simp; omega
          rw [List.filter_cons_of_neg (by rw [e2]; exact Bool.false_ne_true), List.filter_nil, List.append_nil]
          have e3 : n + 1 - a = 0 := by omega
          have e4 : n - a = 0 := by omega
          rw [e3, e4]
  have e : (fun c => decide (en A B ≤ c) && decide (c ≤ bg A C)) = fun c => decide (en A B ≤ c) && decide (c < bg A C + 1) := by
    funext c
    congr 1
    simp
    omega
  rw [e]
  exact key _ _ _ (by omega)
end LW
end

section
set_option Elab.async false
set_option linter.all false
set_option maxRecDepth 100000
set_option maxHeartbeats 4000000
set_option autoImplicit false
namespace LW
open PySem L2 DL
/-! C2: shared fronts, merges. -/
def ezk (xs ys : List Int) (k : Nat) : List D := (((xs.map D.int).zip (ys.map D.int)).zipIdx k).map fun ((x, y), (i : Nat)) => D.tup [.int i, .tup [x, y]]
theorem sl_loop (o q : D) : ∀ (xs ys : List Int) (k : Nat), forM' g_shared_length_0 b_shared_length_0 (ezk xs ys k) [.val o, .val q, .no, .no, .no] = if cpl xs ys < min xs.length ys.length then .ret (.v (.int ((k + cpl xs ys : Nat) : Int))) [.no, .no, .no, .no, .no] else .nx [.val o, .val q, .no, .no, .no]
  | [], ys, k => rfl
  | x :: xs, [], k => rfl
  | x :: xs, y :: ys, k => by
    have e : ezk (x :: xs) (y :: ys) k = D.tup [.int k, .tup [.int x, .int y]] :: ezk xs ys (k + 1) := rfl
    rw [e]
    by_cases h : x = y
    · simp_arith [g_shared_length_0, b_shared_length_0, h, sl_loop o q xs ys (k + 1), cpl]
      have e2 : k + (cpl xs ys + 1) = k + 1 + cpl xs ys := by omega
      rw [e2]
      split <;> split <;> first | rfl | omega
    · simp_arith [g_shared_length_0, b_shared_length_0, h, cpl]
      rw [if_pos (by omega)]
      rfl
theorem t_shared (xs ys : List Int) : f_shared_length [TI' xs, TI' ys] = .ok (.v (.int (cpl xs ys : Nat))) := by
  have l1 := cpl_l xs ys
  have l2 := cpl_r xs ys
  have e0 : ez? [TI' xs, TI' ys] = some (ezk xs ys 0) := rfl
  rw [q_shared_length]
  by_cases h : cpl xs ys < min xs.length ys.length
  · simp_arith [m_shared_length, e0, sl_loop, h, Nat.zero_add]
  · have em : (if ((ys.length : Nat) : Int) < xs.length then ((ys.length : Nat) : Int) else ((xs.length : Nat) : Int)) = ((cpl xs ys : Nat) : Int) := by
      split <;> omega
    simp_arith [m_shared_length, e0, sl_loop, h, em]
theorem t_ends (A B C : List Int) : f_claimed_ends [TI' A, TI' B, TI' C] = .ok (.v (.tup [.int (en A B : Nat), .int (bg A C : Nat)])) := by
  have ha := tl_a A B
  have e1 : f_shared_length [.tup (A.reverse.map D.int), .tup (B.reverse.map D.int)] = .ok (.v (.int (tl A B : Nat))) := t_shared A.reverse B.reverse
  have e2 : ((A.length : Nat) : Int) - ((tl A B : Nat) : Int) = ((en A B : Nat) : Int) := by unfold en; omega
  rw [q_claimed_ends]
  simp_arith [m_claimed_ends, e1, t_shared, e2]
  rfl
def cameD (A B C : List Int) : D := match came A B C with
  | some t => TI' t
  | none => .non
theorem t_came (A B C : List Int) (hB : B.length ≤ 100) (hC : C.length ≤ 100) : f_came_text [TI' A, TI' B, TI' C] = .ok (.v (cameD A B C)) := by
  have ha := tl_a A B
  have hb := tl_b A B
  rw [q_came_text]
  unfold cameD came
  by_cases h : bg A C < en A B
  · have h' : ((bg A C : Nat) : Int) < ((en A B : Nat) : Int) := by omega
    simp_arith [m_came_text, t_ends, h', h]
  · have h' : ¬ ((bg A C : Nat) : Int) < ((en A B : Nat) : Int) := by omega
    have e2 : ((B.length : Nat) : Int) - ((A.length : Nat) : Int) + ((en A B : Nat) : Int) = ((B.length - tl A B : Nat) : Int) := by unfold en; omega
    have l1 : (B.take (B.length - tl A B)).length + (C.drop (en A B)).length ≤ 1000000 := by
      rw [List.length_take, List.length_drop]
      omega
    simp_arith [m_came_text, t_ends, h', h, e2, cut_t, cut_d, l1]
/-! with the texts checked -/
def Lets (xs : List Int) : Prop := (∀ x ∈ xs, 0 ≤ x ∧ x < 100) ∧ xs.length ≤ 100
/-- a text as it is handed in: tuple or list -/
inductive Txt (xs : List Int) : D → Prop
  | t : Txt xs (TI' xs)
  | l : Txt xs (LI' xs)
theorem lets_all {xs : List Int} (h : Lets xs) : (xs.map D.int).all noGl = true ∧ (xs.map D.int).all letterD = true := by
  constructor
  · rw [List.all_map, List.all_eq_true]
    intro x _
    rfl
  · rw [List.all_map, List.all_eq_true]
    intro x hx
    have := h.1 x hx
    show (decide (0 ≤ x) && decide (x < 100)) = true
    rw [decide_eq_true this.1, decide_eq_true this.2]
    rfl
theorem Txt.facts {xs : List Int} {d : D} (h : Lets xs) (t : Txt xs d) : tame d = true ∧ textD d = true ∧ itemsD d = xs.map D.int := by
  obtain ⟨h1, h2⟩ := lets_all h
  have hl := h.2
  have h3 : decide ((xs.map D.int).length ≤ sizeLine) = true := by
    rw [List.length_map]
    exact decide_eq_true (Nat.le_trans h.2 (by decide))
  cases t with
  | t =>
    refine ⟨?_, h2, rfl⟩
    show ((xs.map D.int).all noGl && decide ((xs.map D.int).length ≤ sizeLine)) = true
    rw [h1, h3]
    rfl
  | l =>
    refine ⟨?_, h2, rfl⟩
    show ((xs.map D.int).all noGl && decide ((xs.map D.int).length ≤ sizeLine)) = true
    rw [h1, h3]
    rfl
theorem t_need_ok {A : List Int} {a c : D} (hA : Lets A) (ta : Txt A a) : f_need_text [a, c] = .ok (.v (TI' A)) := by
  obtain ⟨a1, a2, a3⟩ := ta.facts hA
  rw [t_need a c a1, if_pos a2, a3]
theorem t_three_ok {A B C : List Int} {a b c : D} (hA : Lets A) (hB : Lets B) (hC : Lets C) (ta : Txt A a) (tb : Txt B b) (tc : Txt C c) : f_need_three [a, b, c] = .ok (.v (.tup [TI' A, TI' B, TI' C])) := by
  rw [q_need_three]
  simp_arith [m_need_three, t_need_ok hA ta, t_need_ok hB tb, t_need_ok hC tc]
end LW
end

section
set_option Elab.async false
set_option linter.all false
set_option maxRecDepth 100000
set_option maxHeartbeats 4000000
set_option autoImplicit false
namespace LW
open PySem L2 DL
/-! C3: the source of draws. -/
theorem at_ok {α : Type} (xs : List α) (i : Int) (h0 : 0 ≤ i) (h1 : i < xs.length) : atI xs i = some (xs[i.toNat]'(by omega)) := by
  unfold atI ixN
  rw [if_pos h0, if_pos h1]
  exact List.getElem?_eq_getElem _
theorem ix_ok (ns : List Int) (i : Int) (h0 : 0 ≤ i) (h1 : i < ns.length) : ∃ x : Int, atI (ns.map D.int) i = some (.int x) := by
  have e := at_ok (ns.map D.int) i h0 (by rw [List.length_map]; exact h1)
  rw [e]
  exact ⟨_, by rw [List.getElem_map]⟩
abbrev Bx := Int × Int × Int
abbrev bx (b : Bx) : List D := [.int b.1, .int b.2.1, .int b.2.2]
def tkR (b : Bx) (m : Int) : R0 (Rt × List D) := fb__law_take (bx b) [.int m]
theorem z_pow : DL.powD (.int 10) (.int 18) = some (.int 1000000000000000000) := by
  show (if (0:Int) ≤ 18 ∧ (18:Int) ≤ 1000000 ∧ (10:Int).natAbs < 2 ^ 64 then some (D.int (10 ^ (18:Int).toNat)) else none) = _
  rw [if_pos (by decide)]
  rfl
theorem ex_take (b : Bx) (m : Int) (h1 : 0 < m) (h2 : m < 1000000) : ∃ (d : Int) (c : Bx), tkR b m = .ok (.v (.int d), bx c) ∧ 0 ≤ d ∧ d < m := by
  have key : ∃ (r : Int) (c : Bx), tkR b m = .ok (.v (.int (r % m)), bx c) := by
    unfold tkR
    rw [q__law_take]
    by_cases ha : 0 < b.1
    · refine ⟨b.1, (b.1 / m, b.2.1, b.2.2), ?_⟩
      simp_arith [m__law_take, ha, bx]
    · refine ⟨?r, (?x, ?y, ?z), ?e⟩
      case e =>
        simp_arith [m__law_take, ha, bx]
        rfl
  obtain ⟨r, c, e⟩ := key
  exact ⟨_, c, e, Int.emod_nonneg _ (by omega), Int.emod_lt_of_pos _ h1⟩
theorem ex_tk : ∃ f : Bx → Int → Int × Bx, ∀ b m, 0 < m → m < 1000000 → tkR b m = .ok (.v (.int (f b m).1), bx (f b m).2) ∧ 0 ≤ (f b m).1 ∧ (f b m).1 < m := by
  refine ⟨fun b m => if h : 0 < m ∧ m < 1000000 then (Classical.choose (ex_take b m h.1 h.2), Classical.choose (Classical.choose_spec (ex_take b m h.1 h.2))) else (0, b), fun b m h1 h2 => ?_⟩
  have h : 0 < m ∧ m < 1000000 := ⟨h1, h2⟩
  have e := Classical.choose_spec (Classical.choose_spec (ex_take b m h.1 h.2))
  simp only [dif_pos h]
  exact e
/-- what is drawn, and the box behind it -/
noncomputable def tk : Bx → Int → Int × Bx := Classical.choose ex_tk
theorem t_take (b : Bx) (m : Int) (h1 : 0 < m) (h2 : m < 1000000) : fb__law_take (bx b) [.int m] = .ok (.v (.int (tk b m).1), bx (tk b m).2) := (Classical.choose_spec ex_tk b m h1 h2).1
theorem tk_ge (b : Bx) (m : Int) (h1 : 0 < m) (h2 : m < 1000000) : 0 ≤ (tk b m).1 := (Classical.choose_spec ex_tk b m h1 h2).2.1
theorem tk_lt (b : Bx) (m : Int) (h1 : 0 < m) (h2 : m < 1000000) : (tk b m).1 < m := (Classical.choose_spec ex_tk b m h1 h2).2.2
/-- the same, as a number from nought -/
noncomputable def tkn (b : Bx) (m : Int) : Nat := (tk b m).1.toNat
theorem tkn_eq (b : Bx) (m : Int) (h1 : 0 < m) (h2 : m < 1000000) : (tk b m).1 = (tkn b m : Nat) := by
  have := tk_ge b m h1 h2
  unfold tkn
  omega
theorem tkn_lt (b : Bx) (m : Int) (h1 : 0 < m) (h2 : m < 1000000) : ((tkn b m : Nat) : Int) < m := by
  have := tk_lt b m h1 h2
  have := tkn_eq b m h1 h2
  omega
theorem z_atif {p : Prop} [Decidable p] {i j : Int} : atI [D.int i, D.int j] (if p then 1 else 0) = some (.int (if p then j else i)) := by
  by_cases h : p
  · rw [if_pos h, if_pos h]
    rfl
  · rw [if_neg h, if_neg h]
    rfl
theorem ex_box (ns : List Int) (k : Int) (hk : 0 ≤ k) (hk2 : k < 1000000) : ∃ x y z : Int, f__law_box [LI' ns, .int k] = .ok (.l [.int x, .int y, .int z]) := by
  rw [q__law_box]
  by_cases h1 : k < ns.length
  · obtain ⟨x, hx⟩ := ix_ok ns k hk h1
    exact ⟨_, _, _, by simp_arith [m__law_box, h1, hx, z_pow, z_atif]; rfl⟩
  · by_cases h2 : (0 : Int) < ns.length
    · obtain ⟨x, hx⟩ := ix_ok ns (k % ns.length) (Int.emod_nonneg _ (by omega)) (Int.emod_lt_of_pos _ h2)
      exact ⟨_, _, _, by simp_arith [m__law_box, h1, h2, hx, z_pow, z_atif]; rfl⟩
    · exact ⟨_, _, _, by simp_arith [m__law_box, h1, h2, z_pow, z_atif]; rfl⟩
theorem ex_bx0 : ∃ f : List Int → Int → Bx, ∀ ns k, 0 ≤ k → k < 1000000 → f__law_box [LI' ns, .int k] = .ok (.l (bx (f ns k))) := by
  refine ⟨fun ns k => if h : 0 ≤ k ∧ k < 1000000 then (Classical.choose (ex_box ns k h.1 h.2), Classical.choose (Classical.choose_spec (ex_box ns k h.1 h.2)), Classical.choose (Classical.choose_spec (Classical.choose_spec (ex_box ns k h.1 h.2)))) else (0, 0, 0), fun ns k h1 h2 => ?_⟩
  have h : 0 ≤ k ∧ k < 1000000 := ⟨h1, h2⟩
  have e := Classical.choose_spec (Classical.choose_spec (Classical.choose_spec (ex_box ns k h.1 h.2)))
  simp only [dif_pos h]
  exact e
/-- the box of a cell -/
noncomputable def box0 : List Int → Int → Bx := Classical.choose ex_bx0
theorem t_box (ns : List Int) (k : Int) (hk : 0 ≤ k) (hk2 : k < 1000000) : f__law_box [LI' ns, .int k] = .ok (.l (bx (box0 ns k))) := Classical.choose_spec ex_bx0 ns k hk hk2
/-! picks -/
theorem get_ok {xs : List D} {i : Int} (h0 : 0 ≤ i) (h1 : i < xs.length) : ∃ x, atI xs i = some x ∧ x ∈ xs := ⟨_, at_ok xs i h0 h1, List.getElem_mem _⟩
noncomputable def pk (b : Bx) (xs : List D) : D := (atI xs (tk b xs.length).1).getD .non
theorem t_pick (b : Bx) (xs : List D) (h1 : 0 < xs.length) (h2 : xs.length < 1000000) : fb__law_pick (bx b) [.lst xs] = .ok (.v (pk b xs), bx (tk b xs.length).2) := by
  have g1 := tk_ge b xs.length (by omega) (by omega)
  have g2 := tk_lt b xs.length (by omega) (by omega)
  obtain ⟨x, e, _⟩ := get_ok g1 g2
  rw [q__law_pick]
  unfold pk
  simp_arith [m__law_pick, t_take, e, Option.getD]
theorem pk_mem (b : Bx) (xs : List D) (h1 : 0 < xs.length) (h2 : xs.length < 1000000) : pk b xs ∈ xs := by
  have g1 := tk_ge b xs.length (by omega) (by omega)
  have g2 := tk_lt b xs.length (by omega) (by omega)
  obtain ⟨x, e, h⟩ := get_ok g1 g2
  unfold pk
  rw [e]
  exact h
end LW
end

section
set_option Elab.async false
set_option linter.all false
set_option maxRecDepth 100000
set_option maxHeartbeats 4000000
set_option autoImplicit false
namespace LW
open PySem L2 DL
/-! C4: words. -/
abbrev Pq (p : Int × Int) : D := .tup [.int p.1, .int p.2]
theorem pq_eq (q : Int × Int) (a b : Int) : (decide (q.1 = a) && decide (q.2 = b)) = decide (q = (a, b)) := by
  rw [← Bool.decide_and]
  exact decide_eq_decide.mpr ⟨fun h => Prod.ext h.1 h.2, fun h => by rw [h]; exact ⟨rfl, rfl⟩⟩
theorem push_cc (w : L1) (q p : Int × Int) : push (w ++ [q]) p = if q = (p.1, -p.2) then w else w ++ [q] ++ [p] := by
  unfold push
  rw [List.getLast?_concat]
  by_cases h : q = (p.1, -p.2)
  · rw [if_pos (by rw [h]), if_pos h, List.dropLast_concat]
  · rw [if_neg (fun e => h (Option.some.inj e)), if_neg h]
theorem push_len (w : L1) (p : Int × Int) : (push w p).length ≤ w.length + 1 := by
  unfold push
  split
  · rw [List.length_dropLast]
    omega
  · rw [List.length_append]
    exact Nat.le_refl _
theorem lastm {α : Type} (f : α → D) (w : List α) (q : α) : atI ((w ++ [q]).map f) (-1) = some (f q) := by
  rw [List.map_append]
  exact atI_last _ _
theorem glast {α : Type} (f : α → D) (w : List α) (q : α) : ((w ++ [q]).map f).getLast? = some (f q) := by
  rw [List.map_append]
  exact List.getLast?_concat
theorem dlast {α : Type} (f : α → D) (w : List α) (q : α) : ((w ++ [q]).map f).dropLast = w.map f := by
  rw [List.map_append]
  exact List.dropLast_concat
theorem snoc1 {α : Type} (f : α → D) (w : List α) (q : α) : w.map f ++ [f q] = (w ++ [q]).map f := by
  rw [List.map_append]
  rfl
theorem snoc_cases {α : Type} (w : List α) : w = [] ∨ ∃ w' q, w = w' ++ [q] := by
  rcases List.eq_nil_or_concat w with e | ⟨w', q, e⟩
  · exact .inl e
  · exact .inr ⟨w', q, by rw [e, List.concat_eq_append]⟩
/-! a text with its sign -/
theorem len_pos (xs : List Int) : (pos xs).length = xs.length := List.length_map _
theorem len_neg (xs : List Int) : (neg xs).length = xs.length := List.length_map _
theorem pos_D (xs : List Int) : (xs.map fun x => D.tup [.int x, .int 1]) = (pos xs).map Pq := by
  unfold pos
  rw [List.map_map]
  rfl
theorem neg_D (xs : List Int) : (xs.map fun x => D.tup [.int x, .int (-1)]) = (neg xs).map Pq := by
  unfold neg
  rw [List.map_map]
  rfl
theorem word3_fold (A B C : List Int) : (pos B ++ neg A.reverse ++ pos C).foldl push [] = word3 A B C := by
  rw [List.foldl_append, List.foldl_append]
  rfl
/-! the law's own words -/
theorem lw_one (v a b : D) (w : L1) (l s : Int) (hl : w.length < 10000) : b__law_word_0 [.val v, .own false (w.map Pq), .val a, .val b, .val (.int s), .val (.int l)] = .nx [.val v, .own false ((push w (l, s)).map Pq), .val a, .val b, .val (.int s), .no] := by
  have e0 : oksN 59 (w.map Pq) = true := k_map (fun a => by simp_arith [])
  have e1 : ∀ q : Int × Int, ∀ w' : L1, eqvs ((w' ++ [q]).map Pq) [] = false := fun q w' => by
    rw [List.map_append]
    cases w'.map Pq <;> simp_arith [List.map_cons, List.map_nil, List.cons_append]
  rcases snoc_cases w with e | ⟨w', q, e⟩
  · subst e
    simp_arith [b__law_word_0, push, List.map_nil]
    rfl
  · subst e
    rw [List.length_append] at hl
    rw [push_cc]
    by_cases h : q = (l, -s)
    · simp_arith [b__law_word_0, lastm, e0, e1, pq_eq, h, glast, dlast, Int.zero_sub]
    · simp_arith [b__law_word_0, lastm, e0, e1, pq_eq, h, Int.zero_sub]
      rw [← snoc1 Pq (w' ++ [q])]
theorem fold_len : ∀ (ps w : L1), (ps.foldl push w).length ≤ w.length + ps.length
  | [], w => Nat.le_refl _
  | p :: ps, w => by
    have h1 := fold_len ps (push w p)
    have h2 := push_len w p
    rw [List.foldl_cons, List.length_cons]
    omega
theorem lw_loop (v a b : D) (s : Int) (xs : List Int) (w : L1) (h : w.length + xs.length < 10000) : forM' g__law_word_0 b__law_word_0 (xs.map D.int) [.val v, .own false (w.map Pq), .val a, .val b, .val (.int s), .no] = .nx [.val v, .own false (((xs.map fun x => (x, s)).foldl push w).map Pq), .val a, .val b, .val (.int s), .no] := by
  have e := (for_fold (enc := D.int) (fr := fun w : L1 => [.val v, .own false (w.map Pq), .val a, .val b, .val (.int s), .no]) (step := fun w x => push w (x, s)) (g := g__law_word_0) (b := b__law_word_0) (fun n w => w.length + n < 10000) (fun n t x hs => ⟨by
    have := push_len t (x, s)
    omega, _, rfl, .inl (lw_one v a b t x s (by omega))⟩) xs w (by omega)).1
  rw [e, List.foldl_map]
/-- a text's letters with their signs, at an even or an odd place -/
def sgnd (i : Nat) (xs : List Int) : L1 := if i % 2 = 0 then pos xs else neg xs.reverse
theorem sgnd_len (i : Nat) (xs : List Int) : (sgnd i xs).length = xs.length := by
  unfold sgnd
  split
  · exact len_pos xs
  · rw [len_neg, List.length_reverse]
def wordG : List (List Int) → Nat → L1 → L1
  | [], _, w => w
  | xs :: ts, i, w => wordG ts (i + 1) ((sgnd i xs).foldl push w)
theorem wordG_len : ∀ (ts : List (List Int)) (i : Nat) (w : L1) (n : Nat), (∀ t ∈ ts, t.length ≤ n) → (wordG ts i w).length ≤ w.length + ts.length * n
  | [], i, w, n, _ => by
    unfold wordG
    omega
  | xs :: ts, i, w, n, h => by
    have h1 := wordG_len ts (i + 1) ((sgnd i xs).foldl push w) n fun t ht => h t (List.mem_cons_of_mem _ ht)
    have h2 := fold_len (sgnd i xs) w
    have h3 := h xs List.mem_cons_self
    rw [sgnd_len] at h2
    unfold wordG
    rw [List.length_cons, Nat.add_mul, Nat.one_mul]
    omega
theorem lw_outer (v : D) : ∀ (ts : List (List Int)) (i : Nat) (w : L1), w.length + ts.length * 100 < 9000 → (∀ t ∈ ts, t.length ≤ 100) → forM' g__law_word_1 b__law_word_1 (enumF (ts.map TI') i) [.val v, .own false (w.map Pq), .no, .no, .no, .no] = .nx [.val v, .own false ((wordG ts i w).map Pq), .no, .no, .no, .no]
  | [], i, w, _, _ => rfl
  | xs :: ts, i, w, h, ht => by
    have h3 := ht xs List.mem_cons_self
    have e : enumF ((xs :: ts).map TI') i = D.tup [.int i, TI' xs] :: enumF (ts.map TI') (i + 1) := rfl
    rw [List.length_cons, Nat.add_mul, Nat.one_mul] at h
    have hl : ((sgnd i xs).foldl push w).length + ts.length * 100 < 9000 := by
      have := fold_len (sgnd i xs) w
      rw [sgnd_len] at this
      omega
    have ih := lw_outer v ts (i + 1) ((sgnd i xs).foldl push w) hl fun t q => ht t (List.mem_cons_of_mem _ q)
    rw [e]
    by_cases hi : i % 2 = 0
    · have hs : (1 : Int) - 2 * ((i : Int) % 2) = 1 := by omega
      unfold wordG
      have hg : sgnd i xs = xs.map fun x => (x, (1 : Int)) := by unfold sgnd; rw [if_pos hi]; rfl
      rw [hg] at ih ⊢
      simp_arith [g__law_word_1, b__law_word_1, hs, lw_loop, ih]
    · have hs : (1 : Int) - 2 * ((i : Int) % 2) = -1 := by omega
      unfold wordG
      have hg : sgnd i xs = xs.reverse.map fun x => (x, (-1 : Int)) := by unfold sgnd; rw [if_neg hi]; rfl
      have hr : w.length + xs.reverse.length < 10000 := by rw [List.length_reverse]; omega
      rw [hg] at ih ⊢
      simp_arith [g__law_word_1, b__law_word_1, hs, lw_loop, ih]
theorem t_lword (ts : List (List Int)) (h1 : ts.length ≤ 80) (h2 : ∀ t ∈ ts, t.length ≤ 100) : f__law_word [.lst (ts.map TI')] = .ok (.v (.tup ((wordG ts 0 []).map Pq))) := by
  have e := lw_outer (.lst (ts.map TI')) ts 0 [] (by rw [List.length_nil]; omega) h2
  rw [List.map_nil] at e
  rw [q__law_word]
  simp_arith [m__law_word, e]
end LW
end

section
set_option Elab.async false
set_option linter.all false
set_option maxRecDepth 100000
set_option maxHeartbeats 4000000
set_option autoImplicit false
namespace LW
open PySem L2 DL
/-! C5: drawn texts. -/
def lt3 (i : Int) : Int := if i = 0 then 3 else if i = 1 then 47 else 99
theorem lt3_in (i : Int) : lt3 i = 3 ∨ lt3 i = 47 ∨ lt3 i = 99 := by
  unfold lt3
  split
  · exact .inl rfl
  · split
    · exact .inr (.inl rfl)
    · exact .inr (.inr rfl)
theorem at_lt3 (i : Int) (h0 : 0 ≤ i) (h1 : i < 3) : atI [D.int 3, D.int 47, D.int 99] i = some (.int (lt3 i)) := by
  have : i = 0 ∨ i = 1 ∨ i = 2 := by omega
  rcases this with e | e | e <;> subst e <;> rfl
/-- a drawn text -/
noncomputable def rowR (b : Bx) (l g : Int) : List Int × Bx := macc (fun s (_ : Nat) => (lt3 (tk s l).1, (tk s l).2)) (List.range (tkn b (g + 1))) (tk b (g + 1)).2
theorem t_row (b : Bx) (l g : Int) (hl : 0 < l) (hl3 : l ≤ 3) (hg : 0 ≤ g) (hg2 : g ≤ 100) : fb__law_row (bx b) [.int l, .int g] = .ok (.v (TI' (rowR b l g).1), bx (rowR b l g).2) := by
  have n1 := tkn_lt b (g + 1) (by omega) (by omega)
  have n2 := tkn_eq b (g + 1) (by omega) (by omega)
  have e := lc_acc (vs := [3]) (g := gNm 3) (tt := mYes) (te := mOp2 ixD (mTup (mCons (mC (.int 3)) (mCons (mC (.int 47)) (mCons (mC (.int 99)) (mNil))))) (mCallB 0 fb__law_take (mCons (mVar 1) (mNil)))) (enc := fun (i : Nat) => D.int (i : Int)) (out := D.int)
    (fr := fun s : Bx => [.own true (bx s), .val (.int l), .val (.int g), .no]) (fun s (_ : Nat) => (lt3 (tk s l).1, (tk s l).2)) (fun s => rfl) (fun s a => ⟨_, rfl, rfl, [.own true (bx (tk s l).2), .val (.int l), .val (.int g), .val (.int a)], by
      have g1 := tk_ge s l hl (by omega)
      have g2 := tk_lt s l hl (by omega)
      simp_arith [t_take, at_lt3], rfl⟩) (List.range (tkn b (g + 1))) [.own true (bx (tk b (g + 1)).2), .val (.int l), .val (.int g), .no] (tk b (g + 1)).2 [] rfl (by
      have q : (1000000 : Nat) ≤ sizeLine := by decide
      rw [List.length_nil, List.length_range]
      omega)
  rw [q__law_row]
  unfold rowR
  simp_arith [m__law_row, t_take, n2, rngs_n, e]
def Low (n : Nat) (xs : List Int) : Prop := (∀ x ∈ xs, x = 3 ∨ x = 47 ∨ x = 99) ∧ xs.length ≤ n
theorem row_low (b : Bx) (l : Int) (g : Nat) (hg2 : g ≤ 100) : Low g (rowR b l g).1 := by
  have n1 := tkn_lt b (g + 1) (by omega) (by omega)
  refine ⟨macc_all _ _ (fun s a => lt3_in _) _ _, ?_⟩
  unfold rowR
  rw [macc_len, List.length_range]
  omega
theorem Low.lets {n : Nat} {xs : List Int} (h : Low n xs) (hn : n ≤ 100) : Lets xs := ⟨fun x hx => by
  rcases h.1 x hx with e | e | e <;> subst e <;> omega, Nat.le_trans h.2 hn⟩
theorem Low.app {n m : Nat} {xs ys : List Int} (h : Low n xs) (g : Low m ys) : Low (n + m) (xs ++ ys) := ⟨fun x hx => by
  rcases List.mem_append.mp hx with z | z
  · exact h.1 x z
  · exact g.1 x z, by
  have h1 := h.2
  have h2 := g.2
  rw [List.length_append]
  omega⟩
theorem Low.up {n m : Nat} {xs : List Int} (h : Low n xs) (g : n ≤ m) : Low m xs := ⟨h.1, Nat.le_trans h.2 g⟩
theorem Low.take {n : Nat} {xs : List Int} (h : Low n xs) (k : Nat) : Low n (xs.take k) := ⟨fun x hx => h.1 x (List.mem_of_mem_take hx), by
  have := h.2
  rw [List.length_take]
  omega⟩
theorem Low.drop {n : Nat} {xs : List Int} (h : Low n xs) (k : Nat) : Low n (xs.drop k) := ⟨fun x hx => h.1 x (List.mem_of_mem_drop hx), by
  have := h.2
  rw [List.length_drop]
  omega⟩
end LW
end

section
set_option Elab.async false
set_option linter.all false
set_option maxRecDepth 100000
set_option maxHeartbeats 1000000
set_option autoImplicit false
/-! M08p: corners and five texts, plain. -/
namespace LW
theorem came_iff (A B C D : List Int) : came A B C = some D ↔ ∃ A1 A2 B1 C2, A = A1 ++ A2 ∧ B = B1 ++ A2 ∧ C = A1 ++ C2 ∧ D = B1 ++ C2 := by
  constructor
  · intro h
    have ha := tl_a A B
    by_cases hb : bg A C < en A B
    · unfold came at h
      rw [if_pos hb] at h
      cases h
    · have hg := bg_a A C
      have h1 := (cut_ends A B (en A B) (by omega)).mpr (Nat.le_refl _)
      have h2 := (cut_begins A C (en A B) (by omega)).mpr (by omega)
      have h3 := cut_came A B C (en A B) (Nat.le_refl _) (by omega)
      rw [h] at h3
      refine ⟨A.take (en A B), A.drop (en A B), B.take (B.length - (A.length - en A B)), C.drop (en A B), (List.take_append_drop _ _).symm, ?_, ?_, Option.some.inj h3⟩
      · rw [← h1.2, List.take_append_drop]
      · rw [← h2, List.take_append_drop]
  · rintro ⟨A1, A2, B1, C2, rfl, rfl, rfl, rfl⟩
    have e1 : (A1 ++ A2).length - A1.length = A2.length := by rw [List.length_append]; omega
    have e2 : (B1 ++ A2).length - A2.length = B1.length := by rw [List.length_append]; omega
    have h1 := (cut_ends (A1 ++ A2) (B1 ++ A2) A1.length (by rw [List.length_append]; omega)).mp (by
      rw [e1, e2]
      refine ⟨by rw [List.length_append]; omega, ?_⟩
      rw [List.drop_left, List.drop_left])
    have h2 := (cut_begins (A1 ++ A2) (A1 ++ C2) A1.length (by rw [List.length_append]; omega)).mp (by rw [List.take_left, List.take_left])
    rw [cut_came _ _ _ _ h1 h2, e1, e2, List.take_left, List.drop_left]
theorem corner1 {A B C D : List Int} (h : came A B C = some D) : came D C B = some A := by
  obtain ⟨A1, A2, B1, C2, h1, h2, h3, h4⟩ := (came_iff A B C D).mp h
  exact (came_iff D C B A).mpr ⟨B1, C2, A1, A2, h4, h3, h2, h1⟩
theorem corner2 {A B C D : List Int} (h : came A B C = some D) : came C D A = some B := by
  obtain ⟨A1, A2, B1, C2, h1, h2, h3, h4⟩ := (came_iff A B C D).mp h
  exact (came_iff C D A B).mpr ⟨A1, C2, B1, A2, h3, h4, h1, h2⟩
theorem corner3 {A B C D : List Int} (h : came A B C = some D) : came B A D = some C := by
  obtain ⟨A1, A2, B1, C2, h1, h2, h3, h4⟩ := (came_iff A B C D).mp h
  exact (came_iff B A D C).mpr ⟨B1, A2, A1, C2, h2, h1, h4, h3⟩
/-! reduced words -/
def Red (w : L1) : Prop := ∀ u v p q, w = u ++ p :: q :: v → p ≠ (q.1, -q.2)
theorem red_nil : Red [] := by
  intro u v p q h
  cases u <;> cases h
theorem red_pre {w : L1} {p : Int × Int} (h : Red (w ++ [p])) : Red w := by
  intro u v a b e
  exact h u (v ++ [p]) a b (by rw [e, List.append_assoc]; rfl)
theorem push_c (w : L1) (q p : Int × Int) : push (w ++ [q]) p = if q = (p.1, -p.2) then w else w ++ [q] ++ [p] := by
  unfold push
  rw [List.getLast?_concat]
  by_cases h : q = (p.1, -p.2)
  · rw [if_pos (by rw [h]), if_pos h, List.dropLast_concat]
  · rw [if_neg (fun e => h (Option.some.inj e)), if_neg h]
theorem red_push {w : L1} (p : Int × Int) (h : Red w) : Red (push w p) := by
  rcases List.eq_nil_or_concat w with e | ⟨w', q, e⟩
  · subst e
    intro u v a b e
    have e : [p] = u ++ a :: b :: v := e
    have := congrArg List.length e
    rw [List.length_append, List.length_cons, List.length_cons, List.length_cons] at this
    have z : ([] : L1).length = 0 := rfl
    omega
  · rw [List.concat_eq_append] at e
    subst e
    rw [push_c]
    by_cases hq : q = (p.1, -p.2)
    · rw [if_pos hq]
      exact red_pre h
    · rw [if_neg hq]
      intro u v a b e
      rcases List.eq_nil_or_concat v with ev | ⟨v', z, ev⟩
      · subst ev
        have e2 : w' ++ [q] ++ [p] = (u ++ [a]) ++ [b] := by rw [e, List.append_assoc]; rfl
        have e3 := List.append_inj' e2 rfl
        have e4 := List.append_inj' e3.1 rfl
        have e5 : q = a := (List.cons.inj e4.2).1
        have e6 : p = b := (List.cons.inj e3.2).1
        rw [← e5, ← e6]
        exact hq
      · rw [List.concat_eq_append] at ev
        subst ev
        have e2 : w' ++ [q] ++ [p] = (u ++ a :: b :: v') ++ [z] := by rw [e, List.append_assoc]; rfl
        exact h u v' a b (List.append_inj' e2 rfl).1
theorem red_fold : ∀ (ps w : L1), Red w → Red (ps.foldl push w)
  | [], w, h => h
  | p :: ps, w, h => red_fold ps (push w p) (red_push p h)
theorem push_back {w : L1} (p : Int × Int) (h : Red w) : push (push w p) (p.1, -p.2) = w := by
  have key : ∀ w : L1, push (w ++ [p]) (p.1, -p.2) = w := fun w => by
    rw [push_c, if_pos (by rw [Int.neg_neg])]
  rcases List.eq_nil_or_concat w with e | ⟨w', q, e⟩
  · subst e
    exact key []
  · rw [List.concat_eq_append] at e
    subst e
    rw [push_c]
    by_cases hq : q = (p.1, -p.2)
    · rw [if_pos hq]
      rcases List.eq_nil_or_concat w' with e | ⟨w2, r, e⟩
      · subst e
        rw [hq]
        rfl
      · rw [List.concat_eq_append] at e
        subst e
        rw [push_c, if_neg, hq]
        intro z
        exact h w2 [] r q (by rw [List.append_assoc]; rfl) (by rw [z, hq])
    · rw [if_neg hq]
      exact key (w' ++ [q])
theorem back_pn : ∀ (X : List Int) (w : L1), Red w → (neg X.reverse).foldl push ((pos X).foldl push w) = w
  | [], w, _ => rfl
  | x :: xs, w, h => by
    have e : neg (x :: xs).reverse = neg xs.reverse ++ [(x, -1)] := by rw [List.reverse_cons, neg_app]; rfl
    rw [e, List.foldl_append]
    show push ((neg xs.reverse).foldl push ((pos xs).foldl push (push w (x, 1)))) (x, -1) = w
    rw [back_pn xs (push w (x, 1)) (red_push _ h)]
    exact push_back (x, 1) h
theorem back_np : ∀ (X : List Int) (w : L1), Red w → (pos X).foldl push ((neg X.reverse).foldl push w) = w
  | [], w, _ => rfl
  | x :: xs, w, h => by
    have e : neg (x :: xs).reverse = neg xs.reverse ++ [(x, -1)] := by rw [List.reverse_cons, neg_app]; rfl
    rw [e, List.foldl_append]
    show (pos xs).foldl push (push (push ((neg xs.reverse).foldl push w) (x, -1)) (x, 1)) = w
    have e2 := push_back (w := (neg xs.reverse).foldl push w) (x, -1) (red_fold _ _ h)
    have e3 : ((x, -1) : Int × Int).1 = x := rfl
    have e4 : (((x, -1) : Int × Int).1, -((x, -1) : Int × Int).2) = (x, (1 : Int)) := rfl
    rw [e4] at e2
    rw [e2, back_np xs w h]
theorem tri {A B C D : List Int} {u : L1} (hu : Red u) (h : came A B C = some D) : (pos C).foldl push ((neg A.reverse).foldl push ((pos B).foldl push u)) = (pos D).foldl push u := by
  obtain ⟨A1, A2, B1, C2, rfl, rfl, rfl, rfl⟩ := (came_iff A B C D).mp h
  have r1 := red_fold (pos B1) u hu
  rw [List.reverse_append, pos_app, pos_app, pos_app, neg_app, List.foldl_append, List.foldl_append, List.foldl_append, List.foldl_append, back_pn A2 _ r1, back_np A1 _ r1]
theorem tri' {A B C D : List Int} {u : L1} (hu : Red u) (h : came A B C = some D) : (neg B.reverse).foldl push ((pos A).foldl push ((neg C.reverse).foldl push u)) = (neg D.reverse).foldl push u := by
  obtain ⟨A1, A2, B1, C2, rfl, rfl, rfl, rfl⟩ := (came_iff A B C D).mp h
  have r1 := red_fold (neg C2.reverse) u hu
  rw [List.reverse_append, List.reverse_append, List.reverse_append, pos_app, neg_app, neg_app, neg_app, List.foldl_append, List.foldl_append, List.foldl_append, List.foldl_append, back_np A1 _ r1, back_pn A2 _ r1]
/-- a word's text -/
def textW (w : L1) : Option (List Int) := if (-1 : Int) ∈ w.map (·.2) then none else some (w.map (·.1))
theorem textW_pos (t : List Int) : textW (pos t) = some t := by
  unfold textW pos
  rw [if_neg, List.map_map]
  · have e3 : ((fun p : Int × Int => p.1) ∘ fun x : Int => (x, (1 : Int))) = id := rfl
    rw [e3, List.map_id]
  · intro z
    obtain ⟨p, hp, ep⟩ := List.mem_map.mp z
    obtain ⟨y, _, ey⟩ := List.mem_map.mp hp
    rw [← ey] at ep
    exact absurd (show (1 : Int) = -1 from ep) (by decide)
theorem came_text (A B C : List Int) : came A B C = textW (word3 A B C) := by
  obtain ⟨h1, h2⟩ := word3_came A B C
  cases hc : came A B C with
  | none =>
    obtain ⟨x, hx⟩ := h2 hc
    unfold textW
    rw [if_pos (List.mem_map.mpr ⟨_, hx, rfl⟩)]
  | some t => rw [h1 t hc, textW_pos]
def word5 (a b c d e : List Int) : L1 := (pos e).foldl push ((neg d.reverse).foldl push ((pos c).foldl push ((neg b.reverse).foldl push ((pos a).foldl push []))))
theorem way1 {a b c d e X : List Int} (h : came b a c = some X) : came d X e = textW (word5 a b c d e) := by
  rw [came_text]
  unfold word5 word3
  rw [tri red_nil h]
theorem way2 {a b c d e X : List Int} (h : came d c e = some X) : came b a X = textW (word5 a b c d e) := by
  rw [came_text]
  unfold word5 word3
  rw [tri (red_fold _ _ (red_fold _ _ red_nil)) h]
theorem way3 {a b c d e X : List Int} (h : came c d b = some X) : came X a e = textW (word5 a b c d e) := by
  rw [came_text]
  unfold word5 word3
  rw [tri' (red_fold _ _ red_nil) h]
end LW
end

section
set_option Elab.async false
set_option linter.all false
set_option maxRecDepth 100000
set_option maxHeartbeats 4000000
set_option autoImplicit false
namespace LW
open PySem L2 DL
/-! C6: the law's own texts. -/
theorem in_ints {α : Type} (f : α → Int) (i : Int) : ∀ l : List α, inL (.int i) (l.map fun a => D.int (f a)) = decide (i ∈ l.map f)
  | [] => by
    rw [List.map_nil, List.map_nil]
    simp_arith [List.not_mem_nil]
  | a :: l => by
    rw [List.map_cons, List.map_cons, in_c, e_ii, in_ints f i l]
    by_cases h : f a = i
    · simp [h]
    · have h' : ¬ i = f a := fun z => h z.symm
      simp [h, h']
def optD : Option (List Int) → D
  | some t => TI' t
  | none => .non
theorem fst_D (w : L1) : (w.map fun p => D.int p.1) = (w.map (·.1)).map D.int := by
  rw [List.map_map]
  rfl
theorem t_ltext (ts : List (List Int)) (h1 : ts.length ≤ 80) (h2 : ∀ t ∈ ts, t.length ≤ 100) : f__law_text [.lst (ts.map TI')] = .ok (.v (optD (textW (wordG ts 0 [])))) := by
  have hl : (wordG ts 0 []).length ≤ 1000000 := by
    have := wordG_len ts 0 [] 100 h2
    rw [List.length_nil] at this
    omega
  rw [q__law_text]
  unfold textW optD
  by_cases h : (-1 : Int) ∈ (wordG ts 0 []).map (·.2)
  · simp_arith [m__law_text, t_lword ts h1 h2, in_ints, h]
  · simp_arith [m__law_text, t_lword ts h1 h2, in_ints, h, fst_D]
end LW
end

section
set_option Elab.async false
set_option linter.all false
set_option maxRecDepth 100000
set_option maxHeartbeats 4000000
set_option autoImplicit false
namespace LW
open PySem L2 DL
/-! K09a: picks. -/
theorem kS (x : Str) (h : PyData.strOk x = true) (n : Nat) : okN n (.str x) = true := k_str h
theorem s_front (n : Nat) : okN n (.str "front") = true := k_str (by decide +kernel)
theorem s_back (n : Nat) : okN n (.str "back") = true := k_str (by decide +kernel)
theorem s_ahead (n : Nat) : okN n (.str "ahead") = true := k_str (by decide +kernel)
theorem s_stuck (n : Nat) : okN n (.str "stuck") = true := k_str (by decide +kernel)
theorem s_comes (n : Nat) : okN n (.str "comes") = true := k_str (by decide +kernel)
theorem s_deeds (n : Nat) : okN n (.str "deeds") = true := k_str (by decide +kernel)
theorem s_text (n : Nat) : okN n (.str "text") = true := k_str (by decide +kernel)
theorem e_fb : ((("front" : String) : Str) == ("back" : String)) = false := by decide +kernel
theorem e_bf : ((("back" : String) : Str) == ("front" : String)) = false := by decide +kernel
theorem e_fa : ((("front" : String) : Str) == ("ahead" : String)) = false := by decide +kernel
theorem e_ba : ((("back" : String) : Str) == ("ahead" : String)) = false := by decide +kernel
theorem e_sc : ((("stuck" : String) : Str) == ("comes" : String)) = false := by decide +kernel
theorem e_cs : ((("comes" : String) : Str) == ("stuck" : String)) = false := by decide +kernel
theorem opt_came (A B C : List Int) : optD (came A B C) = cameD A B C := by
  unfold optD cameD
  cases came A B C <;> rfl
theorem t_front {A B C : List Int} {a b c : D} (hA : Lets A) (hB : Lets B) (hC : Lets C) (ta : Txt A a) (tb : Txt B b) (tc : Txt C c) : f_front_pick [a, b, c] = .ok (.v (cameD B C A)) := by
  rw [q_front_pick]
  simp_arith [m_front_pick, t_three_ok hA hB hC ta tb tc, t_came B C A hC.2 hA.2]
theorem t_back {A B C : List Int} {a b c : D} (hA : Lets A) (hB : Lets B) (hC : Lets C) (ta : Txt A a) (tb : Txt B b) (tc : Txt C c) : f_back_pick [a, b, c] = .ok (.v (cameD B A C)) := by
  rw [q_back_pick]
  simp_arith [m_back_pick, t_three_ok hA hB hC ta tb tc, t_came B A C hA.2 hC.2]
/-- a pick: in front or not, old, new -/
abbrev Pk := Bool × List Int × List Int
def sdD (b : Bool) : D := .str (if b = true then "front" else "back")
theorem sd_t : sdD true = .str "front" := rfl
theorem sd_f : sdD false = .str "back" := rfl
def putO (t : List Int) (x : Pk) : Option (List Int) := if x.1 = true then came x.2.1 x.2.2 t else came x.2.1 t x.2.2
def pkOk (x : Pk) : Prop := Lets x.2.1 ∧ Lets x.2.2
abbrev pkL (x : Pk) : D := .lst [sdD x.1, LI' x.2.1, TI' x.2.2]
abbrev pkT (x : Pk) : D := .tup [sdD x.1, TI' x.2.1, TI' x.2.2]
theorem t_put (b : Bool) (A B C : List Int) (hA : A.length ≤ 100) (hB : B.length ≤ 100) (hC : C.length ≤ 100) : f__law_put [sdD b, TI' A, TI' B, TI' C] = .ok (.v (optD (putO A (b, B, C)))) := by
  have k1 := s_front 60
  have k2 := s_back 60
  have h3 : ∀ x y z : List Int, x.length ≤ 100 → y.length ≤ 100 → z.length ≤ 100 → f__law_text [.lst [TI' x, TI' y, TI' z]] = .ok (.v (optD (textW (wordG [x, y, z] 0 [])))) := fun x y z h1 h2 h3 => t_ltext [x, y, z] (by simp) (by
    intro t ht
    simp at ht
    rcases ht with e | e | e <;> rw [e] <;> assumption)
  have w1 : textW (wordG [C, B, A] 0 []) = came B C A := (came_text B C A).symm
  have w2 : textW (wordG [A, B, C] 0 []) = came B A C := (came_text B A C).symm
  rw [q__law_put]
  cases b with
  | true => simp_arith [m__law_put, sd_t, h3, w1, putO]
  | false => simp_arith [m__law_put, sd_f, e_bf, h3, w2, putO]
theorem txt_ok {xs : List Int} {d : D} (h : Lets xs) (t : Txt xs d) : f_is_text [d] = .ok (.v (.bl true)) := by
  obtain ⟨h1, h2, _⟩ := t.facts h
  rw [t_text d h1, h2]
theorem np_one (v : D) (k : Nat) (enc : Pk → D) (henc : enc = pkL ∨ enc = pkT) (x : Pk) (hx : pkOk x) : b_need_picks_0 [.val v, .val (.int k), .val (enc x), .no, .no, .no] = .nx [.val v, .no, .no, .no, .no, .no] := by
  have o1 := txt_ok hx.1 .t
  have o2 := txt_ok hx.1 .l
  have o3 := txt_ok hx.2 .t
  obtain ⟨b, old, new⟩ := x
  rcases henc with e | e <;> subst e <;> cases b with
  | true => simp_arith [b_need_picks_0, t_seqL, t_seqT, sd_t, o1, o2, o3, s_front, s_back]
  | false => simp_arith [b_need_picks_0, t_seqL, t_seqT, sd_f, e_fb, o1, o2, o3, s_front, s_back]
end LW
end

section
set_option Elab.async false
set_option linter.all false
set_option maxRecDepth 100000
set_option maxHeartbeats 4000000
set_option autoImplicit false
namespace LW
open PySem L2 DL
/-! K09b: rows of picks. -/
theorem came_sub {A B C t : List Int} (h : came A B C = some t) : t.length ≤ B.length + C.length ∧ ∀ x ∈ t, x ∈ B ∨ x ∈ C := by
  unfold came at h
  split at h
  · cases h
  · cases h
    constructor
    · rw [List.length_append, List.length_take, List.length_drop]
      omega
    · intro x hx
      rcases List.mem_append.mp hx with e | e
      · exact .inl (List.mem_of_mem_take e)
      · exact .inr (List.mem_of_mem_drop e)
def pkFit (x : Pk) : Prop := pkOk x ∧ x.2.2.length ≤ 4
theorem put_sub {t u : List Int} {x : Pk} (h : putO t x = some u) : u.length ≤ t.length + x.2.2.length ∧ ∀ y ∈ u, y ∈ t ∨ y ∈ x.2.2 := by
  unfold putO at h
  split at h
  · obtain ⟨h1, h2⟩ := came_sub h
    exact ⟨by omega, fun y hy => (h2 y hy).symm⟩
  · exact came_sub h
theorem put_lets {t u : List Int} {x : Pk} (ht : Lets t) (hx : pkFit x) (hl : t.length ≤ 90) (h : putO t x = some u) : Lets u := by
  obtain ⟨h1, h2⟩ := put_sub h
  have := hx.2
  refine ⟨fun y hy => ?_, by omega⟩
  rcases h2 y hy with e | e
  · exact ht.1 y e
  · exact hx.1.2.1 y e
def pickR : List Pk → Nat → List Int → D
  | [], _, t => .tup [.str "comes", TI' t]
  | x :: l, k, t => match putO t x with
    | some u => pickR l (k + 1) u
    | none => .tup [.str "stuck", .int k]
theorem t_putc (t : List Int) (x : Pk) (ht : t.length ≤ 100) (hx : pkOk x) (b : D) (hb : b = sdD x.1) : (if x.1 = true then f_came_text [TI' x.2.1, TI' x.2.2, TI' t] else f_came_text [TI' x.2.1, TI' t, TI' x.2.2]) = .ok (.v (optD (putO t x))) := by
  have h1 := hx.1.2
  have h2 := hx.2.2
  unfold putO
  cases x.1 with
  | true =>
    rw [if_pos rfl, if_pos rfl, t_came _ _ _ h2 ht, opt_came]
  | false =>
    rw [if_neg Bool.false_ne_true, if_neg Bool.false_ne_true, t_came _ _ _ ht h2, opt_came]
theorem pr_loop (v : D) : ∀ (l : List Pk) (k : Nat) (t : List Int), Lets t → t.length + 4 * l.length ≤ 90 → (∀ x ∈ l, pkFit x) →
    (((forM' g_pick_row_0 b_pick_row_0 (enumF (l.map pkT) k) [.val (TI' t), .val v, .no, .no, .no, .no]).fgt [2, 3, 4, 5]).seq (mRet (mTup (mCons (mC (.str "comes")) (mCons (mVar 0) (mNil)))))).out = .ok (.v (pickR l k t))
  | [], k, t, _, _, _ => by
    unfold pickR
    simp_arith [List.map_nil]
  | x :: l, k, t, ht, hl, hx => by
    have hx0 := hx x List.mem_cons_self
    have h1 := hx0.1.1.2
    have h2 := hx0.1.2.2
    have h4 := hx0.2
    have h3 := ht.2
    rw [List.length_cons] at hl
    unfold pickR
    obtain ⟨b, old, new⟩ := x
    cases hp : putO t (b, old, new) with
    | none =>
      cases b with
      | true =>
        have hp' : cameD old new t = .non := by
          rw [← opt_came]
          have : came old new t = none := hp
          rw [this]
          rfl
        simp_arith [List.map_cons, g_pick_row_0, b_pick_row_0, sd_t, s_front, t_came, hp']
      | false =>
        have hp' : cameD old t new = .non := by
          rw [← opt_came]
          have : came old t new = none := hp
          rw [this]
          rfl
        simp_arith [List.map_cons, g_pick_row_0, b_pick_row_0, sd_f, s_front, s_back, e_bf, t_came, hp']
    | some u =>
      have hu := put_lets ht hx0 (by omega) hp
      have hul := (put_sub hp).1
      have ih := pr_loop v l (k + 1) u hu (by
        have e : (b, old, new).2.2 = new := rfl
        rw [e] at hul h4
        omega) fun y hy => hx y (List.mem_cons_of_mem _ hy)
      cases b with
      | true =>
        have hp' : cameD old new t = TI' u := by
          rw [← opt_came]
          have : came old new t = some u := hp
          rw [this]
          rfl
        simp_arith [List.map_cons, g_pick_row_0, b_pick_row_0, sd_t, s_front, t_came, hp', ih]
      | false =>
        have hp' : cameD old t new = TI' u := by
          rw [← opt_came]
          have : came old t new = some u := hp
          rw [this]
          rfl
        simp_arith [List.map_cons, g_pick_row_0, b_pick_row_0, sd_f, s_front, s_back, e_bf, t_came, hp', ih]
theorem np_loop (v : D) (enc : Pk → D) (henc : enc = pkL ∨ enc = pkT) (rest : List D) : ∀ (l : List Pk) (k : Nat), (∀ x ∈ l, pkFit x) → forM' g_need_picks_0 b_need_picks_0 (enumF (l.map enc ++ rest) k) [.val v, .no, .no, .no, .no, .no] = forM' g_need_picks_0 b_need_picks_0 (enumF rest (k + l.length)) [.val v, .no, .no, .no, .no, .no]
  | [], k, _ => rfl
  | x :: l, k, hx => by
    have h0 := np_one v k enc henc x (hx x List.mem_cons_self).1
    have ih := np_loop v enc henc rest l (k + 1) fun y hy => hx y (List.mem_cons_of_mem _ hy)
    have e : enumF ((x :: l).map enc ++ rest) k = .tup [.int k, enc x] :: enumF (l.map enc ++ rest) (k + 1) := rfl
    rw [e, List.length_cons, show k + (l.length + 1) = k + 1 + l.length by omega, ← ih]
    simp_arith [g_need_picks_0, h0]
theorem t_picks (l : List Pk) (enc : Pk → D) (henc : enc = pkL ∨ enc = pkT) (hl : l.length ≤ 1000) (hx : ∀ x ∈ l, pkFit x) (d : D) (hd : d = .lst (l.map enc) ∨ d = .tup (l.map enc)) : f_need_picks [d] = .ok (.v (.lst (l.map pkT))) := by
  have e := fun v => np_loop v enc henc [] l 0 hx
  simp only [List.append_nil] at e
  rw [q_need_picks]
  rcases henc with z | z <;> subst z <;> rcases hd with z | z <;> subst z
  · simp_arith [m_need_picks, t_seqL, e]
  · simp_arith [m_need_picks, t_seqT, e]
  · simp_arith [m_need_picks, t_seqL, e]
  · simp_arith [m_need_picks, t_seqT, e]
theorem t_row_ok (l : List Pk) (enc : Pk → D) (henc : enc = pkL ∨ enc = pkT) (hx : ∀ x ∈ l, pkFit x) (d : D) (hd : d = .lst (l.map enc) ∨ d = .tup (l.map enc)) {t : List Int} {a : D} (ht : Lets t) (ta : Txt t a) (hl : t.length + 4 * l.length ≤ 90) : f_pick_row [a, d] = .ok (.v (pickR l 0 t)) := by
  rw [q_pick_row]
  have e1 := t_picks l enc henc (by omega) hx d hd
  have e2 := fun c => t_need_ok (c := c) ht ta
  have e3 := pr_loop d l 0 t ht hl hx
  rw [← e3]
  simp_arith [m_pick_row, e1, e2]
end LW
end

section
set_option Elab.async false
set_option linter.all false
set_option maxRecDepth 100000
set_option maxHeartbeats 4000000
set_option autoImplicit false
namespace LW
open PySem L2 DL
/-! K09c: what is refused; drawn picks. -/
def wrongs : List D := [.non, .tup [], .tup [.str "front", .tup [.int 0]], .tup [.str "ahead", .tup [], .tup []], .tup [.str "front", .non, .tup []], .tup [.str "back", .tup [], .lst [.int 100]], .int 3, .str "front", .tup [.str "back", .tup [], .tup [], .tup []]]
theorem it0 : f_is_text [.tup []] = .ok (.v (.bl true)) := t_text _ (by decide)
theorem it1 : f_is_text [.non] = .ok (.v (.bl false)) := t_text _ (by decide)
theorem it2 : f_is_text [.lst [.int 100]] = .ok (.v (.bl false)) := t_text _ (by decide)
theorem e_af : ((("ahead" : String) : Str) == ("front" : String)) = false := by decide +kernel
theorem e_ab : ((("ahead" : String) : Str) == ("back" : String)) = false := by decide +kernel
theorem wrong_one {w : D} (hw : w ∈ wrongs) (v : D) (k : Nat) : b_need_picks_0 [.val v, .val (.int k), .val w, .no, .no, .no] = .err "InvalidDeeds" [("at", .int k)] [.no, .no, .no, .no, .no, .no] := by
  unfold wrongs at hw
  simp only [List.mem_cons, List.not_mem_nil, or_false] at hw
  rcases hw with e | e | e | e | e | e | e | e | e <;> subst e
  · simp_arith [b_need_picks_0, t_seqN]
  · simp_arith [b_need_picks_0, t_seqT]
  · simp_arith [b_need_picks_0, t_seqT]
  · simp_arith [b_need_picks_0, t_seqT, s_front, s_back, s_ahead, e_fa, e_ba, e_af, e_ab]
  · simp_arith [b_need_picks_0, t_seqT, s_front, s_back, it1]
  · simp_arith [b_need_picks_0, t_seqT, s_front, s_back, e_fb, it0, it2]
  · simp_arith [b_need_picks_0, t_seqI]
  · simp_arith [b_need_picks_0, t_seqS]
  · simp_arith [b_need_picks_0, t_seqT]
theorem ref_deeds (l : List Pk) (hx : ∀ x ∈ l, pkFit x) {w : D} (hw : w ∈ wrongs) {t : List Int} (ht : Lets t) : f__law_refused [TI' t, .lst (l.map pkL ++ [w, .non])] = .ok (.v (.tup [.str "deeds", .int l.length])) := by
  have e0 : f_need_picks [.lst (l.map pkL ++ [w, .non])] = .err "InvalidDeeds" [("at", .int (l.length : Nat))] := by
    have e := np_loop (.lst (l.map pkL ++ [w, .non])) pkL (.inl rfl) [w, .non] l 0 hx
    rw [Nat.zero_add] at e
    have e1 := wrong_one hw (.lst (l.map pkL ++ [w, .non])) l.length
    rw [q_need_picks]
    simp_arith [m_need_picks, t_seqL, e, g_need_picks_0, e1]
  have e1 : f_pick_row [TI' t, .lst (l.map pkL ++ [w, .non])] = .err "InvalidDeeds" [("at", .int (l.length : Nat))] := by
    rw [q_pick_row]
    simp_arith [m_pick_row, t_need_ok ht .t, e0]
  rw [q__law_refused]
  simp_arith [m__law_refused, mTryN, catchN, e1]
  rfl
theorem ref_none {t : List Int} (ht : Lets t) {w : D} (hw : w ∈ [D.non, .int 4, .str "front"]) : f__law_refused [TI' t, w] = .ok (.v (.tup [.str "deeds", .int (-1)])) := by
  have e0 : f_need_picks [w] = .err "InvalidDeeds" [("at", .int (-1))] := by
    rw [q_need_picks]
    simp only [List.mem_cons, List.not_mem_nil, or_false] at hw
    rcases hw with e | e | e <;> subst e
    · simp_arith [m_need_picks, t_seqN]
    · simp_arith [m_need_picks, t_seqI]
    · simp_arith [m_need_picks, t_seqS]
  have e1 : f_pick_row [TI' t, w] = .err "InvalidDeeds" [("at", .int (-1))] := by
    rw [q_pick_row]
    simp_arith [m_pick_row, t_need_ok ht .t, e0]
  rw [q__law_refused]
  simp_arith [m__law_refused, mTryN, catchN, e1]
  rfl
theorem need_non (i : D) : f_need_text [.non, i] = .err "InvalidText" [("at", i)] := t_need _ _ (by decide)
theorem need_5 (i : D) : f_need_text [.int 5, i] = .err "InvalidText" [("at", i)] := t_need _ _ (by decide)
theorem need_a (i : D) : f_need_text [.str "a", i] = .err "InvalidText" [("at", i)] := t_need _ _ (by decide)
theorem ref_text : f__law_refused [.non, .non] = .ok (.v (.tup [.str "text", .int (-1)])) := by
  have e1 : f_pick_row [.non, .non] = .err "InvalidText" [("at", .int (-1))] := by
    rw [q_pick_row]
    simp_arith [m_pick_row, need_non]
  rw [q__law_refused]
  simp_arith [m__law_refused, mTryN, catchN, e1]
  rfl
theorem three_0 (x y : D) : f_need_three [.non, x, y] = .err "InvalidText" [("at", .int 0)] := by
  rw [q_need_three]
  simp_arith [m_need_three, need_non]
theorem three_1 {t : List Int} (ht : Lets t) (y : D) : f_need_three [TI' t, .int 5, y] = .err "InvalidText" [("at", .int 1)] := by
  rw [q_need_three]
  simp_arith [m_need_three, t_need_ok ht .t, need_5]
theorem three_2 {t : List Int} (ht : Lets t) : f_need_three [TI' t, TI' t, .str "a"] = .err "InvalidText" [("at", .int 2)] := by
  rw [q_need_three]
  simp_arith [m_need_three, t_need_ok ht .t, need_a]
theorem rp_front {x y z : D} {i : Int} (h : f_need_three [x, y, z] = .err "InvalidText" [("at", .int i)]) : f__law_refused_pick [.gl "front_pick", x, y, z] = .ok (.v (.int i)) := by
  have e0 : f_front_pick [x, y, z] = .err "InvalidText" [("at", .int i)] := by
    rw [q_front_pick]
    simp_arith [m_front_pick, h]
  have e1 : tab.lookup (("front_pick" : String) : Str) = some f_front_pick := rfl
  rw [q__law_refused_pick]
  simp_arith [m__law_refused_pick, mTryR, mCallV, e0, e1]
  rfl
theorem rp_back {x y z : D} {i : Int} (h : f_need_three [x, y, z] = .err "InvalidText" [("at", .int i)]) : f__law_refused_pick [.gl "back_pick", x, y, z] = .ok (.v (.int i)) := by
  have e0 : f_back_pick [x, y, z] = .err "InvalidText" [("at", .int i)] := by
    rw [q_back_pick]
    simp_arith [m_back_pick, h]
  have e1 : tab.lookup (("back_pick" : String) : Str) = some f_back_pick := rfl
  rw [q__law_refused_pick]
  simp_arith [m__law_refused_pick, mTryR, mCallV, e0, e1]
  rfl
/-! a drawn pick -/
theorem t_deed (b : Bx) {n : Nat} {t : List Int} (ht : Low n t) (hn : n ≤ 60) (l : Int) (hl : 0 < l) (hl3 : l ≤ 3) : ∃ (x : Pk) (c : Bx), fb__law_deed (bx b) [TI' t, .int l] = .ok (.v (pkT x), bx c) ∧ Low (n + 2) x.2.1 ∧ Low 4 x.2.2 := by
  have hl2 := ht.2
  have e1 := t_pick b [.str "front", .str "back"] (by decide) (by decide)
  have m1 := pk_mem b [.str "front", .str "back"] (by decide) (by decide)
  obtain ⟨s, hs⟩ : ∃ s : Bool, pk b [.str "front", .str "back"] = sdD s := by
    simp only [List.mem_cons, List.not_mem_nil, or_false] at m1
    rcases m1 with e | e
    · exact ⟨true, e⟩
    · exact ⟨false, e⟩
  rw [hs] at e1
  generalize (tk b ([D.str "front", D.str "back"] : List D).length).2 = b1 at e1
  have g1 := tkn_lt b1 ((t.length : Nat) + 1) (by omega) (by omega)
  have g2 := tkn_eq b1 ((t.length : Nat) + 1) (by omega) (by omega)
  generalize tkn b1 ((t.length : Nat) + 1) = z at g1 g2
  generalize hb2 : (tk b1 ((t.length : Nat) + 1)).2 = b2
  have w3 := row_low b2 l 2 (by decide)
  generalize hr3 : rowR b2 l ((2 : Nat) : Int) = r3 at w3
  have hr3' : rowR b2 l 2 = r3 := hr3
  have w4 := row_low r3.2 l 2 (by decide)
  generalize hr4 : rowR r3.2 l ((2 : Nat) : Int) = r4 at w4
  have hr4' : rowR r3.2 l 2 = r4 := hr4
  have l3 := w3.2
  have l4 := w4.2
  have q1 : (t.take z).length ≤ 60 := by rw [List.length_take]; omega
  have q2 : (t.drop z).length ≤ 60 := by rw [List.length_drop]; omega
  rw [q__law_deed]
  by_cases h0 : (tk r4.2 4).1 = 0
  · refine ⟨(s, r3.1, r4.1), (tk r4.2 4).2, ?_, w3.up (by omega), w4.up (by decide)⟩
    simp_arith [m__law_deed, e1, t_take, g2, hb2, t_row, hr3', hr4', h0]
  · cases s with
    | true =>
      refine ⟨(true, t.take z ++ r3.1, r4.1 ++ r3.1), (tk r4.2 4).2, ?_, (ht.take z).app w3, (w4.app w3).up (by decide)⟩
      simp_arith [m__law_deed, e1, t_take, g2, hb2, t_row, hr3', hr4', h0, sd_t, s_front, cut_t]
      rfl
    | false =>
      refine ⟨(false, r3.1 ++ t.drop z, r3.1 ++ r4.1), (tk r4.2 4).2, ?_, (w3.app (ht.drop z)).up (by omega), (w3.app w4).up (by decide)⟩
      simp_arith [m__law_deed, e1, t_take, g2, hb2, t_row, hr3', hr4', h0, sd_f, s_front, s_back, e_bf, cut_d]
      rfl
end LW
end

section
set_option Elab.async false
set_option linter.all false
set_option maxRecDepth 100000
set_option maxHeartbeats 4000000
set_option autoImplicit false
namespace LW
open PySem L2 DL
/-! K09d: the law's rows of picks. -/
/-- how far a row has come: the text there, the first pick that clashed -/
def stepF (s : List Int × Option Nat × Nat) (x : Pk) : List Int × Option Nat × Nat := match s.2.1 with
  | some i => (s.1, some i, s.2.2 + 1)
  | none => match putO s.1 x with
    | some u => (u, none, s.2.2 + 1)
    | none => (s.1, some s.2.2, s.2.2 + 1)
def runF (t : List Int) (ds : List Pk) : List Int × Option Nat × Nat := ds.foldl stepF (t, none, 0)
def dueE (s : List Int × Option Nat × Nat) : D := match s.2.1 with
  | some i => .tup [.str "stuck", .int (i : Nat)]
  | none => .tup [.str "comes", TI' s.1]
def dueN (s : List Int × Option Nat × Nat) : D := match s.2.1 with
  | some i => .tup [.str "stuck", .int (i : Nat)]
  | none => .non
theorem stepF_some (i : Nat) : ∀ (l : List Pk) (t : List Int) (k : Nat), (l.foldl stepF (t, some i, k)) = (t, some i, k + l.length)
  | [], t, k => rfl
  | x :: l, t, k => by
    rw [List.foldl_cons, List.length_cons]
    show l.foldl stepF (t, some i, k + 1) = _
    rw [stepF_some i l t (k + 1), show k + 1 + l.length = k + (l.length + 1) by omega]
theorem pickR_run : ∀ (l : List Pk) (k : Nat) (t : List Int), pickR l k t = dueE (l.foldl stepF (t, none, k))
  | [], k, t => rfl
  | x :: l, k, t => by
    unfold pickR
    rw [List.foldl_cons]
    cases h : putO t x with
    | none =>
      have e : stepF (t, none, k) x = (t, some k, k + 1) := by
        show (match putO t x with | some u => (u, none, k + 1) | none => (t, some k, k + 1)) = _
        rw [h]
      rw [e, stepF_some]
      rfl
    | some u =>
      have e : stepF (t, none, k) x = (u, none, k + 1) := by
        show (match putO t x with | some u => (u, none, k + 1) | none => (t, some k, k + 1)) = _
        rw [h]
      rw [e]
      exact pickR_run l (k + 1) u
theorem run_snoc (t : List Int) (ds : List Pk) (x : Pk) : runF t (ds ++ [x]) = stepF (runF t ds) x := by
  unfold runF
  rw [List.foldl_append]
  rfl
theorem run_len (t : List Int) (ds : List Pk) : (runF t ds).2.2 = ds.length := by
  have : ∀ (l : List Pk) (s : List Int × Option Nat × Nat), (l.foldl stepF s).2.2 = s.2.2 + l.length := by
    intro l
    induction l with
    | nil => intro s; rfl
    | cons x l ih =>
      intro s
      rw [List.foldl_cons, ih, List.length_cons]
      have : (stepF s x).2.2 = s.2.2 + 1 := by
        unfold stepF
        split
        · rfl
        · split <;> rfl
      omega
  unfold runF
  rw [this]
  show 0 + ds.length = _
  omega
/-- picks as drawn -/
def drawn (x : Pk) : Prop := Low 40 x.2.1 ∧ Low 4 x.2.2
theorem drawn_fit {x : Pk} (h : drawn x) : pkFit x := ⟨⟨h.1.lets (by decide), h.2.lets (by decide)⟩, h.2.2⟩
theorem put_low {n : Nat} {t u : List Int} {x : Pk} (ht : Low n t) (hx : drawn x) (h : putO t x = some u) : Low (n + 4) u := by
  obtain ⟨h1, h2⟩ := put_sub h
  have a := ht.2
  have b := hx.2.2
  refine ⟨fun y hy => ?_, by omega⟩
  rcases h2 y hy with e | e
  · exact ht.1 y e
  · exact hx.2.1 y e
theorem step_low {n : Nat} {s : List Int × Option Nat × Nat} {x : Pk} (h : Low n s.1) (hx : drawn x) : Low (n + 4) (stepF s x).1 := by
  unfold stepF
  split
  · exact h.up (by omega)
  · split
    · rename_i u hu
      exact put_low h hx hu
    · exact h.up (by omega)
theorem run_low' : ∀ (l : List Pk) (n : Nat) (s : List Int × Option Nat × Nat), Low n s.1 → (∀ x ∈ l, drawn x) → Low (n + 4 * l.length) (l.foldl stepF s).1
  | [], n, s, h, _ => h
  | x :: l, n, s, h, hd => by
    rw [List.foldl_cons, List.length_cons, show n + 4 * (l.length + 1) = n + 4 + 4 * l.length by omega]
    exact run_low' l (n + 4) _ (step_low h (hd x List.mem_cons_self)) fun y hy => hd y (List.mem_cons_of_mem _ hy)
theorem run_low (t : List Int) (ht : Low 6 t) (ds : List Pk) (hd : ∀ x ∈ ds, drawn x) : Low (6 + 4 * ds.length) (runF t ds).1 := run_low' ds 6 _ ht hd
theorem sh_opt {n : Nat} {o : Option (List Int)} (h : ∀ t, o = some t → Low n t) (hn : n ≤ 1000) : ∃ c, Sh c 1 (optD o) ∧ c ≤ 10000 := by
  cases o with
  | none => exact ⟨4, sh_non, by decide⟩
  | some t =>
    have hl := (h t rfl).2
    have hl' : (t.map D.int).length ≤ 1000 := by rw [List.length_map]; omega
    refine ⟨_, sh_tup (c := 3) (k := 0) (shs_all fun d hd => ?_), by omega⟩
    obtain ⟨x, hx, rfl⟩ := List.mem_map.mp hd
    rcases (h t rfl).1 x hx with e | e | e <;> subst e <;> exact sh_int (by decide) (by decide)
theorem rep_ok {c k : Nat} {d : D} (h : Sh c k d) (hc : c ≤ 10000) (hk : k ≤ 60) : ∃ t : Str, reprD [d] = some (.str t) ∧ okN 60 (.str t) = true := ⟨_, repr_sh h hc hk, k_str h.ok⟩
/-- the frame of the inner loop -/
def fr (ns : List Int) (k : Int) (l : Int) (t : List Int) (b : Bx) (ds : List Pk) : DSt := [.val (LI' ns), .val (.int k), .own false (bx b), .val (.int l), .val (TI' t), .own false (ds.map pkL), .val (TI' (runF t ds).1), .val (dueN (runF t ds)), .no, .no, .no, .no, .no, .no, .no, .no, .no, .no, .no]
theorem inner_one (ns : List Int) (k l : Int) (t : List Int) (hl : 0 < l) (hl3 : l ≤ 3) (ht : Low 6 t) (b : Bx) (ds : List Pk) (hd : ∀ x ∈ ds, drawn x) (h5 : ds.length < 5) : ∃ (x : Pk) (c : Bx), drawn x ∧ (∃ s, g_law_0 (.int (ds.length : Nat)) (fr ns k l t b ds) = some s ∧ b_law_0 s = .nx (fr ns k l t c (ds ++ [x]))) := by
  have w := run_low t ht ds hd
  have wl := w.2
  obtain ⟨x, c, e, x1, x2⟩ := t_deed b (w.up (show _ ≤ 30 by omega)) (by decide) l hl hl3
  have hx : drawn x := ⟨x1.up (by decide), x2⟩
  refine ⟨x, c, hx, _, rfl, ?_⟩
  have hS : (ds.map pkL ++ [D.lst [sdD x.1, LI' x.2.1, TI' x.2.2]]) = (ds ++ [x]).map pkL := by
    rw [List.map_append]
    rfl
  have lA := w.lets (show _ ≤ 100 by omega)
  have lB := hx.1.lets (by decide)
  have lC := hx.2.lets (by decide)
  have b1 := lB.2
  have c1 := x2.2
  have rl := run_len t ds
  unfold fr
  rw [run_snoc]
  generalize runF t ds = S at w wl e lA rl
  obtain ⟨here, due, cnt⟩ := S
  simp only at w wl e lA rl
  subst rl
  obtain ⟨s, old, new⟩ := x
  simp only at x1 x2 lB lC b1 c1 hS hx
  cases due with
  | some i =>
    simp_arith [b_law_0, dueN, e, hS, stepF]
  | none =>
    have ep := t_put s here old new (by omega) b1 (by omega)
    obtain ⟨c2, r2, q2⟩ := sh_opt (o := putO here (s, old, new)) (n := 40) (fun u hu => (put_low w hx hu).up (by omega)) (by decide)
    obtain ⟨z, r3, q3⟩ := rep_ok r2 q2 (by decide)
    have e1 := t_front lA lB lC .t .t .t
    have e2 := t_back lA lB lC .t .t .t
    cases hp : putO here (s, old, new) with
    | none =>
      rw [hp] at ep r3
      replace ep : f__law_put [sdD s, TI' here, TI' old, TI' new] = .ok (.v .non) := ep
      replace r3 : reprD [D.non] = some (.str z) := r3
      cases s with
      | true =>
        have f1 : cameD old new here = .non := by
          rw [← opt_came]
          have : came old new here = none := hp
          rw [this]
          rfl
        rw [f1] at e1
        rw [sd_t] at ep hS
        simp_arith [b_law_0, dueN, e, hS, stepF, sd_t, s_front, ep, e1, r3, hp]
      | false =>
        have f1 : cameD old here new = .non := by
          rw [← opt_came]
          have : came old here new = none := hp
          rw [this]
          rfl
        rw [f1] at e2
        rw [sd_f] at ep hS
        simp_arith [b_law_0, dueN, e, hS, stepF, sd_f, s_front, s_back, e_bf, ep, e2, r3, hp]
    | some u =>
      have lU := ((put_low w hx hp).up (show _ ≤ 40 by omega)).lets (by decide)
      rw [hp] at ep r3
      replace ep : f__law_put [sdD s, TI' here, TI' old, TI' new] = .ok (.v (TI' u)) := ep
      replace r3 : reprD [TI' u] = some (.str z) := r3
      cases s with
      | true =>
        have hp' : came old new here = some u := hp
        have f1 : cameD old new here = TI' u := by
          rw [← opt_came, hp']
          rfl
        have f2 : cameD new old u = TI' here := by
          rw [← opt_came, corner3 hp']
          rfl
        rw [f1] at e1
        have e3 := t_front lU lC lB .t .t .t
        rw [f2] at e3
        rw [sd_t] at ep hS
        simp_arith [b_law_0, dueN, e, hS, stepF, sd_t, s_front, ep, e1, r3, hp, e3]
      | false =>
        have hp' : came old here new = some u := hp
        have f1 : cameD old here new = TI' u := by
          rw [← opt_came, hp']
          rfl
        have f2 : cameD new u old = TI' here := by
          rw [← opt_came, corner2 hp']
          rfl
        rw [f1] at e2
        have e3 := t_back lU lC lB .t .t .t
        rw [f2] at e3
        rw [sd_f] at ep hS
        simp_arith [b_law_0, dueN, e, hS, stepF, sd_f, s_front, s_back, e_bf, ep, e2, r3, hp, e3]
end LW
end

section
set_option Elab.async false
set_option linter.all false
set_option maxRecDepth 100000
set_option maxHeartbeats 4000000
set_option autoImplicit false
namespace LW
open PySem L2 DL
/-! K09e: one cell, the whole. -/
theorem inner (ns : List Int) (k l : Int) (t : List Int) (hl : 0 < l) (hl3 : l ≤ 3) (ht : Low 6 t) : ∀ (m : Nat) (b : Bx) (ds : List Pk), (∀ x ∈ ds, drawn x) → ds.length + m ≤ 5 → ∃ (c : Bx) (es : List Pk), (∀ x ∈ es, drawn x) ∧ es.length = ds.length + m ∧
    forM' g_law_0 b_law_0 ((List.range' ds.length m).map fun (i : Nat) => D.int (i : Int)) (fr ns k l t b ds) = .nx (fr ns k l t c es)
  | 0, b, ds, hd, _ => ⟨b, ds, hd, rfl, rfl⟩
  | m + 1, b, ds, hd, h5 => by
    obtain ⟨x, c, hx, s, e1, e2⟩ := inner_one ns k l t hl hl3 ht b ds hd (by omega)
    have hd' : ∀ y ∈ ds ++ [x], drawn y := fun y hy => by
      rcases List.mem_append.mp hy with e | e
      · exact hd y e
      · rw [List.mem_singleton.mp e]
        exact hx
    have hlen : (ds ++ [x]).length = ds.length + 1 := by rw [List.length_append, List.length_singleton]
    obtain ⟨c2, es, h1, h2, h3⟩ := inner ns k l t hl hl3 ht m c (ds ++ [x]) hd' (by omega)
    refine ⟨c2, es, h1, by omega, ?_⟩
    rw [hlen] at h3
    rw [List.range'_succ, List.map_cons, for_eq, e1]
    show (b_law_0 s).loop _ = _
    rw [e2]
    exact h3
theorem sh_lit {x : Str} {k : Nat} (h1 : (PyData.str x).showable = true) (h2 : PyData.strOk (PyData.str x).shown = true) (h3 : (PyData.str x).shown.length ≤ 20) : Sh 20 k (.str x) := ⟨by unfold DL.plain; rfl, by unfold toP; exact h1, by unfold toP PyData.depth; omega, by unfold toP PyData.hasDict; rfl, by unfold toP; exact h2, by unfold toP; exact h3⟩
theorem sh_up {c c' k k' : Nat} {d : D} (h : Sh c k d) (h1 : c ≤ c') (h2 : k ≤ k') : Sh c' k' d := ⟨h.pl, h.sh, Nat.le_trans h.dp h2, h.nd, h.ok, Nat.le_trans h.le h1⟩
theorem sh_stuck {k : Nat} : Sh 20 k (.str "stuck") := sh_lit (by decide +kernel) (by decide +kernel) (by decide +kernel)
theorem sh_comes {k : Nat} : Sh 20 k (.str "comes") := sh_lit (by decide +kernel) (by decide +kernel) (by decide +kernel)
theorem sh_due {s : List Int × Option Nat × Nat} (h : Low 40 s.1) (hi : ∀ i, s.2.1 = some i → i < 50) : ∃ c, Sh c 2 (dueE s) ∧ c ≤ 10000 := by
  unfold dueE
  cases hs : s.2.1 with
  | some i => exact ⟨_, sh_tup (shs_cons (sh_stuck (k := 1)) (shs_cons (sh_up (sh_int (i := (i : Int)) (k := 1) (by omega) (by have := hi i hs; omega)) (by decide : 3 ≤ 20) (Nat.le_refl _)) shs_nil)), by omega⟩
  | none =>
    have hl' : (s.1.map D.int).length ≤ 40 := by rw [List.length_map]; exact h.2
    have z : Sh ((3 + 2) * (s.1.map D.int).length + 3) 1 (TI' s.1) := sh_tup (c := 3) (k := 0) (shs_all fun d hd => by
      obtain ⟨x, hx, rfl⟩ := List.mem_map.mp hd
      rcases h.1 x hx with e | e | e <;> subst e <;> exact sh_int (by decide) (by decide))
    exact ⟨_, sh_tup (c := 300) (shs_cons (sh_up (sh_comes (k := 1)) (by decide) (Nat.le_refl _)) (shs_cons (sh_up z (by omega) (Nat.le_refl _)) shs_nil)), by omega⟩
theorem step_idx (s : List Int × Option Nat × Nat) (x : Pk) (h : ∀ i, s.2.1 = some i → i < s.2.2) : ∀ i, (stepF s x).2.1 = some i → i < (stepF s x).2.2 := by
  intro i hi
  unfold stepF at hi ⊢
  cases hs : s.2.1 with
  | some j =>
    rw [hs] at hi
    have := h j hs
    simp only [Option.some.injEq] at hi ⊢
    omega
  | none =>
    rw [hs] at hi
    simp only at hi ⊢
    cases hp : putO s.1 x with
    | none =>
      rw [hp] at hi
      simp only [Option.some.injEq] at hi ⊢
      omega
    | some u =>
      rw [hp] at hi
      cases hi
theorem run_idx (t : List Int) (ds : List Pk) : ∀ i, (runF t ds).2.1 = some i → i < ds.length := by
  have key : ∀ (l : List Pk) (s : List Int × Option Nat × Nat), (∀ i, s.2.1 = some i → i < s.2.2) → ∀ i, (l.foldl stepF s).2.1 = some i → i < (l.foldl stepF s).2.2 := by
    intro l
    induction l with
    | nil => exact fun s h => h
    | cons x l ih => exact fun s h => ih _ (step_idx s x h)
  have := key ds (t, none, 0) (fun i h => by cases h)
  have e := run_len t ds
  unfold runF at e ⊢
  rw [e] at this
  exact this
theorem map_int_inj : ∀ {u v : List Int}, u.map D.int = v.map D.int → u = v
  | [], [], _ => rfl
  | [], _ :: _, h => by cases h
  | _ :: _, [], h => by cases h
  | a :: u, b :: v, h => by
    rw [List.map_cons, List.map_cons] at h
    injection h with h1 h2
    injection h1 with h1
    rw [h1, map_int_inj h2]
theorem ways_eq {o1 n1 o2 n2 t u1 u2 : List Int} (h1 : pickR [(true, o1, n1), (false, o2, n2)] 0 t = .tup [.str "comes", TI' u1]) (h2 : pickR [(false, o2, n2), (true, o1, n1)] 0 t = .tup [.str "comes", TI' u2]) : u1 = u2 := by
  have ns : ∀ (i : Int) (u : List Int), D.tup [.str "stuck", .int i] ≠ .tup [.str "comes", TI' u] := fun i u z => by
    injection z with z
    injection z with z _
    injection z with z
    exact absurd z (by decide +kernel)
  have inj : ∀ u v : List Int, D.tup [.str "comes", TI' u] = .tup [.str "comes", TI' v] → u = v := fun u v z => by
    injection z with z
    injection z with _ z
    injection z with z _
    injection z with z
    exact map_int_inj z
  have p1 : ∀ (b : Bool) (o n t : List Int), putO t (b, o, n) = if b = true then came o n t else came o t n := fun _ _ _ _ => rfl
  unfold pickR at h1 h2
  rw [p1, if_pos rfl] at h1
  rw [p1, if_neg Bool.false_ne_true] at h2
  cases e1 : came o1 n1 t with
  | none =>
    rw [e1] at h1
    exact absurd h1 (ns _ _)
  | some X =>
    rw [e1] at h1
    unfold pickR at h1
    simp only at h1
    rw [p1, if_neg Bool.false_ne_true] at h1
    cases e2 : came o2 t n2 with
    | none =>
      rw [e2] at h2
      exact absurd h2 (ns _ _)
    | some Y =>
      rw [e2] at h2
      unfold pickR at h2
      simp only at h2
      rw [p1, if_pos rfl] at h2
      have w1 := way1 (d := o2) (e := n2) e1
      have w2 := way2 (b := o1) (a := n1) e2
      rw [w1] at h1
      rw [w2] at h2
      cases e3 : textW (word5 n1 o1 t o2 n2) with
      | none =>
        rw [e3] at h1
        exact absurd h1 (ns _ _)
      | some u =>
        rw [e3] at h1 h2
        unfold pickR at h1 h2
        exact (inj _ _ h1).symm.trans (inj _ _ h2)
theorem pickR_form : ∀ (l : List Pk) (k : Nat) (t : List Int), (∃ u, pickR l k t = .tup [.str "comes", TI' u]) ∨ ∃ i : Nat, pickR l k t = .tup [.str "stuck", .int (i : Nat)]
  | [], k, t => .inl ⟨t, rfl⟩
  | x :: l, k, t => by
    unfold pickR
    cases putO t x with
    | none => exact .inr ⟨k, rfl⟩
    | some u => exact pickR_form l (k + 1) u
theorem cut1 (x y z : D) : cut [x, y, z] (some 1) none = [y, z] := rfl
end LW
end

section
set_option Elab.async false
set_option linter.all false
set_option maxRecDepth 100000
set_option maxHeartbeats 4000000
set_option autoImplicit false
namespace LW
open PySem L2 DL
/-! K09f: one cell, the whole. -/
theorem once (ns : List Int) (k : Int) (hk : 0 ≤ k) (hk2 : k < 1000000) : b_law_1 [.val (LI' ns), .val (.int k), .no, .no, .no, .no, .no, .no, .no, .no, .no, .no, .no, .no, .no, .no, .no, .no, .no] = .nx [.val (LI' ns), .no, .no, .no, .no, .no, .no, .no, .no, .no, .no, .no, .no, .no, .no, .no, .no, .no, .no] := by
  have e0 := t_box ns k hk hk2
  generalize box0 ns k = b0 at e0
  have g1 := tk_ge b0 3 (by decide) (by decide)
  have g2 := tk_lt b0 3 (by decide) (by decide)
  have et := t_take b0 3 (by decide) (by decide)
  generalize hl : 1 + (tk b0 3).1 = l
  generalize (tk b0 3).2 = b1 at et
  have hl1 : 0 < l := by omega
  have hl2 : l ≤ 3 := by omega
  have er := t_row b1 l 6 hl1 hl2 (by decide) (by decide)
  have ht : Low 6 (rowR b1 l 6).1 := row_low b1 l 6 (by decide)
  generalize rowR b1 l 6 = r at er ht
  obtain ⟨t, b2⟩ := r
  simp only at er ht
  have lt_ := ht.lets (by decide)
  have ltl := ht.2
  have g3 := tkn_lt b2 6 (by decide) (by decide)
  have g4 := tkn_eq b2 6 (by decide) (by decide)
  have e6 := t_take b2 6 (by decide) (by decide)
  generalize tkn b2 6 = m at g3 g4
  generalize (tk b2 6).2 = b3 at e6
  rw [g4] at e6
  obtain ⟨b4, ds, hd, hdl, el⟩ := inner ns k l t hl1 hl2 ht m b3 [] (fun x hx => by cases hx) (by rw [List.length_nil]; omega)
  rw [List.length_nil, ← List.range_eq_range'] at el
  rw [List.length_nil] at hdl
  have hfit : ∀ x ∈ ds, pkFit x := fun x hx => drawn_fit (hd x hx)
  have er1 := t_row_ok ds pkL (.inl rfl) hfit (.lst (ds.map pkL)) (.inl rfl) lt_ .l (by omega)
  have er2 := t_row_ok ds pkL (.inl rfl) hfit (.tup (ds.map pkL)) (.inr rfl) lt_ .t (by omega)
  rw [pickR_run] at er1 er2
  change f_pick_row [LI' t, .lst (ds.map pkL)] = .ok (.v (dueE (runF t ds))) at er1
  change f_pick_row [TI' t, .tup (ds.map pkL)] = .ok (.v (dueE (runF t ds))) at er2
  have hw := (run_low t ht ds hd).up (show 6 + 4 * ds.length ≤ 40 by omega)
  obtain ⟨c1, r1, s1⟩ := sh_due (s := runF t ds) hw (fun i hi => by have := run_idx t ds i hi; omega)
  obtain ⟨t1, r2, q2⟩ := rep_ok r1 s1 (by decide)
  obtain ⟨⟨sx, o1, n1⟩, b5, ex, x1, x2⟩ := t_deed b4 ht (by decide) l hl1 hl2
  obtain ⟨⟨sy, o2, n2⟩, b6, ey, y1, y2⟩ := t_deed b5 ht (by decide) l hl1 hl2
  simp only at x1 x2 y1 y2
  have fx : ∀ s, pkFit (s, o1, n1) := fun s => ⟨⟨x1.lets (by decide), x2.lets (by decide)⟩, x2.2⟩
  have fy : ∀ s, pkFit (s, o2, n2) := fun s => ⟨⟨y1.lets (by decide), y2.lets (by decide)⟩, y2.2⟩
  have f2 : ∀ a b : Pk, pkFit a → pkFit b → ∀ x ∈ [a, b], pkFit x := fun a b ha hb x hx => by
    simp only [List.mem_cons, List.not_mem_nil, or_false] at hx
    rcases hx with e | e <;> rw [e] <;> assumption
  have ew1 : f_pick_row [TI' t, .lst [.tup [.str "front", TI' o1, TI' n1], .tup [.str "back", TI' o2, TI' n2]]] = .ok (.v (pickR [(true, o1, n1), (false, o2, n2)] 0 t)) := t_row_ok [(true, o1, n1), (false, o2, n2)] pkT (.inr rfl) (f2 _ _ (fx true) (fy false)) _ (.inl rfl) lt_ .t (by simp; omega)
  have ew2 : f_pick_row [TI' t, .lst [.tup [.str "back", TI' o2, TI' n2], .tup [.str "front", TI' o1, TI' n1]]] = .ok (.v (pickR [(false, o2, n2), (true, o1, n1)] 0 t)) := t_row_ok [(false, o2, n2), (true, o1, n1)] pkT (.inr rfl) (f2 _ _ (fy false) (fx true)) _ (.inl rfl) lt_ .t (by simp; omega)
  have weq := fun u1 u2 => ways_eq (o1 := o1) (n1 := n1) (o2 := o2) (n2 := n2) (t := t) (u1 := u1) (u2 := u2)
  have p1 := pickR_form [(true, o1, n1), (false, o2, n2)] 0 t
  have p2 := pickR_form [(false, o2, n2), (true, o1, n1)] 0 t
  generalize pickR [(true, o1, n1), (false, o2, n2)] 0 t = P1 at ew1 weq p1
  generalize pickR [(false, o2, n2), (true, o1, n1)] 0 t = P2 at ew2 weq p2
  have e7 := t_pick b6 wrongs (by decide) (by decide)
  have hwr := pk_mem b6 wrongs (by decide) (by decide)
  generalize pk b6 wrongs = w at e7 hwr
  generalize (tk b6 (wrongs.length : Nat)).2 = b7 at e7
  have e8 := t_pick b7 [.non, .int 4, .str "front"] (by decide) (by decide)
  have hwr2 := pk_mem b7 [.non, .int 4, .str "front"] (by decide) (by decide)
  generalize pk b7 [.non, .int 4, .str "front"] = w2 at e8 hwr2
  have z1 := ref_deeds ds hfit hwr lt_
  have z2 := ref_none lt_ hwr2
  have z3 := ref_text
  have z4 := rp_front (three_0 .non .non)
  have z5 := rp_back (three_1 lt_ .non)
  have z6 := rp_front (three_2 lt_)
  unfold wrongs at e7
  unfold fr at el
  have ru : runF t [] = (t, none, 0) := rfl
  rw [ru] at el
  generalize runF t ds = S at el r2 er1 er2
  obtain ⟨here, due, cnt⟩ := S
  cases due with
  | some i =>
    change reprD [D.tup [.str "stuck", .int (i : Nat)]] = some (.str t1) at r2
    change f_pick_row [LI' t, .lst (ds.map pkL)] = .ok (.v (.tup [.str "stuck", .int (i : Nat)])) at er1
    change f_pick_row [TI' t, .tup (ds.map pkL)] = .ok (.v (.tup [.str "stuck", .int (i : Nat)])) at er2
    simp only [dueN, List.map_nil] at el
    rcases p1 with ⟨u1, p1⟩ | ⟨i1, p1⟩ <;> rcases p2 with ⟨u2, p2⟩ | ⟨i2, p2⟩ <;> rw [p1] at ew1 <;> rw [p2] at ew2
    · have := weq u1 u2 p1 p2
      subst this
      simp_arith [b_law_1, e0, et, hl, er, e6, rngs_n, el, er1, er2, r2, ex, ey, cut1, ew1, ew2, e7, e8, z1, z2, z3, z4, z5, z6, s_comes, s_stuck, s_deeds, s_text]
    · simp_arith [b_law_1, e0, et, hl, er, e6, rngs_n, el, er1, er2, r2, ex, ey, cut1, ew1, ew2, e7, e8, z1, z2, z3, z4, z5, z6, s_comes, s_stuck, s_deeds, s_text, e_sc, e_cs]
    · simp_arith [b_law_1, e0, et, hl, er, e6, rngs_n, el, er1, er2, r2, ex, ey, cut1, ew1, ew2, e7, e8, z1, z2, z3, z4, z5, z6, s_comes, s_stuck, s_deeds, s_text, e_sc, e_cs]
    · simp_arith [b_law_1, e0, et, hl, er, e6, rngs_n, el, er1, er2, r2, ex, ey, cut1, ew1, ew2, e7, e8, z1, z2, z3, z4, z5, z6, s_comes, s_stuck, s_deeds, s_text, e_sc, e_cs]
  | none =>
    change reprD [D.tup [.str "comes", TI' here]] = some (.str t1) at r2
    change f_pick_row [LI' t, .lst (ds.map pkL)] = .ok (.v (.tup [.str "comes", TI' here])) at er1
    change f_pick_row [TI' t, .tup (ds.map pkL)] = .ok (.v (.tup [.str "comes", TI' here])) at er2
    simp only [dueN, List.map_nil] at el
    rcases p1 with ⟨u1, p1⟩ | ⟨i1, p1⟩ <;> rcases p2 with ⟨u2, p2⟩ | ⟨i2, p2⟩ <;> rw [p1] at ew1 <;> rw [p2] at ew2
    · have := weq u1 u2 p1 p2
      subst this
      simp_arith [b_law_1, e0, et, hl, er, e6, rngs_n, el, er1, er2, r2, ex, ey, cut1, ew1, ew2, e7, e8, z1, z2, z3, z4, z5, z6, s_comes, s_stuck, s_deeds, s_text]
    · simp_arith [b_law_1, e0, et, hl, er, e6, rngs_n, el, er1, er2, r2, ex, ey, cut1, ew1, ew2, e7, e8, z1, z2, z3, z4, z5, z6, s_comes, s_stuck, s_deeds, s_text, e_sc, e_cs]
    · simp_arith [b_law_1, e0, et, hl, er, e6, rngs_n, el, er1, er2, r2, ex, ey, cut1, ew1, ew2, e7, e8, z1, z2, z3, z4, z5, z6, s_comes, s_stuck, s_deeds, s_text, e_sc, e_cs]
    · simp_arith [b_law_1, e0, et, hl, er, e6, rngs_n, el, er1, er2, r2, ex, ey, cut1, ew1, ew2, e7, e8, z1, z2, z3, z4, z5, z6, s_comes, s_stuck, s_deeds, s_text, e_sc, e_cs]
end LW
end

section
set_option Elab.async false
set_option linter.all false
set_option maxRecDepth 100000
set_option maxHeartbeats 4000000
set_option autoImplicit false
namespace LW
open PySem L2 DL
/-! K09g: the whole. -/
theorem lets_of (xs : List Int) (h : (xs.all fun x => decide (0 ≤ x) && decide (x < 100)) = true) (hl : xs.length ≤ 100) : Lets xs := ⟨fun x hx => by
  have := List.all_eq_true.mp h x hx
  obtain ⟨a, b⟩ := Bool.and_eq_true_iff.mp this
  exact ⟨of_decide_eq_true a, of_decide_eq_true b⟩, hl⟩
theorem an1 : f_front_pick [.tup [.int 1, .int 2, .int 3], .tup [.int 1, .int 5], .tup [.int 4, .int 5]] = .ok (.v (.tup [.int 4, .int 2, .int 3])) :=
  t_front (A := [1, 2, 3]) (B := [1, 5]) (C := [4, 5]) (lets_of _ (by decide) (by decide)) (lets_of _ (by decide) (by decide)) (lets_of _ (by decide) (by decide)) .t .t .t
theorem an2 : f_back_pick [.tup [.int 1, .int 2, .int 3], .tup [.int 5, .int 3], .tup [.int 5, .int 4]] = .ok (.v (.tup [.int 1, .int 2, .int 4])) :=
  t_back (A := [1, 2, 3]) (B := [5, 3]) (C := [5, 4]) (lets_of _ (by decide) (by decide)) (lets_of _ (by decide) (by decide)) (lets_of _ (by decide) (by decide)) .t .t .t
theorem an3 : f_front_pick [.tup [.int 1], .tup [.int 2], .tup []] = .ok (.v .non) :=
  t_front (A := [1]) (B := [2]) (C := []) (lets_of _ (by decide) (by decide)) (lets_of _ (by decide) (by decide)) (lets_of _ (by decide) (by decide)) .t .t .t
theorem an4 : f_pick_row [.tup [.int 1, .int 4], .lst [.tup [.str "front", .tup [.int 1], .tup []], .tup [.str "back", .tup [.int 4], .tup [.int 6]], .tup [.str "front", .tup [.int 4], .tup []]]] = .ok (.v (.tup [.str "stuck", .int 2])) := by
  have h : ∀ x ∈ [((true, [1], []) : Pk), (false, [4], [6]), (true, [4], [])], pkFit x := fun x hx => by
    simp only [List.mem_cons, List.not_mem_nil, or_false] at hx
    rcases hx with e | e | e <;> subst e
    · exact ⟨⟨lets_of _ (by decide) (by decide), lets_of _ (by decide) (by decide)⟩, by decide⟩
    · exact ⟨⟨lets_of _ (by decide) (by decide), lets_of _ (by decide) (by decide)⟩, by decide⟩
    · exact ⟨⟨lets_of _ (by decide) (by decide), lets_of _ (by decide) (by decide)⟩, by decide⟩
  exact t_row_ok [(true, [1], []), (false, [4], [6]), (true, [4], [])] pkT (.inr rfl) h _ (.inl rfl) (t := [1, 4]) (lets_of _ (by decide) (by decide)) .t (by decide)
theorem math (ns : List Int) (_hn : ns.length ≤ 63) : f_law [.lst (ns.map D.int)] = .ok (.v (.bl true)) := by
  have o := once ns
  rw [q_law]
  simp_arith [m_law, an1, an2, an3, an4, g_law_1, o, s_stuck]
end LW
end

open PySem PySem.W PyProof.Rows
set_option maxRecDepth 100000 in
set_option maxHeartbeats 0 in
theorem PySem.Challenge.cw_cancelsback_k09_whole_picks_in_front_and_holds : PySem.Challenge.rw_cancelsback_k09_whole_picks_in_front_and.Holds := by
  w_on; o_law; k_head; (case hw => w_witness2)
  k_fill
  refine DL.walk_dl (l := PySem.Challenge.rw_cancelsback_k09_whole_picks_in_front_and) (n := 63) (k := 10) (x := "_law_script") rfl (by decide) rfl ⟨rfl, by decide, by decide⟩ (fun w h Y => PySem.W.kIn_of Y) ?F
  case F =>
    intro w mg fa h KX G hmg
    refine' LW.top KX G hmg LW.math ?noo ?n_MergeError ?n_InvalidText ?n_InvalidDeeds ?cN ?cT ?i_MergeError ?t_MergeError ?xL_InvalidText ?sa_InvalidText ?na_InvalidText ?own_InvalidText ?exB_InvalidText ?exE_InvalidText ?tyC_InvalidText ?kC_InvalidText ?iC_InvalidText ?hd_InvalidText ?sup_InvalidText ?ga_InvalidText ?gg_InvalidText ?cA_InvalidText ?cM_InvalidText ?a1_InvalidText ?t1_InvalidText ?l1_InvalidText ?lT_InvalidText ?c1_InvalidText ?l2_InvalidText ?hvs_InvalidText ?hf_InvalidText ?l3_InvalidText ?xL_InvalidDeeds ?sa_InvalidDeeds ?na_InvalidDeeds ?own_InvalidDeeds ?exB_InvalidDeeds ?exE_InvalidDeeds ?tyC_InvalidDeeds ?kC_InvalidDeeds ?iC_InvalidDeeds ?hd_InvalidDeeds ?sup_InvalidDeeds ?ga_InvalidDeeds ?gg_InvalidDeeds ?cA_InvalidDeeds ?cM_InvalidDeeds ?a1_InvalidDeeds ?t1_InvalidDeeds ?l1_InvalidDeeds ?lT_InvalidDeeds ?c1_InvalidDeeds ?l2_InvalidDeeds ?hvs_InvalidDeeds ?hf_InvalidDeeds ?l3_InvalidDeeds ?sk_InvalidDeeds_MergeError ?zz_abs ?zz_all ?zz_bool ?zz_enumerate ?zz_int ?zz_isinstance ?zz_len ?zz_list ?zz_min ?zz_range ?zz_repr ?zz_super ?zz_tuple ?zz_zip ?zc_MANY_LETTERS ?zp_PICK_SIDES ?lp_PICK_SIDES ?skn_InvalidDeeds_InvalidText ?skn_InvalidText_InvalidDeeds ?n_is_integer ?l_is_integer ?cc_is_integer ?kk_is_integer ?n_is_number ?l_is_number ?cc_is_number ?kk_is_number ?n_is_below ?l_is_below ?cc_is_below ?kk_is_below ?n_is_sequence ?l_is_sequence ?cc_is_sequence ?kk_is_sequence ?n_is_letter ?l_is_letter ?cc_is_letter ?kk_is_letter ?n_is_text ?l_is_text ?cc_is_text ?kk_is_text ?n_need_text ?l_need_text ?lT_need_text ?cc_need_text ?kk_need_text ?n_shared_length ?l_shared_length ?cc_shared_length ?kk_shared_length ?n_need_three ?l_need_three ?cc_need_three ?kk_need_three ?n_claimed_ends ?l_claimed_ends ?cc_claimed_ends ?kk_claimed_ends ?n_came_text ?l_came_text ?cc_came_text ?kk_came_text ?n_front_pick ?l_front_pick ?cc_front_pick ?kk_front_pick ?n_back_pick ?l_back_pick ?cc_back_pick ?kk_back_pick ?n_need_picks ?l_need_picks ?cc_need_picks ?kk_need_picks ?n_pick_row ?l_pick_row ?cc_pick_row ?kk_pick_row ?n__law_box ?l__law_box ?cc__law_box ?kk__law_box ?n__law_take ?l__law_take ?cc__law_take ?kk__law_take ?n__law_pick ?l__law_pick ?cc__law_pick ?kk__law_pick ?n__law_word ?l__law_word ?cc__law_word ?kk__law_word ?n__law_text ?l__law_text ?cc__law_text ?kk__law_text ?n__law_row ?l__law_row ?cc__law_row ?kk__law_row ?n__law_refused ?l__law_refused ?cc__law_refused ?kk__law_refused ?n__law_refused_pick ?l__law_refused_pick ?cc__law_refused_pick ?kk__law_refused_pick ?n__law_put ?l__law_put ?cc__law_put ?kk__law_put ?n__law_deed ?l__law_deed ?cc__law_deed ?kk__law_deed ?n_law ?l_law ?cc_law ?kk_law
    (case noo => k_is)
    (case n_MergeError => k_is)
    (case n_InvalidText => k_is)
    (case n_InvalidDeeds => k_is)
    (case cN => k_is)
    (case cT => k_is)
    (case i_MergeError => k_is)
    (case t_MergeError => k_is)
    (case xL_InvalidText => k_is)
    (case sa_InvalidText => k_is)
    (case na_InvalidText => k_is)
    (case own_InvalidText => k_is)
    (case exB_InvalidText => k_is)
    (case exE_InvalidText => k_is)
    (case tyC_InvalidText => k_is)
    (case kC_InvalidText => k_is)
    (case iC_InvalidText => k_is)
    (case hd_InvalidText => k_is)
    (case sup_InvalidText => ks_is)
    (case ga_InvalidText => k_is)
    (case gg_InvalidText => k_is)
    (case cA_InvalidText => k_is)
    (case cM_InvalidText => k_is)
    (case a1_InvalidText => k_is)
    (case t1_InvalidText => k_is)
    (case l1_InvalidText => k_is)
    (case lT_InvalidText => k_is)
    (case c1_InvalidText => k_is)
    (case l2_InvalidText => k_is)
    (case hvs_InvalidText => rfl)
    (case hf_InvalidText => rfl)
    (case l3_InvalidText => k_is)
    (case xL_InvalidDeeds => k_is)
    (case sa_InvalidDeeds => k_is)
    (case na_InvalidDeeds => k_is)
    (case own_InvalidDeeds => k_is)
    (case exB_InvalidDeeds => k_is)
    (case exE_InvalidDeeds => k_is)
    (case tyC_InvalidDeeds => k_is)
    (case kC_InvalidDeeds => k_is)
    (case iC_InvalidDeeds => k_is)
    (case hd_InvalidDeeds => k_is)
    (case sup_InvalidDeeds => ks_is)
    (case ga_InvalidDeeds => k_is)
    (case gg_InvalidDeeds => k_is)
    (case cA_InvalidDeeds => k_is)
    (case cM_InvalidDeeds => k_is)
    (case a1_InvalidDeeds => k_is)
    (case t1_InvalidDeeds => k_is)
    (case l1_InvalidDeeds => k_is)
    (case lT_InvalidDeeds => k_is)
    (case c1_InvalidDeeds => k_is)
    (case l2_InvalidDeeds => k_is)
    (case hvs_InvalidDeeds => rfl)
    (case hf_InvalidDeeds => rfl)
    (case l3_InvalidDeeds => k_is)
    (case sk_InvalidDeeds_MergeError => k_is)
    (case zz_abs => k_is)
    (case zz_all => k_is)
    (case zz_bool => k_is)
    (case zz_enumerate => k_is)
    (case zz_int => k_is)
    (case zz_isinstance => k_is)
    (case zz_len => k_is)
    (case zz_list => k_is)
    (case zz_min => k_is)
    (case zz_range => k_is)
    (case zz_repr => k_is)
    (case zz_super => k_is)
    (case zz_tuple => k_is)
    (case zz_zip => k_is)
    (case zc_MANY_LETTERS => k_is)
    (case zp_PICK_SIDES => k_is)
    (case lp_PICK_SIDES => k_is)
    (case skn_InvalidDeeds_InvalidText => k_is)
    (case skn_InvalidText_InvalidDeeds => k_is)
    (case n_is_integer => k_is)
    (case l_is_integer => k_is)
    (case cc_is_integer => k_is)
    (case kk_is_integer => k_is)
    (case n_is_number => k_is)
    (case l_is_number => k_is)
    (case cc_is_number => k_is)
    (case kk_is_number => k_is)
    (case n_is_below => k_is)
    (case l_is_below => k_is)
    (case cc_is_below => k_is)
    (case kk_is_below => k_is)
    (case n_is_sequence => k_is)
    (case l_is_sequence => k_is)
    (case cc_is_sequence => k_is)
    (case kk_is_sequence => k_is)
    (case n_is_letter => k_is)
    (case l_is_letter => k_is)
    (case cc_is_letter => k_is)
    (case kk_is_letter => k_is)
    (case n_is_text => k_is)
    (case l_is_text => k_is)
    (case cc_is_text => k_is)
    (case kk_is_text => k_is)
    (case n_need_text => k_is)
    (case l_need_text => k_is)
    (case lT_need_text => k_is)
    (case cc_need_text => k_is)
    (case kk_need_text => k_is)
    (case n_shared_length => k_is)
    (case l_shared_length => k_is)
    (case cc_shared_length => k_is)
    (case kk_shared_length => k_is)
    (case n_need_three => k_is)
    (case l_need_three => k_is)
    (case cc_need_three => k_is)
    (case kk_need_three => k_is)
    (case n_claimed_ends => k_is)
    (case l_claimed_ends => k_is)
    (case cc_claimed_ends => k_is)
    (case kk_claimed_ends => k_is)
    (case n_came_text => k_is)
    (case l_came_text => k_is)
    (case cc_came_text => k_is)
    (case kk_came_text => k_is)
    (case n_front_pick => k_is)
    (case l_front_pick => k_is)
    (case cc_front_pick => k_is)
    (case kk_front_pick => k_is)
    (case n_back_pick => k_is)
    (case l_back_pick => k_is)
    (case cc_back_pick => k_is)
    (case kk_back_pick => k_is)
    (case n_need_picks => k_is)
    (case l_need_picks => k_is)
    (case cc_need_picks => k_is)
    (case kk_need_picks => k_is)
    (case n_pick_row => k_is)
    (case l_pick_row => k_is)
    (case cc_pick_row => k_is)
    (case kk_pick_row => k_is)
    (case n__law_box => k_is)
    (case l__law_box => k_is)
    (case cc__law_box => k_is)
    (case kk__law_box => k_is)
    (case n__law_take => k_is)
    (case l__law_take => k_is)
    (case cc__law_take => k_is)
    (case kk__law_take => k_is)
    (case n__law_pick => k_is)
    (case l__law_pick => k_is)
    (case cc__law_pick => k_is)
    (case kk__law_pick => k_is)
    (case n__law_word => k_is)
    (case l__law_word => k_is)
    (case cc__law_word => k_is)
    (case kk__law_word => k_is)
    (case n__law_text => k_is)
    (case l__law_text => k_is)
    (case cc__law_text => k_is)
    (case kk__law_text => k_is)
    (case n__law_row => k_is)
    (case l__law_row => k_is)
    (case cc__law_row => k_is)
    (case kk__law_row => k_is)
    (case n__law_refused => k_is)
    (case l__law_refused => k_is)
    (case cc__law_refused => k_is)
    (case kk__law_refused => k_is)
    (case n__law_refused_pick => k_is)
    (case l__law_refused_pick => k_is)
    (case cc__law_refused_pick => k_is)
    (case kk__law_refused_pick => k_is)
    (case n__law_put => k_is)
    (case l__law_put => k_is)
    (case cc__law_put => k_is)
    (case kk__law_put => k_is)
    (case n__law_deed => k_is)
    (case l__law_deed => k_is)
    (case cc__law_deed => k_is)
    (case kk__law_deed => k_is)
    (case n_law => k_is)
    (case l_law => k_is)
    (case cc_law => k_is)
    (case kk_law => k_is)
