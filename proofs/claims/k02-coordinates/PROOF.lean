import PyProof.Rows.All
import Wide.All
import OpenK.AllK
import Wide.FinOn
import KE.KStateDown
import HandS.ForMost
import HandS.IsInst
import HandS.Wide
import HandS.WideBits
import HandS.Gcd
import HandS.Zip
import HandS.Rev
import HandS.Conv
import HandS.Defaults
import HandS.Style
import HandS.Head0
import HandS.Head1
import HandS.Head2
import HandS.HeadEnd
import HandS.HeadHook1
import HandS.HeadHook2
import PySem.Challenge.RW_fewestmarks_k02_coordinates
set_option Elab.async false
set_option maxRecDepth 100000
set_option maxHeartbeats 1000000
set_option linter.all false
set_option maxHeartbeats 4000000
/-! The layer of plain data: values by what they hold (D), names that hold frozen, own or borrowed things (Sl), readings over these alone. -/
namespace Pl
open PySem L2

/-- plain data -/
inductive D where
  | non | bl (b : Bool) | int (i : Int) | str (s : Str)
  | lst (xs : List D) | tup (xs : List D)
  | ins (c : Nat) (fn : List Str) (xs : List D)
  | scr (ns : List Int)

structure Gm where
  K : PySem.W.Frag
  cl : Nat → Addr

mutual
def Rep (M : Gm) (G : Hp) : D → V → Prop
  | .non, v => v = .non
  | .bl b, v => v = .bl b
  | .int i, v => v = .int i
  | .str s, v => v = .str s
  | .lst ds, v => ∃ a vs, v = .ref a ∧ G a = some (.lst vs) ∧ Reps M G ds vs
  | .tup ds, v => ∃ a vs, v = .ref a ∧ SqT M.K G a vs ∧ Reps M G ds vs
  | .ins c fn ds, v => ∃ a dx vs, v = .ref a ∧ G a = some (.ins (M.cl c) dx (fn.zip vs)) ∧ fn.length = vs.length ∧ Reps M G ds vs
  | .scr ns, v => ∃ a, v = .ref a ∧ SqL M.K G a (ns.map V.int)
def Reps (M : Gm) (G : Hp) : List D → List V → Prop
  | [], vs => vs = []
  | d :: ds, vs => ∃ v r, vs = v :: r ∧ Rep M G d v ∧ Reps M G ds r
end

section
variable {M : Gm} {G G' H H' H'' G'' B G0 : Hp}

theorem same_L {K : PySem.W.Frag} {a : Addr} {xs : List V} (e : Same H H') (h : SqL K H a xs) : SqL K H' a xs := e.seq h
theorem same_T {K : PySem.W.Frag} {a : Addr} {xs : List V} (e : Same H H') (h : SqT K H a xs) : SqT K H' a xs := by
  rcases h with (h | ⟨o, h⟩) | h
  · exact .inl (.inl (e _ _ h))
  · exact .inl (.inr ⟨o, e _ _ h⟩)
  · exact .inr h

mutual
theorem Rep.mono (e : Same G G') : ∀ {d : D} {v : V}, Rep M G d v → Rep M G' d v
  | .non, _, h => h
  | .bl _, _, h => h
  | .int _, _, h => h
  | .str _, _, h => h
  | .lst ds, v, h => by
    unfold Rep at h ⊢
    obtain ⟨a, vs, h1, h2, h3⟩ := h
    exact ⟨a, vs, h1, e _ _ h2, Reps.mono e h3⟩
  | .tup ds, v, h => by
    unfold Rep at h ⊢
    obtain ⟨a, vs, h1, h2, h3⟩ := h
    exact ⟨a, vs, h1, same_T e h2, Reps.mono e h3⟩
  | .ins c fn ds, v, h => by
    unfold Rep at h ⊢
    obtain ⟨a, dx, vs, h1, h2, h3, h4⟩ := h
    exact ⟨a, dx, vs, h1, e _ _ h2, h3, Reps.mono e h4⟩
  | .scr ns, v, h => by
    unfold Rep at h ⊢
    obtain ⟨a, h1, h2⟩ := h
    exact ⟨a, h1, same_L e h2⟩
theorem Reps.mono (e : Same G G') : ∀ {ds : List D} {vs : List V}, Reps M G ds vs → Reps M G' ds vs
  | [], _, h => h
  | d :: ds, vs, h => by
    unfold Reps at h ⊢
    obtain ⟨v, r, h1, h2, h3⟩ := h
    exact ⟨v, r, h1, Rep.mono e h2, Reps.mono e h3⟩
end
theorem Reps.nil : Reps M G [] [] := by unfold Reps; rfl
theorem Reps.cons {d : D} {ds : List D} {v : V} {vs : List V} (h : Rep M G d v) (t : Reps M G ds vs) : Reps M G (d :: ds) (v :: vs) := by
  unfold Reps; exact ⟨v, vs, rfl, h, t⟩
theorem Reps.len : ∀ {ds : List D} {vs : List V}, Reps M G ds vs → ds.length = vs.length
  | [], _, h => by unfold Reps at h; subst h; rfl
  | d :: ds, vs, h => by
    unfold Reps at h
    obtain ⟨v, r, rfl, _, h3⟩ := h
    simp [Reps.len h3]
theorem Reps.get : ∀ {ds : List D} {vs : List V} {i : Nat} {d : D}, Reps M G ds vs → ds[i]? = some d → ∃ v, vs[i]? = some v ∧ Rep M G d v
  | [], _, _, _, _, e => by simp at e
  | x :: ds, vs, i, d, h, e => by
    unfold Reps at h
    obtain ⟨v, r, rfl, h2, h3⟩ := h
    cases i with
    | zero => simp at e; subst e; exact ⟨v, rfl, h2⟩
    | succ i => simp at e; obtain ⟨u, h4, h5⟩ := Reps.get h3 e; exact ⟨u, by simpa using h4, h5⟩
theorem Reps.get' {ds : List D} {vs : List V} {i : Nat} {v : V} (h : Reps M G ds vs) (e : vs[i]? = some v) : ∃ d, ds[i]? = some d ∧ Rep M G d v := by
  have hi : i < vs.length := (List.getElem?_eq_some_iff.mp e).1
  have hi' : i < ds.length := by rw [h.len]; exact hi
  obtain ⟨u, h1, h2⟩ := Reps.get h (List.getElem?_eq_getElem hi')
  rw [e] at h1; cases h1
  exact ⟨_, List.getElem?_eq_getElem hi', h2⟩
theorem Reps.append : ∀ {ds es : List D} {vs ws : List V}, Reps M G ds vs → Reps M G es ws → Reps M G (ds ++ es) (vs ++ ws)
  | [], _, vs, _, h, h' => by unfold Reps at h; subst h; exact h'
  | d :: ds, es, vs, ws, h, h' => by
    unfold Reps at h
    obtain ⟨v, r, rfl, h2, h3⟩ := h
    exact Reps.cons h2 (Reps.append h3 h')
theorem Reps.snoc {ds : List D} {vs : List V} {d : D} {v : V} (h : Reps M G ds vs) (h' : Rep M G d v) : Reps M G (ds ++ [d]) (vs ++ [v]) := h.append (.cons h' .nil)
theorem Reps.set : ∀ {ds : List D} {vs : List V} {d : D} {v : V} (i : Nat), Reps M G ds vs → Rep M G d v → Reps M G (ds.set i d) (vs.set i v)
  | [], vs, _, _, _, h, _ => by unfold Reps at h; subst h; exact .nil
  | x :: ds, vs, d, v, i, h, h' => by
    unfold Reps at h
    obtain ⟨u, r, rfl, h2, h3⟩ := h
    cases i with
    | zero => exact Reps.cons h' h3
    | succ i => exact Reps.cons h2 (Reps.set i h3 h')
theorem Reps.take : ∀ {ds : List D} {vs : List V} (n : Nat), Reps M G ds vs → Reps M G (ds.take n) (vs.take n)
  | [], vs, n, h => by unfold Reps at h; subst h; simp; exact .nil
  | x :: ds, vs, n, h => by
    unfold Reps at h
    obtain ⟨u, r, rfl, h2, h3⟩ := h
    cases n with
    | zero => exact .nil
    | succ n => exact Reps.cons h2 (Reps.take n h3)
theorem Reps.drop : ∀ {ds : List D} {vs : List V} (n : Nat), Reps M G ds vs → Reps M G (ds.drop n) (vs.drop n)
  | [], vs, n, h => by unfold Reps at h; subst h; simp; exact .nil
  | x :: ds, vs, n, h => by
    cases n with
    | zero => exact h
    | succ n =>
      unfold Reps at h
      obtain ⟨u, r, rfl, h2, h3⟩ := h
      exact Reps.drop n h3
theorem Reps.ints : ∀ (ns : List Int), Reps M G (ns.map D.int) (ns.map V.int)
  | [] => .nil
  | n :: ns => .cons (by unfold Rep; rfl) (Reps.ints ns)
theorem Reps.reverse {ds : List D} {vs : List V} (h : Reps M G ds vs) : Reps M G ds.reverse vs.reverse := by
  induction ds generalizing vs with
  | nil => unfold Reps at h; subst h; exact .nil
  | cons d ds ih =>
    unfold Reps at h
    obtain ⟨v, r, rfl, h2, h3⟩ := h
    rw [List.reverse_cons, List.reverse_cons]
    exact (ih h3).snoc h2
theorem Reps.rep {ds : List D} {vs : List V} (h : Reps M G ds vs) : ∀ k : Nat, Reps M G (List.replicate k ds).flatten (List.replicate k vs).flatten
  | 0 => .nil
  | k + 1 => by simp only [List.replicate_succ, List.flatten_cons]; exact h.append (Reps.rep h k)
theorem Reps.eraseIdx : ∀ {ds : List D} {vs : List V} (i : Nat), Reps M G ds vs → Reps M G (ds.eraseIdx i) (vs.eraseIdx i)
  | [], vs, i, h => by unfold Reps at h; subst h; simp; exact .nil
  | x :: ds, vs, i, h => by
    unfold Reps at h
    obtain ⟨u, r, rfl, h2, h3⟩ := h
    cases i with
    | zero => exact h3
    | succ i => exact Reps.cons h2 (Reps.eraseIdx i h3)

/-- the heap has grown, what is frozen has grown by new things alone -/
structure Ext (G H G' H' : Hp) : Prop where
  g : Same G G'
  h : Same H H'
  gh : Same G' H'
  new : ∀ a o, G' a = some o → G a = some o ∨ H a = none
theorem Ext.refl (e : Same G H) : Ext G H G H := ⟨Same.refl G, Same.refl H, e, fun _ _ h => .inl h⟩
theorem Ext.trans (x : Ext G H G' H') (y : Ext G' H' G'' H'') : Ext G H G'' H'' :=
  ⟨x.g.trans y.g, x.h.trans y.h, y.gh, fun a o h => by
    rcases y.new a o h with h | h
    · exact x.new a o h
    · exact .inr (x.h.free h)⟩
theorem Ext.none (x : Ext G H G' H') {p : Addr} {o : HO} (g : G p = Option.none) (h : H p = some o) : G' p = Option.none := by
  cases e : G' p with
  | none => rfl
  | some u =>
    rcases x.new p u e with h' | h'
    · rw [g] at h'; cases h'
    · rw [h] at h'; cases h'
theorem same_upd {o : HO} {p : Addr} (h : H p = none) : Same H (upd H p o) := fun b u e => by
  rw [upd_ne (ne_of_none e h)]; exact e
/-- a new thing, at once frozen -/
theorem Ext.alloc (e : Same G H) {p : Addr} (o : HO) (h : H p = Option.none) : Ext G H (upd G p o) (upd H p o) :=
  have hg : G p = Option.none := e.free h
  ⟨same_upd hg, same_upd h, fun b u q => by
    by_cases hb : b = p
    · subst hb; rw [upd_same] at q ⊢; exact q
    · rw [upd_ne hb] at q ⊢; exact e _ _ q,
   fun b u q => by
    by_cases hb : b = p
    · subst hb; exact .inr h
    · rw [upd_ne hb] at q; exact .inl q⟩
/-- a new thing, not frozen -/
theorem Ext.allocH (e : Same G H) {p : Addr} (o : HO) (h : H p = Option.none) : Ext G H G (upd H p o) :=
  ⟨Same.refl G, same_upd h, e.trans (same_upd h), fun _ _ q => .inl q⟩

/-- a result: frozen data, or a new thing that nobody else holds -/
inductive Res where
  | fr (d : D) | nw (d : D)
def Res.d : Res → D
  | .fr d => d
  | .nw d => d
def ResOk (M : Gm) (B G H : Hp) : Res → V → Prop
  | .fr d, v => Rep M G d v
  | .nw (.lst ds), v => ∃ p vs, v = .ref p ∧ H p = some (.lst vs) ∧ G p = none ∧ B p = none ∧ Reps M G ds vs
  | .nw _, _ => False
/-- what can be read now, its parts frozen -/
def Rdb (M : Gm) (G H : Hp) : D → V → Prop
  | .lst ds, v => ∃ a vs, v = .ref a ∧ H a = some (.lst vs) ∧ Reps M G ds vs
  | .ins c fn ds, v => ∃ a dx vs, v = .ref a ∧ H a = some (.ins (M.cl c) dx (fn.zip vs)) ∧ fn.length = vs.length ∧ Reps M G ds vs
  | d, v => Rep M G d v
theorem Rdb.of (e : Same G H) : ∀ {d : D} {v : V}, Rep M G d v → Rdb M G H d v
  | .non, _, h => h
  | .bl _, _, h => h
  | .int _, _, h => h
  | .str _, _, h => h
  | .lst ds, v, h => by unfold Rep at h; obtain ⟨a, vs, h1, h2, h3⟩ := h; exact ⟨a, vs, h1, e _ _ h2, h3⟩
  | .tup ds, v, h => h
  | .ins c fn ds, v, h => by unfold Rep at h; obtain ⟨a, dx, vs, h1, h2, h3, h4⟩ := h; exact ⟨a, dx, vs, h1, e _ _ h2, h3, h4⟩
  | .scr ns, v, h => h
theorem Rdb.mono (g : Same G G') (x : Same H H') : ∀ {d : D} {v : V}, Rdb M G H d v → Rdb M G' H' d v
  | .non, _, h => h
  | .bl _, _, h => h
  | .int _, _, h => h
  | .str _, _, h => h
  | .lst ds, v, h => by obtain ⟨a, vs, h1, h2, h3⟩ := h; exact ⟨a, vs, h1, x _ _ h2, h3.mono g⟩
  | .tup ds, v, h => Rep.mono g (d := .tup ds) h
  | .ins c fn ds, v, h => by obtain ⟨a, dx, vs, h1, h2, h3, h4⟩ := h; exact ⟨a, dx, vs, h1, x _ _ h2, h3, h4.mono g⟩
  | .scr ns, v, h => Rep.mono g (d := .scr ns) h
theorem Rdb.ext (x : Ext G H G' H') {d : D} {v : V} (h : Rdb M G H d v) : Rdb M G' H' d v := h.mono x.g x.h
/-- a new thing becomes frozen -/
theorem ResOk.freeze (x : Ext G0 H G H') : ∀ {r : Res} {v : V}, ResOk M H G H' r v → ∃ G'', Ext G0 H G'' H' ∧ Rep M G'' r.d v ∧ Same G G''
  | .fr d, v, h => ⟨G, x, h, Same.refl G⟩
  | .nw (.lst ds), v, h => by
    obtain ⟨p, vs, rfl, h2, h3, h4, h5⟩ := h
    have s : Same G (upd G p (.lst vs)) := same_upd h3
    refine ⟨upd G p (.lst vs), ⟨x.g.trans s, x.h, fun b u q => ?_, fun b u q => ?_⟩, ?_, s⟩
    · by_cases hb : b = p
      · subst hb; rw [upd_same] at q; cases q; exact h2
      · rw [upd_ne hb] at q; exact x.gh _ _ q
    · by_cases hb : b = p
      · subst hb; exact .inr h4
      · rw [upd_ne hb] at q; exact x.new _ _ q
    · show Rep M _ (.lst ds) _
      unfold Rep
      exact ⟨p, vs, rfl, upd_same, h5.mono s⟩
  | .nw .non, _, h => h.elim
  | .nw (.bl _), _, h => h.elim
  | .nw (.int _), _, h => h.elim
  | .nw (.str _), _, h => h.elim
  | .nw (.tup _), _, h => h.elim
  | .nw (.ins _ _ _), _, h => h.elim
  | .nw (.scr _), _, h => h.elim
theorem ResOk.rdb (e : Same G H) : ∀ {r : Res} {v : V}, ResOk M B G H r v → Rdb M G H r.d v
  | .fr d, v, h => Rdb.of e h
  | .nw (.lst ds), v, h => by obtain ⟨p, vs, rfl, h2, h3, h4, h5⟩ := h; exact ⟨p, vs, rfl, h2, h5⟩
  | .nw .non, _, h => h.elim
  | .nw (.bl _), _, h => h.elim
  | .nw (.int _), _, h => h.elim
  | .nw (.str _), _, h => h.elim
  | .nw (.tup _), _, h => h.elim
  | .nw (.ins _ _ _), _, h => h.elim
  | .nw (.scr _), _, h => h.elim
theorem ResOk.older (s : Same B H) : ∀ {r : Res} {v : V}, ResOk M H G H' r v → ResOk M B G H' r v
  | .fr d, v, h => h
  | .nw (.lst ds), v, h => by obtain ⟨p, vs, rfl, h2, h3, h4, h5⟩ := h; exact ⟨p, vs, rfl, h2, h3, s.free h4, h5⟩
  | .nw .non, _, h => h.elim
  | .nw (.bl _), _, h => h.elim
  | .nw (.int _), _, h => h.elim
  | .nw (.str _), _, h => h.elim
  | .nw (.tup _), _, h => h.elim
  | .nw (.ins _ _ _), _, h => h.elim
  | .nw (.scr _), _, h => h.elim

/-- a part of a nest: frozen, or a list that the nest alone holds -/
inductive Ch where
  | fz (d : D) | ls (row : List D)
def Ch.d : Ch → D
  | .fz d => d
  | .ls row => .lst row
/-- a nest's own kind: a list, an object -/
inductive Kd where
  | lst | ins (c : Nat) (fn : List Str)
def Kd.d : Kd → List D → D
  | .lst, ds => .lst ds
  | .ins c fn, ds => .ins c fn ds
def KdOk (M : Gm) : Kd → HO → List V → Prop
  | .lst, o, vs => o = .lst vs
  | .ins c fn, o, vs => ∃ dx, o = .ins (M.cl c) dx (fn.zip vs) ∧ fn.length = vs.length
theorem zip_inj {fn : List Str} : ∀ {vs ws : List V}, fn.length = vs.length → fn.length = ws.length → fn.zip vs = fn.zip ws → vs = ws := by
  induction fn with
  | nil => intro vs ws h1 h2 _; cases vs <;> cases ws <;> simp_all
  | cons x fn ih =>
    intro vs ws h1 h2 e
    cases vs with
    | nil => cases h1
    | cons v vs =>
      cases ws with
      | nil => cases h2
      | cons w ws =>
        simp only [List.zip_cons_cons, List.cons.injEq, Prod.mk.injEq] at e
        rw [e.1.2, ih (by simpa using h1) (by simpa using h2) e.2]
theorem KdOk.inj {kd : Kd} {o : HO} {vs ws : List V} (h : KdOk M kd o vs) (h' : KdOk M kd o ws) : vs = ws := by
  cases kd with
  | lst => cases h; cases h'; rfl
  | ins c fn =>
    obtain ⟨dx, e, l⟩ := h
    obtain ⟨dx', e', l'⟩ := h'
    rw [e] at e'
    injection e' with _ _ q
    exact zip_inj l l' q

/-- what a name holds: frozen data; an own list (pinned: its cell is told); a borrowed one; a nest of own parts, with the names that stand for parts; a name for a part of the nest that another name holds -/
inductive Sl where
  | frz (d : D) | ow (p : Option Addr) (d : D) | bor (d : D)
  | nst (p : Option Addr) (kd : Kd) (chs : List Ch) (als : List (Nat × Nat))
  | ali (i : Nat)
abbrev Sl.own (d : D) : Sl := .ow none d
def Sl.d : Sl → D
  | .frz d => d
  | .ow _ d => d
  | .bor d => d
  | .nst _ kd chs _ => kd.d (chs.map Ch.d)
  | .ali _ => .non
/-- plain: what it holds can be read -/
def Sl.pl : Sl → Bool
  | .frz _ => true
  | .ow _ _ => true
  | .bor _ => true
  | _ => false
def Sl.isOwn : Sl → Bool
  | .ow _ _ => true
  | .nst _ _ _ _ => true
  | _ => false
abbrev Sls := List (Option Sl)
def Res.sl : Res → Sl
  | .fr d => .frz d
  | .nw d => .own d
def ChOk (M : Gm) (B G H : Hp) : Ch → V → Prop
  | .fz d, v => Rep M G d v
  | .ls row, v => ResOk M B G H (.nw (.lst row)) v
def ChsOk (M : Gm) (B G H : Hp) : List Ch → List V → Prop
  | [], vs => vs = []
  | c :: cs, vs => ∃ v r, vs = v :: r ∧ ChOk M B G H c v ∧ ChsOk M B G H cs r
/-- a nest's parts are apart -/
def Apart (a : Addr) (chs : List Ch) (vs : List V) : Prop :=
  (∀ (i : Nat) (row : List D), chs[i]? = some (Ch.ls row) → vs[i]? ≠ some (V.ref a)) ∧
  ∀ (i j : Nat) (row row' : List D) (v : V), i ≠ j → chs[i]? = some (Ch.ls row) → chs[j]? = some (Ch.ls row') → vs[i]? = some v → vs[j]? = some v → False
def SlOk (M : Gm) (B G H : Hp) : Sl → V → Prop
  | .frz d, v => Rep M G d v
  | .ow p d, v => ResOk M B G H (.nw d) v ∧ ∀ a, p = some a → v = .ref a
  | .bor d, v => Rdb M G B d v
  | .nst p kd chs _, v => ∃ a o vs, v = .ref a ∧ H a = some o ∧ KdOk M kd o vs ∧ G a = none ∧ B a = none ∧ ChsOk M B G H chs vs ∧ Apart a chs vs ∧ ∀ b, p = some b → v = .ref b
  | .ali _, _ => True
/-- the cells that a name holds alone -/
def Ft (M : Gm) (H : Hp) : Sl → V → Addr → Prop
  | .ow _ _, v, b => v = .ref b
  | .nst _ kd chs _, v, b => v = .ref b ∨ ∃ (a : Addr) (o : HO) (vs : List V) (i : Nat) (row : List D), v = .ref a ∧ H a = some o ∧ KdOk M kd o vs ∧ chs[i]? = some (Ch.ls row) ∧ vs[i]? = some (V.ref b)
  | _, _, _ => False
theorem ChsOk.len : ∀ {chs : List Ch} {vs : List V}, ChsOk M B G H chs vs → chs.length = vs.length
  | [], _, h => by cases h; rfl
  | c :: cs, _, h => by obtain ⟨v, r, rfl, _, h⟩ := h; simp [ChsOk.len h]
theorem ChsOk.get : ∀ {chs : List Ch} {vs : List V} {i : Nat} {c : Ch}, ChsOk M B G H chs vs → chs[i]? = some c → ∃ v, vs[i]? = some v ∧ ChOk M B G H c v
  | [], _, _, _, _, e => by simp at e
  | c :: cs, _, 0, _, h, e => by obtain ⟨v, r, rfl, h1, h⟩ := h; simp at e; subst e; exact ⟨v, rfl, h1⟩
  | c :: cs, _, i + 1, _, h, e => by obtain ⟨v, r, rfl, h1, h⟩ := h; simp at e; obtain ⟨u, h2, h3⟩ := ChsOk.get h e; exact ⟨u, by simpa using h2, h3⟩
/-- parts one by one -/
theorem ChsOk.of : ∀ {chs : List Ch} {vs : List V}, chs.length = vs.length → (∀ (i : Nat) (c : Ch) (v : V), chs[i]? = some c → vs[i]? = some v → ChOk M B G H c v) → ChsOk M B G H chs vs
  | [], [], _, _ => rfl
  | [], _ :: _, l, _ => by cases l
  | _ :: _, [], l, _ => by cases l
  | c :: cs, v :: vs, l, h => ⟨v, vs, rfl, h 0 c v rfl rfl, ChsOk.of (by simpa using l) fun i c v e1 e2 => h (i + 1) c v (by simpa using e1) (by simpa using e2)⟩
theorem ChsOk.reps (gh : Same G H) : ∀ {chs : List Ch} {vs : List V}, ChsOk M B G H chs vs → (∀ (i : Nat) (row : List D) (v : V), chs[i]? = some (Ch.ls row) → vs[i]? = some v → Rep M G (.lst row) v) → Reps M G (chs.map Ch.d) vs
  | [], _, h, _ => by cases h; unfold Reps; rfl
  | c :: cs, _, h, k => by
    obtain ⟨v, r, rfl, h1, h⟩ := h
    show Reps M G (c.d :: cs.map Ch.d) (v :: r)
    refine Reps.cons ?_ (ChsOk.reps gh h fun i row u e1 e2 => k (i + 1) row u (by simpa using e1) (by simpa using e2))
    cases c with
    | fz d => exact h1
    | ls row => exact k 0 row v rfl rfl
theorem rowOk {row : List D} {v : V} (h : ResOk M B G H (.nw (.lst row)) v) : ∃ b vs, v = .ref b ∧ H b = some (.lst vs) ∧ G b = none ∧ B b = none ∧ Reps M G row vs := h
/-- what a name holds alone is there, and neither frozen nor older -/
theorem Ft.free {s : Sl} {v : V} {b : Addr} (h : SlOk M B G H s v) (f : Ft M H s v b) : (∃ o, H b = some o) ∧ G b = none ∧ B b = none := by
  cases s with
  | ow p d =>
    have f : v = .ref b := f
    subst f
    obtain ⟨h, _⟩ := h
    cases d with
    | lst ds => obtain ⟨q, vs, e, h2, h3, h4, _⟩ := h; cases e; exact ⟨⟨_, h2⟩, h3, h4⟩
    | _ => exact h.elim
  | nst p kd chs als =>
    obtain ⟨a, o, vs, e, h1, h2, h3, h4, h5, h6, _⟩ := h
    rcases f with f | ⟨a', o', vs', i, row, f1, f2, f3, f4, f5⟩
    · rw [e] at f; cases f; exact ⟨⟨_, h1⟩, h3, h4⟩
    · rw [e] at f1; cases f1
      rw [h1] at f2; cases f2
      cases h2.inj f3
      obtain ⟨u, g1, g2⟩ := h5.get f4
      rw [f5] at g1; cases g1
      obtain ⟨q, ws, e', k1, k2, k3, _⟩ := rowOk g2
      cases e'
      exact ⟨⟨_, k1⟩, k2, k3⟩
  | _ => exact f.elim
/-- what a name holds stays, if its own cells stay and what is frozen grows beside them -/
theorem SlOk.keep {s : Sl} {v : V} (h : SlOk M B G H s v) (g : Same G G') (own : ∀ b, Ft M H s v b → H' b = H b ∧ G' b = none) : SlOk M B G' H' s v := by
  cases s with
  | frz d => exact Rep.mono g h
  | bor d => exact Rdb.mono g (Same.refl B) h
  | ali i => trivial
  | ow p d =>
    obtain ⟨h, hp⟩ := h
    refine ⟨?_, hp⟩
    cases d with
    | lst ds =>
      obtain ⟨q, vs, rfl, h2, h3, h4, h5⟩ := h
      obtain ⟨o1, o2⟩ := own q rfl
      exact ⟨q, vs, rfl, by rw [o1]; exact h2, o2, h4, h5.mono g⟩
    | _ => exact h.elim
  | nst p kd chs als =>
    obtain ⟨a, o, vs, rfl, h1, h2, h3, h4, h5, h6, h7⟩ := h
    obtain ⟨o1, o2⟩ := own a (.inl rfl)
    refine ⟨a, o, vs, rfl, by rw [o1]; exact h1, h2, o2, h4, ChsOk.of h5.len fun i c u e1 e2 => ?_, h6, h7⟩
    obtain ⟨u', g1, g2⟩ := h5.get e1
    rw [e2] at g1; cases g1
    cases c with
    | fz d => exact Rep.mono g g2
    | ls row =>
      obtain ⟨b, ws, rfl, k1, k2, k3, k4⟩ := rowOk g2
      obtain ⟨p1, p2⟩ := own b (.inr ⟨a, o, vs, i, row, rfl, h1, h2, e1, e2⟩)
      exact ⟨b, ws, rfl, by rw [p1]; exact k1, p2, k3, k4.mono g⟩
/-- the cells stay the same ones, if the nest's own cell stays -/
theorem Ft.keep {s : Sl} {v : V} {b : Addr} (e : ∀ a, v = .ref a → H' a = H a) (f : Ft M H' s v b) : Ft M H s v b := by
  cases s with
  | ow p d => exact f
  | nst p kd chs als =>
    rcases f with f | ⟨a, o, vs, i, row, f1, f2, f3⟩
    · exact .inl f
    · exact .inr ⟨a, o, vs, i, row, f1, by rw [← e a f1]; exact f2, f3⟩
  | _ => exact f.elim
theorem Ft.top {s : Sl} {v : V} {a : Addr} (o : s.isOwn = true) (h : v = .ref a) : Ft M H s v a := by
  cases s with
  | ow p d => exact h
  | nst p kd chs als => exact .inl h
  | _ => cases o
theorem Ft.own {s : Sl} {v : V} {a : Addr} (f : Ft M H s v a) : s.isOwn = true := by
  cases s with
  | ow p d => rfl
  | nst p kd chs als => rfl
  | _ => exact f.elim
theorem SlOk.rdb (bh : Same B H) (gh : Same G H) : ∀ {s : Sl} {v : V}, s.pl = true → SlOk M B G H s v → Rdb M G H s.d v
  | .frz d, v, _, h => Rdb.of gh h
  | .ow _ d, v, _, h => ResOk.rdb (r := .nw d) gh h.1
  | .bor d, v, _, h => Rdb.mono (Same.refl G) bh h
theorem SlOk.ext (x : Ext G H G' H') {s : Sl} {v : V} (h : SlOk M B G H s v) : SlOk M B G' H' s v := h.keep x.g fun b f => by
  obtain ⟨⟨o, h1⟩, h2, _⟩ := Ft.free h f
  exact ⟨by rw [x.h _ _ h1, h1], x.none h2 h1⟩

/-- the state of a body -/
structure Fr (B G0 G H : Hp) : Prop where
  bh : Same B H
  gh : Same G H
  g0 : Same G0 G
  new : ∀ a o, G a = some o → G0 a = some o ∨ B a = none
theorem Fr.ext (f : Fr B G0 G H) (x : Ext G H G' H') : Fr B G0 G' H' :=
  ⟨f.bh.trans x.h, x.gh, f.g0.trans x.g, fun a o h => by
    rcases x.new a o h with h | h
    · exact f.new a o h
    · exact .inr (f.bh.free h)⟩
structure Stt (M : Gm) (B G0 G H : Hp) (τ : Sls) (σ : L2.St) : Prop extends Fr B G0 G H where
  len : τ.length = σ.length
  ok : ∀ (i : Nat) (s : Sl), τ[i]? = some (some s) → ∃ v, σ[i]? = some (some v) ∧ SlOk M B G H s v
  ap : ∀ (i j : Nat) (s t : Sl) (v w : V) (b : Addr), i ≠ j → τ[i]? = some (some s) → τ[j]? = some (some t) → σ[i]? = some (some v) → σ[j]? = some (some w) → Ft M H s v b → Ft M H t w b → False
  al : ∀ (j i : Nat) (p : Option Addr) (kd : Kd) (chs : List Ch) (als : List (Nat × Nat)) (k : Nat), τ[j]? = some (some (.ali i)) → τ[i]? = some (some (.nst p kd chs als)) → als.lookup j = some k →
    ∃ a o vs v, σ[i]? = some (some (.ref a)) ∧ H a = some o ∧ KdOk M kd o vs ∧ vs[k]? = some v ∧ σ[j]? = some (some v)
theorem Stt.ext {τ : Sls} {σ : L2.St} (s : Stt M B G0 G H τ σ) (x : Ext G H G' H') : Stt M B G0 G' H' τ σ :=
  ⟨s.toFr.ext x, s.len, fun i t e => by
    obtain ⟨v, h1, h2⟩ := s.ok i t e
    exact ⟨v, h1, h2.ext x⟩, fun i j t u v w b hij e1 e2 e3 e4 f1 f2 => by
    obtain ⟨v', h1, h2⟩ := s.ok i t e1
    rw [e3] at h1; cases h1
    obtain ⟨w', h3, h4⟩ := s.ok j u e2
    rw [e4] at h3; cases h3
    refine s.ap i j t u v w b hij e1 e2 e3 e4 (Ft.keep (fun a ea => ?_) f1) (Ft.keep (fun a ea => ?_) f2)
    · obtain ⟨⟨o, q⟩, _⟩ := Ft.free h2 (Ft.top f1.own ea)
      rw [q, x.h _ _ q]
    · obtain ⟨⟨o, q⟩, _⟩ := Ft.free h4 (Ft.top f2.own ea)
      rw [q, x.h _ _ q],
   fun j i p kd chs als k e1 e2 e3 => by
    obtain ⟨a, o, vs, v, h1, h2, h3⟩ := s.al j i p kd chs als k e1 e2 e3
    exact ⟨a, o, vs, v, h1, x.h _ _ h2, h3⟩⟩
/-- a name takes a result; its cells are none that another name holds -/
theorem Stt.set {τ : Sls} {σ : L2.St} (s : Stt M B G0 G H τ σ) {i : Nat} {t : Sl} {v : V} (hv : SlOk M B G H t v)
    (ap : ∀ (j : Nat) (u : Sl) (w : V) (b : Addr), j ≠ i → τ[j]? = some (some u) → σ[j]? = some (some w) → Ft M H t v b → Ft M H u w b → False)
    (al : ∀ k, t ≠ .ali k) (als : ∀ p kd chs al, t = .nst p kd chs al → al = []) : Stt M B G0 G H (τ.set i (some t)) (σ.set i (some v)) := by
  have hl := s.len
  have gτ : ∀ {j : Nat} {u : Sl}, (τ.set i (some t))[j]? = some (some u) → (j = i ∧ u = t ∧ i < τ.length) ∨ (j ≠ i ∧ τ[j]? = some (some u)) := fun {j u} e => by
    by_cases hj : i = j
    · subst hj
      have hi : i < τ.length := by have := (List.getElem?_eq_some_iff.mp e).1; simpa using this
      rw [List.getElem?_set_self hi] at e
      cases e
      exact .inl ⟨rfl, rfl, hi⟩
    · rw [List.getElem?_set_ne hj] at e
      exact .inr ⟨Ne.symm hj, e⟩
  have gσ : ∀ {j : Nat}, j ≠ i → (σ.set i (some v))[j]? = σ[j]? := fun hj => List.getElem?_set_ne (Ne.symm hj)
  have gi : i < τ.length → (σ.set i (some v))[i]? = some (some v) := fun hi => List.getElem?_set_self (by omega)
  refine ⟨s.toFr, by simp [hl], fun j u e => ?_, fun j k u w x y b hjk e1 e2 e3 e4 f1 f2 => ?_, fun j k p kd chs ass m e1 e2 e3 => ?_⟩
  · rcases gτ e with ⟨rfl, rfl, hi⟩ | ⟨hj, e⟩
    · exact ⟨v, gi hi, hv⟩
    · obtain ⟨x, h1, h2⟩ := s.ok j u e
      exact ⟨x, by rw [gσ hj]; exact h1, h2⟩
  · rcases gτ e1 with ⟨q1, rfl, hi⟩ | ⟨hj, e1'⟩
    · rcases gτ e2 with ⟨q2, rfl, hi⟩ | ⟨hk, e2'⟩
      · exact hjk (q1.trans q2.symm)
      · rw [q1, gi hi] at e3; cases e3
        rw [gσ hk] at e4
        exact ap k w y b hk e2' e4 f1 f2
    · rw [gσ hj] at e3
      rcases gτ e2 with ⟨q2, rfl, hi⟩ | ⟨hk, e2'⟩
      · rw [q2, gi hi] at e4; cases e4
        exact ap j u x b hj e1' e3 f2 f1
      · rw [gσ hk] at e4
        exact s.ap j k u w x y b hjk e1' e2' e3 e4 f1 f2
  · rcases gτ e1 with ⟨rfl, e, _⟩ | ⟨hj, e1⟩
    · exact (al k e.symm).elim
    · rcases gτ e2 with ⟨rfl, e, _⟩ | ⟨hk, e2⟩
      · rw [als p kd chs ass e.symm] at e3; cases e3
      · rw [gσ hk, gσ hj]
        exact s.al j k p kd chs ass m e1 e2 e3
/-- .. of frozen data -/
theorem Stt.setF {τ : Sls} {σ : L2.St} (s : Stt M B G0 G H τ σ) {i : Nat} {d : D} {v : V} (hv : Rep M G d v) : Stt M B G0 G H (τ.set i (some (.frz d))) (σ.set i (some v)) :=
  s.set (t := .frz d) hv (fun _ _ _ _ _ _ _ f _ => f.elim) (fun _ e => by cases e) (fun _ _ _ _ e => by cases e)
/-- .. from a state ahead of the result's making -/
theorem Stt.setRes {τ : Sls} {σ : L2.St} (s : Stt M B G0 G H τ σ) (x : Ext G H G' H') {i : Nat} {r : Res} {v : V} (hv : ResOk M H G' H' r v) : Stt M B G0 G' H' (τ.set i (some r.sl)) (σ.set i (some v)) := by
  cases r with
  | fr d => exact (s.ext x).setF hv
  | nw d =>
    refine (s.ext x).set (t := .own d) ⟨hv.older s.bh, fun a e => by cases e⟩ ?_ (fun _ e => by cases e) (fun _ _ _ _ e => by cases e)
    intro j u w b hj e1 e2 f1 f2
    have f1 : v = .ref b := f1
    subst f1
    obtain ⟨w', h1, h2⟩ := s.ok j u e1
    rw [e2] at h1; cases h1
    cases d with
    | lst ds =>
      obtain ⟨q, ws, h4, _, _, h5, _⟩ := hv
      cases h4
      have f3 : Ft M H u w b := Ft.keep (fun a ea => by
        obtain ⟨⟨o, q⟩, _⟩ := Ft.free h2 (Ft.top f2.own ea)
        rw [q, x.h _ _ q]) f2
      obtain ⟨⟨o, q⟩, _⟩ := Ft.free h2 f3
      rw [h5] at q; cases q
    | _ => exact hv.elim
/-- the cells of one name change: written, or frozen -/
theorem Stt.chg {τ : Sls} {σ : L2.St} (s : Stt M B G0 G H τ σ) {i : Nat} {t t' : Sl} {v : V} (e : τ[i]? = some (some t)) (hσ : σ[i]? = some (some v))
    (sH : ∀ b, ¬ Ft M H t v b → H' b = H b) (sg : Same G G') (hG : ∀ b o, G' b = some o → G b = some o ∨ (Ft M H t v b ∧ H' b = some o))
    (hv : SlOk M B G' H' t' v) (ft : ∀ b, Ft M H' t' v b → Ft M H t v b ∨ ∀ (j : Nat) (u : Sl) (w : V), j ≠ i → τ[j]? = some (some u) → σ[j]? = some (some w) → ¬ Ft M H u w b)
    (al : ∀ (j : Nat) (p : Option Addr) (kd : Kd) (chs : List Ch) (als : List (Nat × Nat)) (k : Nat), t' = .nst p kd chs als → τ[j]? = some (some (.ali i)) → als.lookup j = some k →
      ∃ a o vs u, v = .ref a ∧ H' a = some o ∧ KdOk M kd o vs ∧ vs[k]? = some u ∧ σ[j]? = some (some u))
    (na : ∀ k, t' ≠ .ali k) : Stt M B G0 G' H' (τ.set i (some t')) σ := by
  obtain ⟨v0, hv0, hs0⟩ := s.ok i t e
  rw [hσ] at hv0; cases hv0
  have hlt : i < τ.length := (List.getElem?_eq_some_iff.mp e).1
  have gτ : ∀ {j : Nat} {u : Sl}, (τ.set i (some t'))[j]? = some (some u) → (j = i ∧ u = t') ∨ (j ≠ i ∧ τ[j]? = some (some u)) := fun {j u} q => by
    by_cases hj : i = j
    · subst hj
      rw [List.getElem?_set_self hlt] at q
      cases q
      exact .inl ⟨rfl, rfl⟩
    · rw [List.getElem?_set_ne hj] at q
      exact .inr ⟨Ne.symm hj, q⟩
  have keepH : ∀ {j : Nat} {u : Sl} {w : V} {b : Addr}, j ≠ i → τ[j]? = some (some u) → σ[j]? = some (some w) → Ft M H u w b → H' b = H b ∧ ¬ Ft M H t v b := fun {j u w b} hj q1 q2 f =>
    have n : ¬ Ft M H t v b := fun f' => s.ap j i u t w v b hj q1 e q2 hσ f f'
    ⟨sH b n, n⟩
  refine ⟨⟨fun b o q => ?_, fun b o q => ?_, s.g0.trans sg, fun b o q => ?_⟩, by simp [s.len], fun j u q => ?_, fun j k u w x y b hjk q1 q2 q3 q4 f1 f2 => ?_, fun j k p kd chs als m q1 q2 q3 => ?_⟩
  · rw [sH b (fun f => by rw [(Ft.free hs0 f).2.2] at q; cases q)]
    exact s.bh _ _ q
  · rcases hG b o q with q | ⟨_, q⟩
    · rw [sH b (fun f => by rw [(Ft.free hs0 f).2.1] at q; cases q)]
      exact s.gh _ _ q
    · exact q
  · rcases hG b o q with q | ⟨f, _⟩
    · exact s.new _ _ q
    · exact .inr (Ft.free hs0 f).2.2
  · rcases gτ q with ⟨rfl, rfl⟩ | ⟨hj, q⟩
    · exact ⟨v, hσ, hv⟩
    · obtain ⟨x, g1, g2⟩ := s.ok j u q
      refine ⟨x, g1, g2.keep sg fun b f => ?_⟩
      obtain ⟨k1, k2⟩ := keepH hj q g1 f
      refine ⟨k1, ?_⟩
      cases eg : G' b with
      | none => rfl
      | some o =>
        rcases hG b o eg with h | ⟨h, _⟩
        · rw [(Ft.free g2 f).2.1] at h; cases h
        · exact (k2 h).elim
  · have back : ∀ {j : Nat} {u : Sl} {w : V}, j ≠ i → τ[j]? = some (some u) → σ[j]? = some (some w) → Ft M H' u w b → Ft M H u w b := fun {j u w} hj q1 q2 f =>
      Ft.keep (fun a ea => (keepH hj q1 q2 (Ft.top f.own ea)).1) f
    rcases gτ q1 with ⟨rfl, rfl⟩ | ⟨hj, q1'⟩
    · rcases gτ q2 with ⟨rfl, rfl⟩ | ⟨hk, q2'⟩
      · exact hjk rfl
      · rw [hσ] at q3; cases q3
        rcases ft b f1 with f1 | f1
        · exact s.ap j k t w v y b hjk e q2' hσ q4 f1 (back hk q2' q4 f2)
        · exact f1 k w y hk q2' q4 (back hk q2' q4 f2)
    · rcases gτ q2 with ⟨rfl, rfl⟩ | ⟨hk, q2'⟩
      · rw [hσ] at q4; cases q4
        rcases ft b f2 with f2 | f2
        · exact s.ap j k u t x v b hjk q1' e q3 hσ (back hj q1' q3 f1) f2
        · exact f2 j u x hj q1' q3 (back hj q1' q3 f1)
      · exact s.ap j k u w x y b hjk q1' q2' q3 q4 (back hj q1' q3 f1) (back hk q2' q4 f2)
  · rcases gτ q1 with ⟨_, q⟩ | ⟨hj, q1'⟩
    · exact (na k q.symm).elim
    · rcases gτ q2 with ⟨rfl, q⟩ | ⟨hk, q2'⟩
      · obtain ⟨a, o, vs, u, h1, h2⟩ := al j p kd chs als m q.symm q1' q3
        exact ⟨a, o, vs, u, by rw [hσ, h1], h2⟩
      · obtain ⟨a, o, vs, u, h1, h2, h3⟩ := s.al j k p kd chs als m q1' q2' q3
        refine ⟨a, o, vs, u, h1, ?_, h3⟩
        obtain ⟨w, g1, g2⟩ := s.ok k _ q2'
        rw [h1] at g1; cases g1
        rw [(keepH hk q2' h1 (Ft.top rfl rfl)).1]
        exact h2
end
end Pl

set_option maxHeartbeats 4000000
namespace Pl
open PySem L2

abbrev WE := Sls → (Res → Prop) → Prop
abbrev WR := Sls → (D → Prop) → Prop
abbrev WT := Sls → (Bool → Prop) → Prop
abbrev WA := Sls → (List Sl → Prop) → Prop
abbrev WL := Sls → (List D → Prop) → Prop

section
variable (M : Gm)
def LfE (t : TE) (w : WE) : Prop := ∀ B G0 G H τ σ (Q : Res → Prop) (Q' : VK), Stt M B G0 G H τ σ → w τ Q →
  (∀ r v G' H', Q r → Ext G H G' H' → ResOk M H G' H' r v → Q' v H') → t σ H Q'
def LfR (t : TE) (w : WR) : Prop := ∀ B G0 G H τ σ (Q : D → Prop) (Q' : VK), Stt M B G0 G H τ σ → w τ Q →
  (∀ d v G' H', Q d → Ext G H G' H' → Rdb M G' H' d v → Q' v H') → t σ H Q'
def LfT (t : TT) (w : WT) : Prop := ∀ B G0 G H τ σ (Q : Bool → Prop) (Q' : Bool → Hp → Prop), Stt M B G0 G H τ σ → w τ Q →
  (∀ b G' H', Q b → Ext G H G' H' → Q' b H') → t σ H Q'
def Args (G H : Hp) : List Sl → List V → Prop
  | [], vs => vs = []
  | s :: ss, vs => ∃ v r, vs = v :: r ∧ s.isOwn = false ∧ SlOk M H G H s v ∧ Args G H ss r
def LfA (t : TA) (w : WA) : Prop := ∀ B G0 G H τ σ (Q : List Sl → Prop) (Q' : List V → Hp → Prop), Stt M B G0 G H τ σ → w τ Q →
  (∀ ss vs G' H', Q ss → Ext G H G' H' → Args M G' H' ss vs → Q' vs H') → t σ H Q'
def Rdbs (G H : Hp) : List D → List V → Prop
  | [], vs => vs = []
  | d :: ds, vs => ∃ v r, vs = v :: r ∧ Rdb M G H d v ∧ Rdbs G H ds r
/-- arguments of a built-in: read alone -/
def LfL (t : TA) (w : WL) : Prop := ∀ B G0 G H τ σ (Q : List D → Prop) (Q' : List V → Hp → Prop), Stt M B G0 G H τ σ → w τ Q →
  (∀ ds vs G' H', Q ds → Ext G H G' H' → Rdbs M G' H' ds vs → Q' vs H') → t σ H Q'
/-- items of a display, frozen -/
def LfI (t : TA) (w : WL) : Prop := ∀ B G0 G H τ σ (Q : List D → Prop) (Q' : List V → Hp → Prop), Stt M B G0 G H τ σ → w τ Q →
  (∀ ds vs G' H', Q ds → Ext G H G' H' → Reps M G' ds vs → Q' vs H') → t σ H Q'
end
section
variable {M : Gm} {G G' H H' : Hp}
theorem Args.ext (x : Ext G H G' H') : ∀ {ss : List Sl} {vs : List V}, Args M G H ss vs → Args M G' H' ss vs
  | [], _, h => h
  | s :: ss, vs, h => by
    obtain ⟨v, r, rfl, h1, h2, h3⟩ := h
    refine ⟨v, r, rfl, h1, ?_, Args.ext x h3⟩
    cases s with
    | frz d => exact Rep.mono x.g h2
    | ow p d => cases h1
    | nst p kd chs als => cases h1
    | bor d => exact Rdb.ext x h2
    | ali i => trivial
theorem Rdbs.ext (x : Ext G H G' H') : ∀ {ds : List D} {vs : List V}, Rdbs M G H ds vs → Rdbs M G' H' ds vs
  | [], _, h => h
  | d :: ds, vs, h => by
    obtain ⟨v, r, rfl, h2, h3⟩ := h
    exact ⟨v, r, rfl, h2.ext x, Rdbs.ext x h3⟩
/-- an expression's value, frozen -/
theorem LfE.frz {t : TE} {w : WE} (h : LfE M t w) {B G0 G H : Hp} {τ : Sls} {σ : L2.St} {Q : D → Prop} {Q' : VK} (s : Stt M B G0 G H τ σ) (hw : w τ fun r => Q r.d)
    (k : ∀ d v G' H', Q d → Ext G H G' H' → Rep M G' d v → Q' v H') : t σ H Q' :=
  h B G0 G H τ σ _ Q' s hw fun r v G' H' q x ok => by
    obtain ⟨G'', x2, rp, _⟩ := ok.freeze x
    exact k r.d v G'' H' q x2 rp
theorem LfE.lr {t : TE} {w : WE} (h : LfE M t w) : LfR M t (fun τ Q => w τ fun r => Q r.d) := fun B G0 G H τ σ Q Q' s hw k =>
  h B G0 G H τ σ _ Q' s hw fun r v G' H' q x ok => k r.d v G' H' q x (ok.rdb x.gh)
end

structure LE (M : Gm) (X : Cx) (e : Expr) (t : TE) (w : WE) : Prop where
  pe : X.K = M.K → PE X e t
  lf : LfE M t w
structure LR (M : Gm) (X : Cx) (e : Expr) (t : TE) (w : WR) : Prop where
  pe : X.K = M.K → PE X e t
  lf : LfR M t w
structure LT (M : Gm) (X : Cx) (e : Expr) (t : TT) (w : WT) : Prop where
  pt : X.K = M.K → PT X e t
  lf : LfT M t w
structure LA (M : Gm) (X : Cx) (es : List Expr) (t : TA) (w : WA) : Prop where
  pa : X.K = M.K → PA X es t
  lf : LfA M t w
structure LL (M : Gm) (X : Cx) (es : List Expr) (t : TA) (w : WL) : Prop where
  pa : X.K = M.K → PA X es t
  lf : LfL M t w
structure LI (M : Gm) (X : Cx) (es : List Expr) (t : TA) (w : WL) : Prop where
  pa : X.K = M.K → PA X es t
  lf : LfI M t w

section
variable {M : Gm} {X : Cx} {a b c e : Expr} {es : List Expr} {pos : Pos} {ta tb tc te : TE} {wa wb wc we : WE} {ra rb rc : WR}

/-- what is read: an expression's value -/
def rE (w : WE) : WR := fun τ Q => w τ fun r => Q r.d
theorem lr_e (h : LE M X e te we) : LR M X e te (rE we) := ⟨fun hK => by cases M; cases hK; exact (h.pe rfl), h.lf.lr⟩

/-! ### names, constants -/
def wNm (i : Nat) : WE := fun τ Q => match τ[i]? with
  | some (some (.frz d)) => Q (.fr d)
  | _ => False
/-- what a name for a part of a nest holds -/
def atAli (τ : Sls) (i j : Nat) (Q : List D → Prop) : Prop := match τ[j]? with
  | some (some (.nst _ _ chs als)) => (match als.lookup i with
    | some k => ∃ row, chs[k]? = some (.ls row) ∧ Q row
    | none => False)
  | _ => False
theorem atAli_ok {τ : Sls} {σ : L2.St} {i j : Nat} {Q : List D → Prop} (s : Stt M B G0 G H τ σ) (e : τ[i]? = some (some (.ali j))) (h : atAli τ i j Q) : ∃ row b vs, Q row ∧ σ[i]? = some (some (.ref b)) ∧ H b = some (.lst vs) ∧ Reps M G row vs := by
  unfold atAli at h
  split at h
  · rename_i p kd chs als q
    split at h
    · rename_i k hk
      obtain ⟨row, h1, h2⟩ := h
      obtain ⟨a, o, vs, v, g1, g2, g3, g4, g5⟩ := s.al i j _ _ _ _ k e q hk
      obtain ⟨v', k1, k2⟩ := s.ok j _ q
      rw [g1] at k1; cases k1
      obtain ⟨a', o', vs', e', m1, m2, m3, m4, m5, m6, m7⟩ := k2
      cases e'
      rw [g2] at m1; cases m1
      cases g3.inj m2
      obtain ⟨u, n1, n2⟩ := m5.get h1
      rw [g4] at n1; cases n1
      obtain ⟨b, ws, rfl, r1, r2, r3, r4⟩ := rowOk n2
      exact ⟨row, b, ws, h2, g5, r1, r4⟩
    · exact h.elim
  · exact h.elim
def rNm (i : Nat) : WR := fun τ Q => match τ[i]? with
  | some (some (.frz d)) => Q d
  | some (some (.ow _ d)) => Q d
  | some (some (.bor d)) => Q d
  | some (some (.ali j)) => atAli τ i j fun row => Q (.lst row)
  | _ => False
theorem lf_nm (M : Gm) (i : Nat) : LfE M (tVar i) (wNm i) := fun B G0 G H τ σ Q Q' s hw k => by
  unfold wNm at hw
  split at hw
  · rename_i d e
    obtain ⟨v, h1, h2⟩ := s.ok i _ e
    exact ⟨v, h1, k (.fr d) v G H hw (Ext.refl s.gh) h2⟩
  · exact hw.elim
theorem lf_rnm (M : Gm) (i : Nat) : LfR M (tVar i) (rNm i) := fun B G0 G H τ σ Q Q' s hw k => by
  unfold rNm at hw
  split at hw
  · rename_i d e
    obtain ⟨v, h1, h2⟩ := s.ok i _ e
    exact ⟨v, h1, k d v G H hw (Ext.refl s.gh) (h2.rdb s.bh s.gh rfl)⟩
  · rename_i d e
    obtain ⟨v, h1, h2⟩ := s.ok i _ e
    exact ⟨v, h1, k d v G H hw (Ext.refl s.gh) (h2.rdb s.bh s.gh rfl)⟩
  · rename_i d e
    obtain ⟨v, h1, h2⟩ := s.ok i _ e
    exact ⟨v, h1, k d v G H hw (Ext.refl s.gh) (h2.rdb s.bh s.gh rfl)⟩
  · rename_i j e
    obtain ⟨row, b, vs, q, h1, h2, h3⟩ := atAli_ok s e hw
    exact ⟨_, h1, k (.lst row) _ G H q (Ext.refl s.gh) ⟨b, vs, rfl, h2, h3⟩⟩
  · exact hw.elim
theorem le_nm (i : Nat) (h : PE X e (tVar i)) : LE M X e (tVar i) (wNm i) := ⟨fun hK => by cases M; cases hK; exact h, lf_nm _ i⟩
theorem lr_nm (i : Nat) (h : PE X e (tVar i)) : LR M X e (tVar i) (rNm i) := ⟨fun hK => by cases M; cases hK; exact h, lf_rnm _ i⟩
def wC (d : D) : WE := fun _ Q => Q (.fr d)
theorem lf_c {M : Gm} {d : D} {v : V} (h : ∀ G, Rep M G d v) : LfE M (tC v) (wC d) := fun B G0 G H τ σ Q Q' s hw k => k (.fr d) v G H hw (Ext.refl s.gh) (h G)
theorem rep_int {M : Gm} {G : Hp} (i : Int) : Rep M G (.int i) (.int i) := by unfold Rep; rfl
theorem rep_bl {M : Gm} {G : Hp} (i : Bool) : Rep M G (.bl i) (.bl i) := by unfold Rep; rfl
theorem rep_str {M : Gm} {G : Hp} (i : Str) : Rep M G (.str i) (.str i) := by unfold Rep; rfl
theorem rep_non {M : Gm} {G : Hp} : Rep M G .non .non := by unfold Rep; rfl
theorem le_int {i : Int} {j} : LE M X (.Constant (.int i) j pos) (tC (.int i)) (wC (.int i)) := ⟨fun hK => by cases M; cases hK; exact pe_int, lf_c fun _ => rep_int i⟩
theorem le_bl {b : Bool} {j} : LE M X (.Constant (.bool b) j pos) (tC (.bl b)) (wC (.bl b)) := ⟨fun hK => by cases M; cases hK; exact pe_bl, lf_c fun _ => rep_bl b⟩
theorem le_non {j} : LE M X (.Constant .none j pos) (tC .non) (wC .non) := ⟨fun hK => by cases M; cases hK; exact pe_non, lf_c fun _ => rep_non⟩
theorem le_str {x : Str} {j} : LE M X (.Constant (.str x) j pos) (tC (.str x)) (wC (.str x)) := ⟨fun hK => by cases M; cases hK; exact pe_str, lf_c fun _ => rep_str x⟩

/-! ### what a Rdb, a Rep is -/
variable {M : Gm} {G H G' H' : Hp}
theorem rdb_int {i : Int} {v : V} (h : Rdb M G H (.int i) v) : v = .int i := by have h : Rep M G (.int i) v := h; unfold Rep at h; exact h
theorem rdb_bl {i : Bool} {v : V} (h : Rdb M G H (.bl i) v) : v = .bl i := by have h : Rep M G (.bl i) v := h; unfold Rep at h; exact h
theorem rdb_str {i : Str} {v : V} (h : Rdb M G H (.str i) v) : v = .str i := by have h : Rep M G (.str i) v := h; unfold Rep at h; exact h
theorem rdb_non {v : V} (h : Rdb M G H .non v) : v = .non := by have h : Rep M G .non v := h; unfold Rep at h; exact h
theorem rdb_lst {ds : List D} {v : V} (h : Rdb M G H (.lst ds) v) : ∃ a vs, v = .ref a ∧ H a = some (.lst vs) ∧ Reps M G ds vs := h
theorem rdb_tup {ds : List D} {v : V} (h : Rdb M G H (.tup ds) v) : ∃ a vs, v = .ref a ∧ SqT M.K G a vs ∧ Reps M G ds vs := by have h : Rep M G (.tup ds) v := h; unfold Rep at h; exact h
theorem rdb_scr {ds : List Int} {v : V} (h : Rdb M G H (.scr ds) v) : ∃ a, v = .ref a ∧ SqL M.K G a (ds.map V.int) := by have h : Rep M G (.scr ds) v := h; unfold Rep at h; exact h
theorem rdb_tupH (e : Same G H) {ds : List D} {v : V} (h : Rdb M G H (.tup ds) v) : ∃ a vs, v = .ref a ∧ SqT M.K H a vs ∧ Reps M G ds vs := by
  obtain ⟨a, vs, h1, h2, h3⟩ := rdb_tup h; exact ⟨a, vs, h1, same_T e h2, h3⟩
theorem rdb_scrH (e : Same G H) {ds : List Int} {v : V} (h : Rdb M G H (.scr ds) v) : ∃ a, v = .ref a ∧ SqL M.K H a (ds.map V.int) := by
  obtain ⟨a, h1, h2⟩ := rdb_scr h; exact ⟨a, h1, same_L e h2⟩

/-! ### operators by data -/
def OpLf (M : Gm) (r : R2) (f : D → D → (Res → Prop) → Prop) : Prop := ∀ G H x y vx vy (Q : Res → Prop) (Q' : VK), Same G H → Rdb M G H x vx → Rdb M G H y vy → f x y Q →
  (∀ r v G' H', Q r → Ext G H G' H' → ResOk M H G' H' r v → Q' v H') → r vx vy H Q'
def w2 (f : D → D → (Res → Prop) → Prop) (wa wb : WR) : WE := fun τ Q => wa τ fun x => wb τ fun y => f x y Q
theorem lf_op {r : R2} {f : D → D → (Res → Prop) → Prop} (ho : OpLf M r f) (ha : LfR M ta ra) (hb : LfR M tb rb) : LfE M (tOp r ta tb) (w2 f ra rb) := fun B G0 G H τ σ Q Q' s hw k =>
  ha B G0 G H τ σ _ _ s hw fun x vx G1 H1 q1 x1 r1 => hb B G0 G1 H1 τ σ _ _ (s.ext x1) q1 fun y vy G2 H2 q2 x2 r2 =>
    ho G2 H2 x y vx vy Q Q' x2.gh (r1.ext x2) r2 q2 fun r v G3 H3 q3 x3 ok => k r v G3 H3 q3 ((x1.trans x2).trans x3) (ok.older (x1.h.trans x2.h))
theorem fin_fr {d : D} {v : V} {Q : Res → Prop} {Q' : VK} (gh : Same G H) (q : Q (.fr d)) (h : Rep M G d v) (k : ∀ r v G' H', Q r → Ext G H G' H' → ResOk M H G' H' r v → Q' v H') : Q' v H :=
  k (.fr d) v G H q (Ext.refl gh) h
/-- a new list -/
theorem fin_nw {ds : List D} {vs : List V} {p : Addr} {Q : Res → Prop} {Q' : VK} (gh : Same G H) (q : Q (.nw (.lst ds))) (h : Reps M G ds vs) (hp : H p = none)
    (k : ∀ r v G' H', Q r → Ext G H G' H' → ResOk M H G' H' r v → Q' v H') : Q' (.ref p) (upd H p (.lst vs)) :=
  k (.nw (.lst ds)) (.ref p) G _ q (Ext.allocH gh _ hp) ⟨p, vs, rfl, upd_same, gh.free hp, hp, h⟩
/-- a new tuple -/
theorem fin_tup {ds : List D} {vs : List V} {p : Addr} {Q : Res → Prop} {Q' : VK} (gh : Same G H) (q : Q (.fr (.tup ds))) (h : Reps M G ds vs) (hp : H p = none)
    (k : ∀ r v G' H', Q r → Ext G H G' H' → ResOk M H G' H' r v → Q' v H') : Q' (.ref p) (upd H p (.tup vs)) :=
  k (.fr (.tup ds)) (.ref p) (upd G p (.tup vs)) _ q (Ext.alloc gh _ hp) (by
    show Rep M _ (.tup ds) _
    unfold Rep
    exact ⟨p, vs, rfl, SqT.of upd_same, h.mono (same_upd (gh.free hp))⟩)

def addF : D → D → (Res → Prop) → Prop
  | .int i, .int j, Q => Q (.fr (.int (i + j)))
  | .lst a, .lst b, Q => a.length + b.length ≤ 16777216 ∧ Q (.nw (.lst (a ++ b)))
  | .str a, .str b, Q => a.length + b.length ≤ 16777216 ∧ Q (.fr (.str (a ++ b)))
  | .tup a, .tup b, Q => a ≠ [] ∧ b ≠ [] ∧ a.length + b.length ≤ 16777216 ∧ Q (.fr (.tup (a ++ b)))
  | _, _, _ => False
abbrev rAddI : R2 := rI0 fun i j => .int (i + j)
abbrev rAddS : R2 := fun x y H Q => ∃ i j, x = .str i ∧ y = .str j ∧ i.length + j.length ≤ sizeLine ∧ Q (.str (i ++ j)) H
def rAddAll (K : PySem.W.Frag) : R2 := fun x y H Q => rAddI x y H Q ∨ rAddS x y H Q ∨ rCat x y H Q ∨ rCatT K x y H Q
theorem line24 : (16777216 : Nat) ≤ sizeLine := by rw [sizeLine_eq]; decide
theorem op_addAll : OpR X (binaryOp .Add) (rAddAll X.K) := op_add.or (op_add_str.or (op_cat.or op_catT))
theorem ol_add : OpLf M (rAddAll M.K) addF := fun G H x y vx vy Q Q' gh hx hy hw k => by
  unfold addF at hw
  split at hw
  · cases rdb_int hx; cases rdb_int hy
    exact .inl ⟨_, _, rfl, rfl, fin_fr gh hw (rep_int _) k⟩
  · obtain ⟨p, vs, rfl, h1, h2⟩ := rdb_lst hx
    obtain ⟨q, ws, rfl, h3, h4⟩ := rdb_lst hy
    obtain ⟨hl, hw⟩ := hw
    exact .inr (.inr (.inl ⟨p, q, vs, ws, rfl, rfl, h1, h3, by rw [← h2.len, ← h4.len]; exact Nat.le_trans hl line24, fun l hl => fin_nw gh hw (h2.append h4) hl k⟩))
  · cases rdb_str hx; cases rdb_str hy
    exact .inr (.inl ⟨_, _, rfl, rfl, Nat.le_trans hw.1 line24, fin_fr gh hw.2 (rep_str _) k⟩)
  · obtain ⟨p, vs, rfl, h1, h2⟩ := rdb_tupH gh hx
    obtain ⟨q, ws, rfl, h3, h4⟩ := rdb_tupH gh hy
    obtain ⟨ha, hb, hl, hw⟩ := hw
    have na : vs ≠ [] := fun e => ha (List.eq_nil_of_length_eq_zero (by rw [h2.len, e]; rfl))
    have nb : ws ≠ [] := fun e => hb (List.eq_nil_of_length_eq_zero (by rw [h4.len, e]; rfl))
    exact .inr (.inr (.inr ⟨p, q, vs, ws, rfl, rfl, h1, h3, na, by rw [← h2.len, ← h4.len]; exact Nat.le_trans hl line24, fun e => absurd e nb, fun _ l hl => fin_tup gh hw (h2.append h4) hl k⟩))
  · exact hw.elim
theorem le_add (ha : LR M X a ta ra) (hb : LR M X b tb rb) : LE M X (.BinOp a .Add b pos) (tOp (rAddAll M.K) ta tb) (w2 addF ra rb) := ⟨fun hK => by cases M; cases hK; exact pe_op op_addAll (ha.pe rfl) (hb.pe rfl), lf_op ol_add ha.lf hb.lf⟩

/-- a rule of two ints -/
def intF (C : Int → Int → Prop) (g : Int → Int → Int) : D → D → (Res → Prop) → Prop
  | .int i, .int j, Q => C i j ∧ Q (.fr (.int (g i j)))
  | _, _, _ => False
theorem ol_int {C : Int → Int → Prop} {g : Int → Int → Int} : OpLf M (rI C fun i j => .int (g i j)) (intF C g) := fun G H x y vx vy Q Q' gh hx hy hw k => by
  unfold intF at hw
  split at hw
  · cases rdb_int hx; cases rdb_int hy
    exact ⟨_, _, rfl, rfl, hw.1, fin_fr gh hw.2 (rep_int _) k⟩
  · exact hw.elim
def subF : D → D → (Res → Prop) → Prop
  | .int i, .int j, Q => Q (.fr (.int (i - j)))
  | _, _, _ => False
theorem ol_sub : OpLf M (rI0 fun i j => .int (i - j)) subF := fun G H x y vx vy Q Q' gh hx hy hw k => by
  unfold subF at hw
  split at hw
  · cases rdb_int hx; cases rdb_int hy
    exact ⟨_, _, rfl, rfl, fin_fr gh hw (rep_int _) k⟩
  · exact hw.elim
theorem le_sub (ha : LR M X a ta ra) (hb : LR M X b tb rb) : LE M X (.BinOp a .Sub b pos) (tOp (rI0 fun i j => .int (i - j)) ta tb) (w2 subF ra rb) := ⟨fun hK => by cases M; cases hK; exact pe_op op_sub (ha.pe rfl) (hb.pe rfl), lf_op ol_sub ha.lf hb.lf⟩
def mulF : D → D → (Res → Prop) → Prop
  | .int i, .int j, Q => CMulX i j ∧ Q (.fr (.int (i * j)))
  | .lst xs, .int k, Q => (-(2 ^ 63) ≤ k ∧ k < 2 ^ 63 ∧ xs.length * k.toNat ≤ 16777216) ∧ Q (.nw (.lst (List.replicate k.toNat xs).flatten))
  | _, _, _ => False
def rMulAll : R2 := fun x y H Q => (rI CMulX fun i j => .int (i * j)) x y H Q ∨ rRep x y H Q
theorem op_mulAll : OpR X (binaryOp .Mult) rMulAll := op_mulX.or op_rep
theorem ol_mul : OpLf M rMulAll mulF := fun G H x y vx vy Q Q' gh hx hy hw k => by
  unfold mulF at hw
  split at hw
  · cases rdb_int hx; cases rdb_int hy
    exact .inl ⟨_, _, rfl, rfl, hw.1, fin_fr gh hw.2 (rep_int _) k⟩
  · obtain ⟨p, vs, rfl, h1, h2⟩ := rdb_lst hx
    cases rdb_int hy
    obtain ⟨⟨h3, h4, h5⟩, hw⟩ := hw
    exact .inr ⟨p, _, vs, rfl, rfl, h1, h3, h4, by rw [← h2.len]; exact Nat.le_trans h5 line24, fun l hl => fin_nw gh hw (h2.rep _) hl k⟩
  · exact hw.elim
theorem le_mul (ha : LR M X a ta ra) (hb : LR M X b tb rb) : LE M X (.BinOp a .Mult b pos) (tOp rMulAll ta tb) (w2 mulF ra rb) := ⟨fun hK => by cases M; cases hK; exact pe_op op_mulAll (ha.pe rfl) (hb.pe rfl), lf_op ol_mul ha.lf hb.lf⟩
def fdivF : D → D → (Res → Prop) → Prop
  | .int i, .int j, Q => CDivW i j ∧ Q (.fr (.int (i / j)))
  | _, _, _ => False
def modF : D → D → (Res → Prop) → Prop
  | .int i, .int j, Q => 0 < j ∧ Q (.fr (.int (i % j)))
  | _, _, _ => False
def powF : D → D → (Res → Prop) → Prop
  | .int i, .int j, Q => CPow i j ∧ Q (.fr (.int (i ^ j.toNat)))
  | _, _, _ => False
def shlF : D → D → (Res → Prop) → Prop
  | .int i, .int j, Q => CPow i j ∧ Q (.fr (.int (i * 2 ^ j.toNat)))
  | _, _, _ => False
theorem ol_gen {C : Int → Int → Prop} {g : Int → Int → Int} {f : D → D → (Res → Prop) → Prop} (h : ∀ x y Q, f x y Q → intF C g x y Q) : OpLf M (rI C fun i j => .int (g i j)) f := fun G H x y vx vy Q Q' gh hx hy hw k => ol_int G H x y vx vy Q Q' gh hx hy (h _ _ _ hw) k
theorem g_fdiv : ∀ x y Q, fdivF x y Q → intF CDivW (fun i j => i / j) x y Q := fun x y Q h => by
  unfold fdivF at h
  split at h
  · exact h
  · exact h.elim
theorem g_mod : ∀ x y Q, modF x y Q → intF (fun _ j => 0 < j) (fun i j => i % j) x y Q := fun x y Q h => by
  unfold modF at h
  split at h
  · exact h
  · exact h.elim
theorem g_pow : ∀ x y Q, powF x y Q → intF CPow (fun i j => i ^ j.toNat) x y Q := fun x y Q h => by
  unfold powF at h
  split at h
  · exact h
  · exact h.elim
theorem g_shl : ∀ x y Q, shlF x y Q → intF CPow (fun i j => i * 2 ^ j.toNat) x y Q := fun x y Q h => by
  unfold shlF at h
  split at h
  · exact h
  · exact h.elim
theorem le_fdiv (ha : LR M X a ta ra) (hb : LR M X b tb rb) : LE M X (.BinOp a .FloorDiv b pos) (tOp (rI CDivW fun i j => .int (i / j)) ta tb) (w2 fdivF ra rb) := ⟨fun hK => by cases M; cases hK; exact pe_op op_fdivW (ha.pe rfl) (hb.pe rfl), lf_op (ol_gen g_fdiv) ha.lf hb.lf⟩
theorem le_mod (ha : LR M X a ta ra) (hb : LR M X b tb rb) : LE M X (.BinOp a .Mod b pos) (tOp (rI (fun _ j => 0 < j) fun i j => .int (i % j)) ta tb) (w2 modF ra rb) := ⟨fun hK => by cases M; cases hK; exact pe_op op_mod (ha.pe rfl) (hb.pe rfl), lf_op (ol_gen g_mod) ha.lf hb.lf⟩
theorem le_pow (ha : LR M X a ta ra) (hb : LR M X b tb rb) : LE M X (.BinOp a .Pow b pos) (tOp (rI CPow fun i j => .int (i ^ j.toNat)) ta tb) (w2 powF ra rb) := ⟨fun hK => by cases M; cases hK; exact pe_op op_pow (ha.pe rfl) (hb.pe rfl), lf_op (ol_gen g_pow) ha.lf hb.lf⟩
theorem le_shl (ha : LR M X a ta ra) (hb : LR M X b tb rb) : LE M X (.BinOp a .LShift b pos) (tOp (rI CPow fun i j => .int (i * 2 ^ j.toNat)) ta tb) (w2 shlF ra rb) := ⟨fun hK => by cases M; cases hK; exact pe_op op_shl (ha.pe rfl) (hb.pe rfl), lf_op (ol_gen g_shl) ha.lf hb.lf⟩

/-! ### one operand -/
def UnLf (M : Gm) (r : V → Hp → VK → Prop) (f : D → (Res → Prop) → Prop) : Prop := ∀ G H x vx (Q : Res → Prop) (Q' : VK), Same G H → Rdb M G H x vx → f x Q →
  (∀ r v G' H', Q r → Ext G H G' H' → ResOk M H G' H' r v → Q' v H') → r vx H Q'
def w1 (f : D → (Res → Prop) → Prop) (wa : WR) : WE := fun τ Q => wa τ fun x => f x Q
theorem lf_un {r : V → Hp → VK → Prop} {f : D → (Res → Prop) → Prop} (ho : UnLf M r f) (ha : LfR M ta ra) : LfE M (tUn r ta) (w1 f ra) := fun B G0 G H τ σ Q Q' s hw k =>
  ha B G0 G H τ σ _ _ s hw fun x vx G1 H1 q1 x1 r1 => ho G1 H1 x vx Q Q' x1.gh r1 q1 fun r v G3 H3 q3 x3 ok => k r v G3 H3 q3 (x1.trans x3) (ok.older x1.h)
def negF : D → (Res → Prop) → Prop
  | .int i, Q => Q (.fr (.int (-i)))
  | _, _ => False
theorem ol_neg : UnLf M (rU fun i => .int (-i)) negF := fun G H x vx Q Q' gh hx hw k => by
  unfold negF at hw
  split at hw
  · cases rdb_int hx
    exact ⟨_, rfl, fin_fr gh hw (rep_int _) k⟩
  · exact hw.elim
theorem le_neg (ha : LR M X a ta ra) : LE M X (.UnaryOp .USub a pos) (tUn (rU fun i => .int (-i)) ta) (w1 negF ra) := ⟨fun hK => by cases M; cases hK; exact pe_un un_neg (ha.pe rfl), lf_un ol_neg ha.lf⟩

/-! ### comparisons -/
def cmpF (p : Int → Int → Bool) : D → D → (Res → Prop) → Prop
  | .int i, .int j, Q => Q (.fr (.bl (p i j)))
  | _, _, _ => False
theorem ol_cmp {p : Int → Int → Bool} : OpLf M (rI0 fun i j => .bl (p i j)) (cmpF p) := fun G H x y vx vy Q Q' gh hx hy hw k => by
  unfold cmpF at hw
  split at hw
  · cases rdb_int hx; cases rdb_int hy
    exact ⟨_, _, rfl, rfl, fin_fr gh hw (rep_bl _) k⟩
  · exact hw.elim
/-- a comparison's operator by its rule over data -/
structure LC (M : Gm) (X : Cx) (op : CmpOp) (r : R2) (f : D → D → (Res → Prop) → Prop) : Prop where
  ho : X.K = M.K → OpR X (compareOp op) r
  lf : OpLf M r f
def ltF : D → D → (Res → Prop) → Prop
  | .int i, .int j, Q => Q (.fr (.bl (decide (i < j))))
  | _, _, _ => False
def leF : D → D → (Res → Prop) → Prop
  | .int i, .int j, Q => Q (.fr (.bl (decide (i ≤ j))))
  | _, _, _ => False
def gtF : D → D → (Res → Prop) → Prop
  | .int i, .int j, Q => Q (.fr (.bl (decide (j < i))))
  | _, _, _ => False
def geF : D → D → (Res → Prop) → Prop
  | .int i, .int j, Q => Q (.fr (.bl (decide (j ≤ i))))
  | _, _, _ => False
theorem ol_cgen {p : Int → Int → Bool} {f : D → D → (Res → Prop) → Prop} (h : ∀ x y Q, f x y Q → cmpF p x y Q) : OpLf M (rI0 fun i j => .bl (p i j)) f := fun G H x y vx vy Q Q' gh hx hy hw k => ol_cmp G H x y vx vy Q Q' gh hx hy (h _ _ _ hw) k
theorem lc_lt : LC M X .Lt (rI0 fun i j => .bl (decide (i < j))) ltF := ⟨fun _ => op_lt, ol_cgen fun x y Q h => by unfold ltF at h; split at h <;> first | exact h | exact h.elim⟩
theorem lc_le : LC M X .LtE (rI0 fun i j => .bl (decide (i ≤ j))) leF := ⟨fun _ => op_le, ol_cgen fun x y Q h => by unfold leF at h; split at h <;> first | exact h | exact h.elim⟩
theorem lc_gt : LC M X .Gt (rI0 fun i j => .bl (decide (j < i))) gtF := ⟨fun _ => op_gt, ol_cgen fun x y Q h => by unfold gtF at h; split at h <;> first | exact h | exact h.elim⟩
theorem lc_ge : LC M X .GtE (rI0 fun i j => .bl (decide (j ≤ i))) geF := ⟨fun _ => op_ge, ol_cgen fun x y Q h => by unfold geF at h; split at h <;> first | exact h | exact h.elim⟩

mutual
def toPy : D → PyData
  | .non => .none
  | .bl b => .bool b
  | .int i => .int i
  | .str s => .str s
  | .lst ds => .list (toPys ds)
  | .tup ds => .tuple (toPys ds)
  | .ins _ _ _ => .none
  | .scr ns => .list (ns.map PyData.int)
def toPys : List D → List PyData
  | [] => []
  | d :: ds => toPy d :: toPys ds
end
mutual
def isPy : D → Bool
  | .lst ds => isPys ds
  | .tup ds => isPys ds
  | .ins _ _ _ => false
  | .scr _ => false
  | _ => true
def isPys : List D → Bool
  | [] => true
  | d :: ds => isPy d && isPys ds
end
mutual
theorem dp_of (gh : Same G H) : ∀ {d : D} {v : V}, isPy d = true → Rep M G d v → Dp M.K H v (toPy d)
  | .non, v, _, h => by unfold Rep at h; subst h; exact .non
  | .bl b, v, _, h => by unfold Rep at h; subst h; exact .bl b
  | .int i, v, _, h => by unfold Rep at h; subst h; exact .int i
  | .str i, v, _, h => by unfold Rep at h; subst h; exact .str i
  | .lst ds, v, p, h => by
    unfold Rep at h
    obtain ⟨a, vs, rfl, h2, h3⟩ := h
    exact .lst (SqL.of (gh _ _ h2)) (dps_of gh (by unfold isPy at p; exact p) h3)
  | .tup ds, v, p, h => by
    unfold Rep at h
    obtain ⟨a, vs, rfl, h2, h3⟩ := h
    exact .tup (same_T gh h2) (dps_of gh (by unfold isPy at p; exact p) h3)
  | .ins _ _ _, v, p, _ => by unfold isPy at p; cases p
  | .scr _, v, p, _ => by unfold isPy at p; cases p
theorem dps_of (gh : Same G H) : ∀ {ds : List D} {vs : List V}, isPys ds = true → Reps M G ds vs → DpAll M.K H vs (toPys ds)
  | [], vs, _, h => by unfold Reps at h; subst h; exact .nil
  | d :: ds, vs, p, h => by
    unfold Reps at h
    obtain ⟨v, r, rfl, h2, h3⟩ := h
    unfold isPys at p
    rw [Bool.and_eq_true] at p
    exact .cons (dp_of gh p.1 h2) (dps_of gh p.2 h3)
end
theorem dp_rdb (gh : Same G H) : ∀ {d : D} {v : V}, isPy d = true → Rdb M G H d v → Dp M.K H v (toPy d)
  | .non, v, p, h => dp_of (d := .non) gh p h
  | .bl b, v, p, h => dp_of (d := .bl b) gh p h
  | .int i, v, p, h => dp_of (d := .int i) gh p h
  | .str i, v, p, h => dp_of (d := .str i) gh p h
  | .lst ds, v, p, h => by
    obtain ⟨a, vs, rfl, h2, h3⟩ := h
    exact .lst (SqL.of h2) (dps_of gh (by unfold isPy at p; exact p) h3)
  | .tup ds, v, p, h => dp_of (d := .tup ds) gh p h
  | .ins _ _ _, v, p, _ => by unfold isPy at p; cases p
  | .scr _, v, p, _ => by unfold isPy at p; cases p
/-- data that == compares -/
def EqOk (d : D) : Prop := isPy d = true ∧ SeqAt.shaped (toPy d) = true
def eqF (n : Bool) : D → D → (Res → Prop) → Prop
  | .int i, .int j, Q => Q (.fr (.bl (n ^^ decide (i = j))))
  | .bl i, .bl j, Q => Q (.fr (.bl (n ^^ decide (i = j))))
  | .str i, .str j, Q => Q (.fr (.bl (n ^^ decide (i = j))))
  | .non, .non, Q => Q (.fr (.bl (n ^^ true)))
  | .non, .int j, Q => Q (.fr (.bl (n ^^ false)))
  | .int j, .non, Q => Q (.fr (.bl (n ^^ false)))
  | .non, .str j, Q => Q (.fr (.bl (n ^^ false)))
  | .str j, .non, Q => Q (.fr (.bl (n ^^ false)))
  | x, y, Q => EqOk x ∧ EqOk y ∧ Q (.fr (.bl (n ^^ PyData.eqv (toPy x) (toPy y))))
def rEqAll (K : PySem.W.Frag) : R2 := fun x y H Q => rEq x y H Q ∨ rEqD K x y H Q
def rNeAll (K : PySem.W.Frag) : R2 := fun x y H Q => rNe x y H Q ∨ rNeD K x y H Q
theorem xf (b : Bool) : (false ^^ b) = b := by cases b <;> rfl
theorem xt (b : Bool) : (true ^^ b) = !b := by cases b <;> rfl
theorem d_int {i j : Int} : decide (V.int i = V.int j) = decide (i = j) := by simp
theorem d_bl {i j : Bool} : decide (V.bl i = V.bl j) = decide (i = j) := by simp
theorem d_str {i j : Str} : decide (V.str i = V.str j) = decide (i = j) := by simp
theorem ol_eq : OpLf M (rEqAll M.K) (eqF false) := fun G H x y vx vy Q Q' gh hx hy hw k => by
  unfold eqF at hw
  simp only [xf] at hw
  split at hw
  · cases rdb_int hx; cases rdb_int hy
    exact .inl ⟨rfl, by rw [d_int]; exact fin_fr gh hw (rep_bl _) k⟩
  · cases rdb_bl hx; cases rdb_bl hy
    exact .inl ⟨rfl, by rw [d_bl]; exact fin_fr gh hw (rep_bl _) k⟩
  · cases rdb_str hx; cases rdb_str hy
    exact .inl ⟨rfl, by rw [d_str]; exact fin_fr gh hw (rep_bl _) k⟩
  · cases rdb_non hx; cases rdb_non hy
    exact .inl ⟨rfl, fin_fr gh hw (rep_bl _) k⟩
  · cases rdb_non hx; cases rdb_int hy
    exact .inl ⟨rfl, fin_fr gh hw (rep_bl _) k⟩
  · cases rdb_int hx; cases rdb_non hy
    exact .inl ⟨rfl, fin_fr gh hw (rep_bl _) k⟩
  · cases rdb_non hx; cases rdb_str hy
    exact .inl ⟨rfl, fin_fr gh hw (rep_bl _) k⟩
  · cases rdb_str hx; cases rdb_non hy
    exact .inl ⟨rfl, fin_fr gh hw (rep_bl _) k⟩
  · obtain ⟨⟨a1, a2⟩, ⟨b1, b2⟩, hw⟩ := hw
    exact .inr ⟨_, _, dp_rdb gh a1 hx, dp_rdb gh b1 hy, a2, b2, fin_fr gh hw (rep_bl _) k⟩
theorem ol_ne : OpLf M (rNeAll M.K) (eqF true) := fun G H x y vx vy Q Q' gh hx hy hw k => by
  unfold eqF at hw
  simp only [xt] at hw
  split at hw
  · cases rdb_int hx; cases rdb_int hy
    exact .inl ⟨rfl, by rw [d_int]; exact fin_fr gh hw (rep_bl _) k⟩
  · cases rdb_bl hx; cases rdb_bl hy
    exact .inl ⟨rfl, by rw [d_bl]; exact fin_fr gh hw (rep_bl _) k⟩
  · cases rdb_str hx; cases rdb_str hy
    exact .inl ⟨rfl, by rw [d_str]; exact fin_fr gh hw (rep_bl _) k⟩
  · cases rdb_non hx; cases rdb_non hy
    exact .inl ⟨rfl, fin_fr gh hw (rep_bl _) k⟩
  · cases rdb_non hx; cases rdb_int hy
    exact .inl ⟨rfl, fin_fr gh hw (rep_bl _) k⟩
  · cases rdb_int hx; cases rdb_non hy
    exact .inl ⟨rfl, fin_fr gh hw (rep_bl _) k⟩
  · cases rdb_non hx; cases rdb_str hy
    exact .inl ⟨rfl, fin_fr gh hw (rep_bl _) k⟩
  · cases rdb_str hx; cases rdb_non hy
    exact .inl ⟨rfl, fin_fr gh hw (rep_bl _) k⟩
  · obtain ⟨⟨a1, a2⟩, ⟨b1, b2⟩, hw⟩ := hw
    exact .inr ⟨_, _, dp_rdb gh a1 hx, dp_rdb gh b1 hy, a2, b2, fin_fr gh hw (rep_bl _) k⟩
theorem lc_eq (hu : X.A.units + 64 < cLine) : LC M X .Eq (rEqAll M.K) (eqF false) := ⟨fun hK => by cases M; cases hK; exact op_eq.or (op_eqD hu), ol_eq⟩
theorem lc_ne (hu : X.A.units + 64 < cLine) : LC M X .NotEq (rNeAll M.K) (eqF true) := ⟨fun hK => by cases M; cases hK; exact op_ne.or (op_neD hu), ol_ne⟩
/-- is None -/
def D.isNon : D → Bool
  | .non => true
  | _ => false
theorem rdb_isNon : ∀ {d : D} {v : V}, Rdb M G H d v → decide (v = .non) = d.isNon
  | .non, v, h => by cases rdb_non h; rfl
  | .bl _, v, h => by cases rdb_bl h; rfl
  | .int _, v, h => by cases rdb_int h; rfl
  | .str _, v, h => by cases rdb_str h; rfl
  | .lst _, v, h => by obtain ⟨a, vs, rfl, _⟩ := h; rfl
  | .tup _, v, h => by obtain ⟨a, vs, rfl, _⟩ := rdb_tup h; rfl
  | .ins _ _ _, v, h => by obtain ⟨a, dx, vs, rfl, _⟩ := h; rfl
  | .scr _, v, h => by obtain ⟨a, rfl, _⟩ := rdb_scr h; rfl
def isF (n : Bool) : D → D → (Res → Prop) → Prop
  | x, .non, Q => Q (.fr (.bl (n ^^ x.isNon)))
  | .bl a, .bl b, Q => Q (.fr (.bl (n ^^ decide (a = b))))
  | _, _, _ => False
def rIsAll : R2 := fun x y H Q => (y = .non ∧ Q (.bl (decide (x = .non))) H) ∨ rIsB x y H Q
def rIsNAll : R2 := fun x y H Q => (y = .non ∧ Q (.bl (!decide (x = .non))) H) ∨ rNotB x y H Q
theorem ol_is : OpLf M rIsAll (isF false) := fun G H x y vx vy Q Q' gh hx hy hw k => by
  unfold isF at hw
  simp only [xf] at hw
  split at hw
  · cases rdb_non hy
    exact .inl ⟨rfl, by rw [rdb_isNon hx]; exact fin_fr gh hw (rep_bl _) k⟩
  · cases rdb_bl hx; cases rdb_bl hy
    exact .inr ⟨_, _, rfl, rfl, fin_fr gh hw (rep_bl _) k⟩
  · exact hw.elim
theorem ol_isn : OpLf M rIsNAll (isF true) := fun G H x y vx vy Q Q' gh hx hy hw k => by
  unfold isF at hw
  simp only [xt] at hw
  split at hw
  · cases rdb_non hy
    exact .inl ⟨rfl, by rw [rdb_isNon hx]; exact fin_fr gh hw (rep_bl _) k⟩
  · cases rdb_bl hx; cases rdb_bl hy
    exact .inr ⟨_, _, rfl, rfl, fin_fr gh hw (rep_bl _) k⟩
  · exact hw.elim
theorem lc_is : LC M X .Is rIsAll (isF false) := ⟨fun _ => op_isN.or op_isBl, ol_is⟩
theorem lc_isn : LC M X .IsNot rIsNAll (isF true) := ⟨fun _ => op_notN.or op_notBl, ol_isn⟩
theorem le_cmp {op : CmpOp} {r : R2} {f : D → D → (Res → Prop) → Prop} (o : LC M X op r f) (ha : LR M X a ta ra) (hb : LR M X b tb rb) (hm : behindInMarks op b = false) : LE M X (.Compare a [op] [b] pos) (tOp r ta tb) (w2 f ra rb) :=
  ⟨fun hK => by cases M; cases hK; exact pe_cmpR (o.ho rfl) (ha.pe rfl) (hb.pe rfl) hm, lf_op o.lf ha.lf hb.lf⟩
/-! ### tests -/
def tB' (w : WE) : WT := fun τ Q => w τ fun r => match r with
  | .fr (.bl b) => Q b
  | _ => False
theorem lf_tb (h : LfE M te we) : LfT M (tB te) (tB' we) := fun B G0 G H τ σ Q Q' s hw k =>
  h B G0 G H τ σ _ _ s hw fun r v G' H' q x ok => by
    split at q
    · have ok : Rep M G' (.bl _) v := ok
      unfold Rep at ok
      exact ⟨_, ok, k _ _ _ q x⟩
    · exact q.elim
theorem lt_cmp {op : CmpOp} {r : R2} {f : D → D → (Res → Prop) → Prop} (o : LC M X op r f) (ha : LR M X a ta ra) (hb : LR M X b tb rb) (hm : behindInMarks op b = false) : LT M X (.Compare a [op] [b] pos) (tB (tOp r ta tb)) (tB' (w2 f ra rb)) :=
  ⟨fun hK => by cases M; cases hK; exact pt_cmpR (o.ho rfl) (ha.pe rfl) (hb.pe rfl) hm, lf_tb (lf_op o.lf ha.lf hb.lf)⟩
theorem lt_val (h : LE M X e te we) (he : ∀ whole, isTrue e X.env whole = (do let v ← whole; standAt e.pos; holding [v] (truthy v)) := by intro _; rfl) : LT M X e (tB te) (tB' we) := ⟨fun hK => by cases M; cases hK; exact pt_val (h.pe rfl) he, lf_tb h.lf⟩
/-- a way that is open -/
def wIf (b : Bool) (A C : Prop) : Prop := (b = true → A) ∧ (b = false → C)
variable {tA tB tC' : TT} {wA wB wC' : WT} {rest : List Expr}
def wAnd (wA wB : WT) : WT := fun τ Q => wA τ fun b => wIf b (wB τ Q) (Q false)
def wOr (wA wB : WT) : WT := fun τ Q => wA τ fun b => wIf b (Q true) (wB τ Q)
def wNot (wA : WT) : WT := fun τ Q => wA τ fun b => Q (!b)
structure LW (M : Gm) (X : Cx) (e : Expr) (t : TT) (w : WT) : Prop where
  pw : X.K = M.K → PW X e t
  lf : LfT M t w
theorem LW.lt (h : LW M X e tA wA) : LT M X e tA wA := ⟨fun hK => (h.pw hK).pt, h.lf⟩
theorem lw_and1 (h : LT M X a tA wA) : LW M X (.BoolOp .And [a] pos) tA wA := ⟨fun hK => by cases M; cases hK; exact pw_and1 (h.pt rfl), h.lf⟩
theorem lw_or1 (h : LT M X a tA wA) : LW M X (.BoolOp .Or [a] pos) tA wA := ⟨fun hK => by cases M; cases hK; exact pw_or1 (h.pt rfl), h.lf⟩
theorem lw_and (h : LT M X a tA wA) (h2 : LW M X (.BoolOp .And (b :: rest) pos) tB wB) : LW M X (.BoolOp .And (a :: b :: rest) pos) (tAnd tA tB) (wAnd wA wB) :=
  ⟨fun hK => by cases M; cases hK; exact pw_and (h.pt rfl) (h2.pw rfl), fun B G0 G H τ σ Q Q' s hw k => h.lf B G0 G H τ σ _ _ s hw fun c G1 H1 q x => by
    cases c with
    | true => exact iteT (h2.lf B G0 G1 H1 τ σ _ _ (s.ext x) (q.1 rfl) fun d G2 H2 q2 x2 => k d G2 H2 q2 (x.trans x2))
    | false => exact iteF (k false G1 H1 (q.2 rfl) x)⟩
theorem lw_or (h : LT M X a tA wA) (h2 : LW M X (.BoolOp .Or (b :: rest) pos) tB wB) : LW M X (.BoolOp .Or (a :: b :: rest) pos) (tOr tA tB) (wOr wA wB) :=
  ⟨fun hK => by cases M; cases hK; exact pw_or (h.pt rfl) (h2.pw rfl), fun B G0 G H τ σ Q Q' s hw k => h.lf B G0 G H τ σ _ _ s hw fun c G1 H1 q x => by
    cases c with
    | true => exact iteT (k true G1 H1 (q.1 rfl) x)
    | false => exact iteF (h2.lf B G0 G1 H1 τ σ _ _ (s.ext x) (q.2 rfl) fun d G2 H2 q2 x2 => k d G2 H2 q2 (x.trans x2))⟩
theorem lt_not (h : LT M X a tA wA) : LT M X (.UnaryOp .Not a pos) (tNot tA) (wNot wA) := ⟨fun hK => by cases M; cases hK; exact pt_not (h.pt rfl), fun B G0 G H τ σ Q Q' s hw k => h.lf B G0 G H τ σ _ _ s hw fun c G1 H1 q x => k (!c) G1 H1 q x⟩
/-- values of and, or, not, all of them bools -/
def wAndV (wa wb : WE) : WE := fun τ Q => wa τ fun r => match r with
  | .fr (.bl b) => wIf b (wb τ Q) (Q (.fr (.bl false)))
  | _ => False
def wOrV (wa wb : WE) : WE := fun τ Q => wa τ fun r => match r with
  | .fr (.bl b) => wIf b (Q (.fr (.bl true))) (wb τ Q)
  | _ => False
def notF : D → (Res → Prop) → Prop
  | .bl b, Q => Q (.fr (.bl (!b)))
  | _, _ => False
theorem le_one {op} (h : LE M X a ta wa) : LE M X (.BoolOp op [a] pos) ta wa := ⟨fun hK => by cases M; cases hK; exact pe_one (h.pe rfl), h.lf⟩
theorem le_and (h : LE M X a ta wa) (h2 : LE M X (.BoolOp .And (b :: rest) pos) tb wb) : LE M X (.BoolOp .And (a :: b :: rest) pos) (tAndV ta tb) (wAndV wa wb) :=
  ⟨fun hK => by cases M; cases hK; exact pe_and (h.pe rfl) (h2.pe rfl), fun B G0 G H τ σ Q Q' s hw k => h.lf B G0 G H τ σ _ _ s hw fun r v G1 H1 q x ok => by
    split at q
    · rename_i c
      have ok : Rep M G1 (.bl c) v := ok
      unfold Rep at ok
      refine ⟨c, ok, ?_⟩
      cases c with
      | true => exact iteT (h2.lf B G0 G1 H1 τ σ _ _ (s.ext x) (q.1 rfl) fun d v2 G2 H2 q2 x2 ok2 => k d v2 G2 H2 q2 (x.trans x2) (ok2.older x.h))
      | false => exact iteF (k (.fr (.bl false)) _ G1 H1 (q.2 rfl) x (rep_bl (M := M) (G := G1) false))
    · exact q.elim⟩
theorem le_or (h : LE M X a ta wa) (h2 : LE M X (.BoolOp .Or (b :: rest) pos) tb wb) : LE M X (.BoolOp .Or (a :: b :: rest) pos) (tOrV ta tb) (wOrV wa wb) :=
  ⟨fun hK => by cases M; cases hK; exact pe_or (h.pe rfl) (h2.pe rfl), fun B G0 G H τ σ Q Q' s hw k => h.lf B G0 G H τ σ _ _ s hw fun r v G1 H1 q x ok => by
    split at q
    · rename_i c
      have ok : Rep M G1 (.bl c) v := ok
      unfold Rep at ok
      refine ⟨c, ok, ?_⟩
      cases c with
      | true => exact iteT (k (.fr (.bl true)) _ G1 H1 (q.1 rfl) x (rep_bl (M := M) (G := G1) true))
      | false => exact iteF (h2.lf B G0 G1 H1 τ σ _ _ (s.ext x) (q.2 rfl) fun d v2 G2 H2 q2 x2 ok2 => k d v2 G2 H2 q2 (x.trans x2) (ok2.older x.h))
    · exact q.elim⟩
def wNotV (wa : WE) : WE := fun τ Q => wa τ fun r => match r with
  | .fr (.bl b) => Q (.fr (.bl (!b)))
  | _ => False
theorem le_not (h : LE M X a ta wa) : LE M X (.UnaryOp .Not a pos) (tNotV ta) (wNotV wa) :=
  ⟨fun hK => by cases M; cases hK; exact pe_not (h.pe rfl), fun B G0 G H τ σ Q Q' s hw k => h.lf B G0 G H τ σ _ _ s hw fun r v G1 H1 q x ok => by
    split at q
    · rename_i c
      have ok : Rep M G1 (.bl c) v := ok
      unfold Rep at ok
      exact ⟨c, ok, k (.fr (.bl (!c))) _ G1 H1 q x (rep_bl (M := M) (G := G1) _)⟩
    · exact q.elim⟩
def wIfE (wA : WT) (wa wb : WE) : WE := fun τ Q => wA τ fun b => wIf b (wa τ Q) (wb τ Q)
theorem le_ifE (h : LT M X c tA wA) (h1 : LE M X a ta wa) (h2 : LE M X b tb wb) : LE M X (.IfExp c a b pos) (tIf tA ta tb) (wIfE wA wa wb) :=
  ⟨fun hK => by cases M; cases hK; exact pe_ifExp (h.pt rfl) (h1.pe rfl) (h2.pe rfl), fun B G0 G H τ σ Q Q' s hw k => h.lf B G0 G H τ σ _ _ s hw fun c G1 H1 q x => by
    cases c with
    | true => exact iteT (h1.lf B G0 G1 H1 τ σ _ _ (s.ext x) (q.1 rfl) fun d v2 G2 H2 q2 x2 ok2 => k d v2 G2 H2 q2 (x.trans x2) (ok2.older x.h))
    | false => exact iteF (h2.lf B G0 G1 H1 τ σ _ _ (s.ext x) (q.2 rfl) fun d v2 G2 H2 q2 x2 ok2 => k d v2 G2 H2 q2 (x.trans x2) (ok2.older x.h))⟩
/-- a < b < c -/
def wChain (f g : D → D → (Res → Prop) → Prop) (ra rb rc : WR) : WE := fun τ Q => ra τ fun x => rb τ fun y => f x y fun r => match r with
  | .fr (.bl b) => wIf b (rc τ fun z => g y z Q) (Q (.fr (.bl false)))
  | _ => False
theorem lf_chain {r r' : R2} {f g : D → D → (Res → Prop) → Prop} {tc : TE} {rc : WR} (hf : OpLf M r f) (hg : OpLf M r' g) (ha : LfR M ta ra) (hb : LfR M tb rb) (hc : LfR M tc rc) : LfE M (tChain r r' ta tb tc) (wChain f g ra rb rc) := fun B G0 G H τ σ Q Q' s hw k =>
  ha B G0 G H τ σ _ _ s hw fun x vx G1 H1 q1 x1 r1 => hb B G0 G1 H1 τ σ _ _ (s.ext x1) q1 fun y vy G2 H2 q2 x2 r2 =>
    hf G2 H2 x y vx vy _ _ x2.gh (r1.ext x2) r2 q2 fun r v G3 H3 q3 x3 ok => by
      split at q3
      · rename_i b
        have ok : Rep M G3 (.bl b) v := ok
        unfold Rep at ok
        refine ⟨b, ok, ?_⟩
        have x13 := (x1.trans x2).trans x3
        cases b with
        | true =>
          exact iteT (hc B G0 G3 H3 τ σ _ _ (s.ext x13) (q3.1 rfl) fun z vz G4 H4 q4 x4 r4 =>
            hg G4 H4 y z vy vz Q Q' x4.gh ((r2.ext x3).ext x4) r4 q4 fun r v G5 H5 q5 x5 ok5 => k r v G5 H5 q5 ((x13.trans x4).trans x5) (ok5.older (x13.trans x4).h))
        | false => exact iteF (k (.fr (.bl false)) _ G3 H3 (q3.2 rfl) x13 (rep_bl (M := M) (G := G3) false))
      · exact q3.elim
theorem le_chain {op op' : CmpOp} {r r' : R2} {f g : D → D → (Res → Prop) → Prop} {tc : TE} {rc : WR} (o : LC M X op r f) (o' : LC M X op' r' g) (ha : LR M X a ta ra) (hb : LR M X b tb rb) (hc : LR M X c tc rc) (hm : lastMarks [op, op'] [b, c] = false := by with_unfolding_all rfl) :
    LE M X (.Compare a [op, op'] [b, c] pos) (tChain r r' ta tb tc) (wChain f g ra rb rc) := ⟨fun hK => by cases M; cases hK; exact pe_chain (o.ho rfl) (o'.ho rfl) (ha.pe rfl) (hb.pe rfl) (hc.pe rfl) hm, lf_chain o.lf o'.lf ha.lf hb.lf hc.lf⟩
theorem lt_chain {op op' : CmpOp} {r r' : R2} {f g : D → D → (Res → Prop) → Prop} {tc : TE} {rc : WR} (o : LC M X op r f) (o' : LC M X op' r' g) (ha : LR M X a ta ra) (hb : LR M X b tb rb) (hc : LR M X c tc rc) (hm : lastMarks [op, op'] [b, c] = false := by with_unfolding_all rfl) :
    LT M X (.Compare a [op, op'] [b, c] pos) (tTest (tChain r r' ta tb tc)) (tB' (wChain f g ra rb rc)) := ⟨fun hK => by cases M; cases hK; exact pt_chain (o.ho rfl) (o'.ho rfl) (ha.pe rfl) (hb.pe rfl) (hc.pe rfl) hm, lf_tb (lf_chain o.lf o'.lf ha.lf hb.lf hc.lf)⟩

/-! ### subscripts -/
theorem atI_map {α β : Type} {xs : List α} {f : α → β} {i : Int} {v : α} (h : atI xs i = some v) : atI (xs.map f) i = some (f v) := by
  unfold atI at h ⊢
  rw [List.length_map]
  cases e : ixN xs.length i with
  | none => rw [e] at h; cases h
  | some j =>
    rw [e] at h
    show (xs.map f)[j]? = _
    have h : xs[j]? = some v := h
    rw [List.getElem?_map, h]; rfl
theorem atI_reps {ds : List D} {vs : List V} {i : Int} {d : D} (h : Reps M G ds vs) (e : atI ds i = some d) : ∃ v, atI vs i = some v ∧ Rep M G d v := by
  unfold atI at e ⊢
  rw [← h.len]
  cases q : ixN ds.length i with
  | none => rw [q] at e; cases e
  | some j =>
    rw [q] at e
    exact h.get (show ds[j]? = some d from e)
def ixF : D → D → (Res → Prop) → Prop
  | .lst xs, .int i, Q => ∃ d, atI xs i = some d ∧ Q (.fr d)
  | .tup xs, .int i, Q => ∃ d, atI xs i = some d ∧ Q (.fr d)
  | .scr ns, .int i, Q => ∃ n, atI ns i = some n ∧ Q (.fr (.int n))
  | .str z, .int i, Q => ∃ c, z.length ≤ 16777216 ∧ atI z.cps.toList i = some c ∧ Q (.fr (.str ⟨#[c]⟩))
  | _, _, _ => False
theorem ol_ix : OpLf M (rIx M.K) ixF := fun G H x y vx vy Q Q' gh hx hy hw k => by
  unfold ixF at hw
  split at hw
  · obtain ⟨p, vs, rfl, h1, h2⟩ := rdb_lst hx
    cases rdb_int hy
    obtain ⟨d, e, q⟩ := hw
    obtain ⟨v, h3, h4⟩ := atI_reps h2 e
    exact .inl ⟨p, vs, _, v, rfl, rfl, SqL.of h1, h3, fin_fr gh q h4 k⟩
  · obtain ⟨p, vs, rfl, h1, h2⟩ := rdb_tupH gh hx
    cases rdb_int hy
    obtain ⟨d, e, q⟩ := hw
    obtain ⟨v, h3, h4⟩ := atI_reps h2 e
    exact .inr (.inl ⟨p, vs, _, v, rfl, rfl, h1, h3, fin_fr gh q h4 k⟩)
  · obtain ⟨p, rfl, h1⟩ := rdb_scrH gh hx
    cases rdb_int hy
    obtain ⟨n, e, q⟩ := hw
    exact .inl ⟨p, _, _, _, rfl, rfl, h1, atI_map e, fin_fr gh q (rep_int _) k⟩
  · cases rdb_str hx; cases rdb_int hy
    obtain ⟨c, l, e, q⟩ := hw
    exact .inr (.inr ⟨_, _, c, rfl, rfl, Nat.le_trans l line24, e, fin_fr gh q (rep_str _) k⟩)
  · exact hw.elim
theorem le_ix (ha : LR M X a ta ra) (hb : LR M X b tb rb) (hs : PlainIx b) : LE M X (.Subscript a b pos) (tOp (rIx M.K) ta tb) (w2 ixF ra rb) := ⟨fun hK => by cases M; cases hK; exact pe_ix ix_seq (ha.pe rfl) (hb.pe rfl) hs, lf_op ol_ix ha.lf hb.lf⟩
/-! ### slices -/
abbrev WO := Sls → (Option Int → Prop) → Prop
def LfO (M : Gm) (t : TO) (w : WO) : Prop := ∀ B G0 G H τ σ (Q : Option Int → Prop) (Q' : Option Int → Hp → Prop), Stt M B G0 G H τ σ → w τ Q →
  (∀ b G' H', Q b → Ext G H G' H' → Q' b H') → t σ H Q'
structure LO (M : Gm) (X : Cx) (e : Option Expr) (t : TO) (w : WO) : Prop where
  po : X.K = M.K → PO X e t
  lf : LfO M t w
def wO0 : WO := fun _ Q => Q none
theorem lo_none : LO M X none tNoPart wO0 := ⟨fun hK => by cases M; cases hK; exact po_none, fun B G0 G H τ σ Q Q' s hw k => k none G H hw (Ext.refl s.gh)⟩
def wPart (ra : WR) : WO := fun τ Q => ra τ fun d => match d with
  | .int i => Q (some i)
  | _ => False
theorem lo_some (h : LR M X e te ra) : LO M X (some e) (tPart te) (wPart ra) := ⟨fun hK => by cases M; cases hK; exact po_some (h.pe rfl), fun B G0 G H τ σ Q Q' s hw k => h.lf B G0 G H τ σ _ _ s hw fun d v G' H' q x r => by
  split at q
  · exact ⟨_, rdb_int r, k _ G' H' q x⟩
  · exact q.elim⟩
def cutD {α : Type} (xs : List α) (lo hi : Option Int) : List α := (xs.drop (HT.sIx xs.length 0 lo)).take (HT.sIx xs.length xs.length hi - HT.sIx xs.length 0 lo)
theorem cut_reps {ds : List D} {vs : List V} {lo hi : Option Int} (h : Reps M G ds vs) : Reps M G (cutD ds lo hi) (cutV vs lo hi) := by
  unfold cutD cutV
  rw [h.len]
  exact (h.drop _).take _
def slF : D → Option Int → Option Int → (Res → Prop) → Prop
  | .lst xs, lo, hi, Q => Q (.nw (.lst (cutD xs lo hi)))
  | .str z, lo, hi, Q => z.length ≤ 16777216 ∧ Q (.fr (.str (cutS z lo hi)))
  | .tup xs, lo, hi, Q => ¬ (HT.sIx xs.length 0 lo = 0 ∧ HT.sIx xs.length xs.length hi = xs.length) ∧ Q (.fr (.tup (cutD xs lo hi)))
  | _, _, _, _ => False
def rSlAll (K : PySem.W.Frag) : V → Option Int → Option Int → Hp → VK → Prop := fun x lo hi H Q => rSlL K x lo hi H Q ∨ rSlS x lo hi H Q ∨ rSlT K x lo hi H Q
def wSl (wa : WR) (wl wh : WO) : WE := fun τ Q => wa τ fun x => wl τ fun lo => wh τ fun hi => slF x lo hi Q
theorem lf_sl {tl th : TO} {wl wh : WO} (ha : LfR M ta ra) (hl : LfO M tl wl) (hh : LfO M th wh) : LfE M (tSl (rSlAll M.K) ta tl th) (wSl ra wl wh) := fun B G0 G H τ σ Q Q' s hw k =>
  ha B G0 G H τ σ _ _ s hw fun x vx G1 H1 q1 x1 r1 => hl B G0 G1 H1 τ σ _ _ (s.ext x1) q1 fun lo G2 H2 q2 x2 => hh B G0 G2 H2 τ σ _ _ (s.ext (x1.trans x2)) q2 fun hi G3 H3 q3 x3 => by
    have x13 := (x1.trans x2).trans x3
    have r3 := (r1.ext x2).ext x3
    have k3 : ∀ r v G' H', Q r → Ext G3 H3 G' H' → ResOk M H3 G' H' r v → Q' v H' := fun r v G' H' q x ok => k r v G' H' q (x13.trans x) (ok.older x13.h)
    have q3 : slF x lo hi Q := q3
    unfold slF at q3
    split at q3
    · obtain ⟨p, vs, rfl, h1, h2⟩ := rdb_lst r3
      exact .inl ⟨p, vs, rfl, SqL.of h1, fun l hl => fin_nw x3.gh q3 (cut_reps h2) hl k3⟩
    · cases rdb_str r3
      exact .inr (.inl ⟨_, rfl, Nat.le_trans q3.1 line24, fin_fr x3.gh q3.2 (rep_str _) k3⟩)
    · obtain ⟨p, vs, rfl, h1, h2⟩ := rdb_tupH x3.gh r3
      exact .inr (.inr ⟨p, vs, rfl, h1, by rw [← h2.len]; exact q3.1, fun l hl => fin_tup x3.gh q3.2 (cut_reps h2) hl k3⟩)
    · exact q3.elim
theorem le_sl {lo hi : Option Expr} {p2 : Pos} {tl th : TO} {wl wh : WO} (ha : LR M X e te ra) (hl : LO M X lo tl wl) (hh : LO M X hi th wh) : LE M X (.Subscript e (.Slice lo hi none p2) pos) (tSl (rSlAll M.K) te tl th) (wSl ra wl wh) :=
  ⟨fun hK => by cases M; cases hK; exact pe_slice (sl_list.or (sl_str.or sl_tup)) (ha.pe rfl) (hl.po rfl) (hh.po rfl), lf_sl ha.lf hl.lf hh.lf⟩

/-! ### argument lists -/
def wNil {α : Type} : Sls → (List α → Prop) → Prop := fun _ Q => Q []
theorem ll_nil : LL M X [] tNil wNil := ⟨fun hK => by cases M; cases hK; exact pa_nil, fun B G0 G H τ σ Q Q' s hw k => k [] [] G H hw (Ext.refl s.gh) rfl⟩
def wLc (ra : WR) (wl : WL) : WL := fun τ Q => ra τ fun d => wl τ fun ds => Q (d :: ds)
theorem ll_cons {t : TA} {wl : WL} (h : LR M X e te ra) (hr : LL M X es t wl) (hs : starEach (e :: es) X.env = (false, eval e X.env) :: starEach es X.env := by rfl) : LL M X (e :: es) (tCons te t) (wLc ra wl) :=
  ⟨fun hK => by cases M; cases hK; exact pa_cons (h.pe rfl) (hr.pa rfl) hs, fun B G0 G H τ σ Q Q' s hw k => h.lf B G0 G H τ σ _ _ s hw fun d v G1 H1 q1 x1 r1 => hr.lf B G0 G1 H1 τ σ _ _ (s.ext x1) q1 fun ds vs G2 H2 q2 x2 r2 =>
    k (d :: ds) (v :: vs) G2 H2 q2 (x1.trans x2) ⟨v, vs, rfl, r1.ext x2, r2⟩⟩
theorem li_nil : LI M X [] tNil wNil := ⟨fun hK => by cases M; cases hK; exact pa_nil, fun B G0 G H τ σ Q Q' s hw k => k [] [] G H hw (Ext.refl s.gh) .nil⟩
def wIc (wa : WE) (wl : WL) : WL := fun τ Q => wa τ fun r => wl τ fun ds => Q (r.d :: ds)
theorem li_cons {t : TA} {wl : WL} (h : LE M X e te we) (hr : LI M X es t wl) (hs : starEach (e :: es) X.env = (false, eval e X.env) :: starEach es X.env := by rfl) : LI M X (e :: es) (tCons te t) (wIc we wl) :=
  ⟨fun hK => by cases M; cases hK; exact pa_cons (h.pe rfl) (hr.pa rfl) hs, fun B G0 G H τ σ Q Q' s hw k => h.lf.frz (Q := fun d => wl τ fun ds => Q (d :: ds)) s hw fun d v G1 H1 q1 x1 r1 => hr.lf B G0 G1 H1 τ σ _ _ (s.ext x1) q1 fun ds vs G2 H2 q2 x2 r2 =>
    k (d :: ds) (v :: vs) G2 H2 q2 (x1.trans x2) (.cons (r1.mono x2.g) r2)⟩
def wTup (wl : WL) : WE := fun τ Q => wl τ fun ds => ds.length ≤ 16777216 ∧ Q (.fr (.tup ds))
def wLst (wl : WL) : WE := fun τ Q => wl τ fun ds => ds.length ≤ 16777216 ∧ Q (.nw (.lst ds))
theorem le_tup {t : TA} {wl : WL} {x1} (h : LI M X es t wl) : LE M X (.Tuple es x1 pos) (tTup t) (wTup wl) := ⟨fun hK => by cases M; cases hK; exact pe_tup (h.pa rfl), fun B G0 G H τ σ Q Q' s hw k => h.lf B G0 G H τ σ _ _ s hw fun ds vs G1 H1 q1 x1 r1 =>
  ⟨by rw [← r1.len]; exact Nat.le_trans q1.1 line24, fun p hp => fin_tup x1.gh q1.2 r1 hp fun r v G' H' q x ok => k r v G' H' q (x1.trans x) (ok.older x1.h)⟩⟩
theorem le_lst {t : TA} {wl : WL} (h : LI M X es t wl) : LE M X (.List es pos) (tLst t) (wLst wl) := ⟨fun hK => by cases M; cases hK; exact pe_lst (h.pa rfl), fun B G0 G H τ σ Q Q' s hw k => h.lf B G0 G H τ σ _ _ s hw fun ds vs G1 H1 q1 x1 r1 =>
  ⟨by rw [← r1.len]; exact Nat.le_trans q1.1 line24, fun p hp => fin_nw x1.gh q1.2 r1 hp fun r v G' H' q x ok => k r v G' H' q (x1.trans x) (ok.older x1.h)⟩⟩
/-- arguments of a def -/
theorem la_nil : LA M X [] tNil wNil := ⟨fun hK => by cases M; cases hK; exact pa_nil, fun B G0 G H τ σ Q Q' s hw k => k [] [] G H hw (Ext.refl s.gh) rfl⟩
def wAe (wa : WE) (wl : WA) : WA := fun τ Q => wa τ fun r => wl τ fun ss => Q (.frz r.d :: ss)
theorem la_cons {t : TA} {wl : WA} (h : LE M X e te we) (hr : LA M X es t wl) (hs : starEach (e :: es) X.env = (false, eval e X.env) :: starEach es X.env := by rfl) : LA M X (e :: es) (tCons te t) (wAe we wl) :=
  ⟨fun hK => by cases M; cases hK; exact pa_cons (h.pe rfl) (hr.pa rfl) hs, fun B G0 G H τ σ Q Q' s hw k => h.lf.frz (Q := fun d => wl τ fun ss => Q (.frz d :: ss)) s hw fun d v G1 H1 q1 x1 r1 => hr.lf B G0 G1 H1 τ σ _ _ (s.ext x1) q1 fun ss vs G2 H2 q2 x2 r2 =>
    k (.frz d :: ss) (v :: vs) G2 H2 q2 (x1.trans x2) ⟨v, vs, rfl, rfl, Rep.mono x2.g r1, r2⟩⟩
def wAn (i : Nat) (wl : WA) : WA := fun τ Q => match τ[i]? with
  | some (some (.frz d)) => wl τ fun ss => Q (.frz d :: ss)
  | some (some (.ow _ d)) => wl τ fun ss => Q (.bor d :: ss)
  | some (some (.bor d)) => wl τ fun ss => Q (.bor d :: ss)
  | some (some (.ali j)) => atAli τ i j fun row => wl τ fun ss => Q (.bor (.lst row) :: ss)
  | _ => False
theorem la_nm {t : TA} {wl : WA} (i : Nat) (h : PE X e (tVar i)) (hr : LA M X es t wl) (hs : starEach (e :: es) X.env = (false, eval e X.env) :: starEach es X.env := by rfl) : LA M X (e :: es) (tCons (tVar i) t) (wAn i wl) :=
  ⟨fun hK => by cases M; cases hK; exact pa_cons h (hr.pa rfl) hs, fun B G0 G H τ σ Q Q' s hw k => by
    unfold wAn at hw
    split at hw
    · rename_i d e
      obtain ⟨v, h1, h2⟩ := s.ok i _ e
      exact ⟨v, h1, hr.lf B G0 G H τ σ _ _ s hw fun ss vs G2 H2 q2 x2 r2 => k _ (v :: vs) G2 H2 q2 x2 ⟨v, vs, rfl, rfl, Rep.mono x2.g h2, r2⟩⟩
    · rename_i d e
      obtain ⟨v, h1, h2⟩ := s.ok i _ e
      exact ⟨v, h1, hr.lf B G0 G H τ σ _ _ s hw fun ss vs G2 H2 q2 x2 r2 => k _ (v :: vs) G2 H2 q2 x2 ⟨v, vs, rfl, rfl, (h2.rdb s.bh s.gh rfl).ext x2, r2⟩⟩
    · rename_i d e
      obtain ⟨v, h1, h2⟩ := s.ok i _ e
      exact ⟨v, h1, hr.lf B G0 G H τ σ _ _ s hw fun ss vs G2 H2 q2 x2 r2 => k _ (v :: vs) G2 H2 q2 x2 ⟨v, vs, rfl, rfl, (h2.rdb s.bh s.gh rfl).ext x2, r2⟩⟩
    · rename_i j e
      obtain ⟨row, b, us, q, h1, h2, h3⟩ := atAli_ok s e hw
      exact ⟨_, h1, hr.lf B G0 G H τ σ _ _ s q fun ss vs G2 H2 q2 x2 r2 => k _ (_ :: vs) G2 H2 q2 x2 ⟨_, vs, rfl, rfl, ⟨b, us, rfl, x2.h _ _ h2, h3.mono x2.g⟩, r2⟩⟩
    · exact hw.elim⟩
/-! ### calls of built-ins -/
def CallLf (M : Gm) (r : List V → Hp → VK → Prop) (f : List D → (Res → Prop) → Prop) : Prop := ∀ G H xs vs (Q : Res → Prop) (Q' : VK), Same G H → Rdbs M G H xs vs → f xs Q →
  (∀ r v G' H', Q r → Ext G H G' H' → ResOk M H G' H' r v → Q' v H') → r vs H Q'
def wCB (f : List D → (Res → Prop) → Prop) (wl : WL) : WE := fun τ Q => wl τ fun ds => f ds Q
theorem lf_cb {t : TA} {wl : WL} {r : List V → Hp → VK → Prop} {f : List D → (Res → Prop) → Prop} (hf : CallLf M r f) (h : LfL M t wl) : LfE M (tCB r t) (wCB f wl) := fun B G0 G H τ σ Q Q' s hw k =>
  h B G0 G H τ σ _ _ s hw fun ds vs G1 H1 q1 x1 r1 => hf G1 H1 ds vs Q Q' x1.gh r1 q1 fun r v G' H' q x ok => k r v G' H' q (x1.trans x) (ok.older x1.h)
theorem rdbs1 {d : D} {vs : List V} (h : Rdbs M G H [d] vs) : ∃ v, vs = [v] ∧ Rdb M G H d v := by
  obtain ⟨v, r, rfl, h1, h2⟩ := h
  cases h2
  exact ⟨v, rfl, h1⟩
theorem rdbs2 {d e : D} {vs : List V} (h : Rdbs M G H [d, e] vs) : ∃ v w, vs = [v, w] ∧ Rdb M G H d v ∧ Rdb M G H e w := by
  obtain ⟨v, r, rfl, h1, h2⟩ := h
  obtain ⟨w, rfl, h3⟩ := rdbs1 h2
  exact ⟨v, w, rfl, h1, h3⟩
/-- a built-in by its rule over data -/
structure LB (M : Gm) (X : Cx) (f : Value) (r : List V → Hp → VK → Prop) (g : List D → (Res → Prop) → Prop) : Prop where
  hc : X.K = M.K → CallR X f r
  lf : CallLf M r g
theorem le_cb {x : Str} {p : Pos} {id : String} {t : TA} {wl : WL} {r : List V → Hp → VK → Prop} {f : List D → (Res → Prop) → Prop} (hc : LB M X (.builtin id) r f) (hg : Gl X x) (hm : X.mg x = none) (hv : bootBuiltins x = some (.builtin id)) (ha : LL M X (e :: es) t wl) (hn : x ≠ "__name__" := by decide) (hdb : (x == ("__debug__" : Str)) = false := by decide)
    (he : starEach (e :: es) X.env = (false, eval e X.env) :: starEach es X.env := by rfl) (hpl : (backTo pos (starEach es X.env)).any (·.1) = false := by rfl) :
    LE M X (.Call (.Name x p) (e :: es) [] pos) (tCB r t) (wCB f wl) := ⟨fun hK => by cases M; cases hK; exact pe_callB (hc.hc rfl) hg hm hv (ha.pa rfl) hn hdb he hpl, lf_cb hc.lf ha.lf⟩
theorem le_ct {x : Str} {p : Pos} {id : String} {t : TA} {wl : WL} {r : List V → Hp → VK → Prop} {f : List D → (Res → Prop) → Prop} (hc : LB M X (.type id) r f) (hg : Gl X x) (hm : X.mg x = none) (hv : bootBuiltins x = some (.type id)) (ha : LL M X (e :: es) t wl) (hn : x ≠ "__name__" := by decide) (hdb : (x == ("__debug__" : Str)) = false := by decide)
    (he : starEach (e :: es) X.env = (false, eval e X.env) :: starEach es X.env := by rfl) (hpl : (backTo pos (starEach es X.env)).any (·.1) = false := by rfl) :
    LE M X (.Call (.Name x p) (e :: es) [] pos) (tCB r t) (wCB f wl) := ⟨fun hK => by cases M; cases hK; exact pe_callTy (hc.hc rfl) hg hm hv (ha.pa rfl) hn hdb he hpl, lf_cb hc.lf ha.lf⟩
end
end Pl

set_option maxHeartbeats 4000000
namespace Pl
open PySem L2 RT RZ

/-! ### built-ins -/
section
variable {X : Cx} {M : Gm} {G H G' H' : Hp}
def lenF : List D → (Res → Prop) → Prop
  | [.lst xs], Q => Q (.fr (.int xs.length))
  | [.tup xs], Q => Q (.fr (.int xs.length))
  | [.scr ns], Q => Q (.fr (.int ns.length))
  | [.str z], Q => z.length ≤ 16777216 ∧ Q (.fr (.int z.length))
  | _, _ => False
abbrev rLen (K : PySem.W.Frag) : List V → Hp → VK → Prop := fun xs H Q => ∃ x n, xs = [x] ∧ LenV K x H n ∧ Q (.int n) H
theorem lb_len : LB M X (.builtin "len") (rLen M.K) lenF := ⟨fun hK => by cases M; cases hK; exact call_len, fun G H xs vs Q Q' gh hx hw k => by
  unfold lenF at hw
  split at hw
  · obtain ⟨v, rfl, h⟩ := rdbs1 hx
    obtain ⟨p, vs, rfl, h1, h2⟩ := rdb_lst h
    exact ⟨_, _, rfl, .inl ⟨vs, SqL.of h1, h2.len⟩, fin_fr gh hw (rep_int _) k⟩
  · obtain ⟨v, rfl, h⟩ := rdbs1 hx
    obtain ⟨p, vs, rfl, h1, h2⟩ := rdb_tupH gh h
    exact ⟨_, _, rfl, .inr ⟨vs, h1, h2.len⟩, fin_fr gh hw (rep_int _) k⟩
  · obtain ⟨v, rfl, h⟩ := rdbs1 hx
    obtain ⟨p, rfl, h1⟩ := rdb_scrH gh h
    exact ⟨_, _, rfl, .inl ⟨_, h1, (List.length_map _).symm⟩, fin_fr gh hw (rep_int _) k⟩
  · obtain ⟨v, rfl, h⟩ := rdbs1 hx
    cases rdb_str h
    exact ⟨_, _, rfl, ⟨Nat.le_trans hw.1 line24, rfl⟩, fin_fr gh hw.2 (rep_int _) k⟩
  · exact hw.elim⟩
def intF1 : List D → (Res → Prop) → Prop
  | [.int i], Q => Q (.fr (.int i))
  | [.bl b], Q => Q (.fr (.int (if b then 1 else 0)))
  | _, _ => False
abbrev rInt1 : List V → Hp → VK → Prop := fun xs H Q => (∃ i, xs = [.int i] ∧ Q (.int i) H) ∨ ∃ k, xs = [.bl k] ∧ Q (.int (if k then 1 else 0)) H
theorem lb_int : LB M X (.type "int") rInt1 intF1 := ⟨fun hK => by cases M; cases hK; exact call_int1, fun G H xs vs Q Q' gh hx hw k => by
  unfold intF1 at hw
  split at hw
  · obtain ⟨v, rfl, h⟩ := rdbs1 hx
    cases rdb_int h
    exact .inl ⟨_, rfl, fin_fr gh hw (rep_int _) k⟩
  · obtain ⟨v, rfl, h⟩ := rdbs1 hx
    cases rdb_bl h
    exact .inr ⟨_, rfl, fin_fr gh hw (rep_int _) k⟩
  · exact hw.elim⟩
def listF : List D → (Res → Prop) → Prop
  | [.lst xs], Q => Q (.nw (.lst xs))
  | [.tup xs], Q => Q (.nw (.lst xs))
  | [.scr ns], Q => Q (.nw (.lst (ns.map D.int)))
  | _, _ => False
theorem lb_list : LB M X (.type "list") (fun xs H Q => ∃ p ys, xs = [.ref p] ∧ (SqL M.K H p ys ∨ SqT M.K H p ys) ∧ ∀ l, H l = none → Q (.ref l) (upd H l (.lst ys))) listF := ⟨fun hK => by cases M; cases hK; exact call_list_of, fun G H xs vs Q Q' gh hx hw k => by
  unfold listF at hw
  split at hw
  · obtain ⟨v, rfl, h⟩ := rdbs1 hx
    obtain ⟨p, vs, rfl, h1, h2⟩ := rdb_lst h
    exact ⟨_, _, rfl, .inl (SqL.of h1), fun l hl => fin_nw gh hw h2 hl k⟩
  · obtain ⟨v, rfl, h⟩ := rdbs1 hx
    obtain ⟨p, vs, rfl, h1, h2⟩ := rdb_tupH gh h
    exact ⟨_, _, rfl, .inr h1, fun l hl => fin_nw gh hw h2 hl k⟩
  · obtain ⟨v, rfl, h⟩ := rdbs1 hx
    obtain ⟨p, rfl, h1⟩ := rdb_scrH gh h
    exact ⟨_, _, rfl, .inl h1, fun l hl => fin_nw gh hw (Reps.ints _) hl k⟩
  · exact hw.elim⟩
def tupF : List D → (Res → Prop) → Prop
  | [.lst xs], Q => Q (.fr (.tup xs))
  | [.tup xs], Q => Q (.fr (.tup xs))
  | _, _ => False
theorem lb_tuple : LB M X (.type "tuple") (fun xs H Q => ∃ p ys, xs = [.ref p] ∧ ((SqL M.K H p ys ∧ ∀ l, H l = none → Q (.ref l) (upd H l (.tup ys))) ∨ (SqT M.K H p ys ∧ Q (.ref p) H))) tupF := ⟨fun hK => by cases M; cases hK; exact call_tuple_of, fun G H xs vs Q Q' gh hx hw k => by
  unfold tupF at hw
  split at hw
  · obtain ⟨v, rfl, h⟩ := rdbs1 hx
    obtain ⟨p, vs, rfl, h1, h2⟩ := rdb_lst h
    exact ⟨_, _, rfl, .inl ⟨SqL.of h1, fun l hl => fin_tup gh hw h2 hl k⟩⟩
  · obtain ⟨v, rfl, h⟩ := rdbs1 hx
    obtain ⟨p, vs, rfl, h1, h2⟩ := rdb_tupH gh h
    exact ⟨_, _, rfl, .inr ⟨h1, fin_fr gh hw h k⟩⟩
  · exact hw.elim⟩
def absF : List D → (Res → Prop) → Prop
  | [.int i], Q => Q (.fr (.int (if i < 0 then -i else i)))
  | _, _ => False
theorem lb_abs : LB M X (.builtin "abs") (fun xs H Q => ∃ i, xs = [.int i] ∧ Q (.int (if i < 0 then -i else i)) H) absF := ⟨fun hK => by cases M; cases hK; exact call_abs, fun G H xs vs Q Q' gh hx hw k => by
  unfold absF at hw
  split at hw
  · obtain ⟨v, rfl, h⟩ := rdbs1 hx
    cases rdb_int h
    exact ⟨_, rfl, fin_fr gh hw (rep_int _) k⟩
  · exact hw.elim⟩
def max2F : List D → (Res → Prop) → Prop
  | [.int i, .int j], Q => Q (.fr (.int (if j > i then j else i)))
  | _, _ => False
def min2F : List D → (Res → Prop) → Prop
  | [.int i, .int j], Q => Q (.fr (.int (if j < i then j else i)))
  | _, _ => False
theorem lb_max2 (hc : X.calm = true) : LB M X (.builtin "max") (fun xs H Q => ∃ i j, xs = [.int i, .int j] ∧ Q (.int (if j > i then j else i)) H) max2F := ⟨fun hK => by cases M; cases hK; exact call_max2 hc, fun G H xs vs Q Q' gh hx hw k => by
  unfold max2F at hw
  split at hw
  · obtain ⟨v, w, rfl, h, h'⟩ := rdbs2 hx
    cases rdb_int h; cases rdb_int h'
    exact ⟨_, _, rfl, fin_fr gh hw (rep_int _) k⟩
  · exact hw.elim⟩
theorem lb_min2 (hc : X.calm = true) : LB M X (.builtin "min") (fun xs H Q => ∃ i j, xs = [.int i, .int j] ∧ Q (.int (if j < i then j else i)) H) min2F := ⟨fun hK => by cases M; cases hK; exact call_min2 hc, fun G H xs vs Q Q' gh hx hw k => by
  unfold min2F at hw
  split at hw
  · obtain ⟨v, w, rfl, h, h'⟩ := rdbs2 hx
    cases rdb_int h; cases rdb_int h'
    exact ⟨_, _, rfl, fin_fr gh hw (rep_int _) k⟩
  · exact hw.elim⟩
theorem reps_ints : ∀ {ns : List Int} {vs : List V}, Reps M G (ns.map D.int) vs → vs = ns.map V.int
  | [], vs, h => by unfold Reps at h; exact h
  | n :: ns, vs, h => by
    unfold Reps at h
    obtain ⟨v, r, rfl, h1, h2⟩ := h
    unfold Rep at h1
    subst h1
    rw [reps_ints h2]; rfl
def sumF : List D → (Res → Prop) → Prop
  | [.lst xs], Q => ∃ ns : List Int, xs = ns.map D.int ∧ Q (.fr (.int ns.sum))
  | _, _ => False
theorem lb_sum (hc : X.calm = true) : LB M X (.builtin "sum") (rSum M.K) sumF := ⟨fun hK => by cases M; cases hK; exact cr_sum hc, fun G H xs vs Q Q' gh hx hw k => by
  unfold sumF at hw
  split at hw
  · obtain ⟨v, rfl, h⟩ := rdbs1 hx
    obtain ⟨p, vs, rfl, h1, h2⟩ := rdb_lst h
    obtain ⟨ns, rfl, hw⟩ := hw
    exact ⟨p, ns, rfl, SqL.of (by rw [← reps_ints h2]; exact h1), fin_fr gh hw (rep_int _) k⟩
  · exact hw.elim⟩
def gcdF : List D → (Res → Prop) → Prop
  | [.int i, .int j], Q => Q (.fr (.int (Nat.gcd i.natAbs j.natAbs : Nat)))
  | _, _ => False
theorem lb_gcd : LB M X (.builtin "math.gcd") rGcd gcdF := ⟨fun hK => by cases M; cases hK; exact cr_gcd, fun G H xs vs Q Q' gh hx hw k => by
  unfold gcdF at hw
  split at hw
  · obtain ⟨v, w, rfl, h, h'⟩ := rdbs2 hx
    cases rdb_int h; cases rdb_int h'
    exact ⟨_, _, rfl, fin_fr gh hw (rep_int _) k⟩
  · exact hw.elim⟩
theorem le_cbf {x : Str} {p pos : Pos} {id : String} {e : Expr} {es : List Expr} {t : TA} {wl : WL} {r : List V → Hp → VK → Prop} {f : List D → (Res → Prop) → Prop} (hc : LB M X (.builtin id) r f) (hg : Gl X x) (hm : X.mg x = some (.builtin id)) (ha : LL M X (e :: es) t wl) (hdb : (x == ("__debug__" : Str)) = false := by decide)
    (he : starEach (e :: es) X.env = (false, eval e X.env) :: starEach es X.env := by rfl) (hpl : (backTo pos (starEach es X.env)).any (·.1) = false := by rfl) :
    LE M X (.Call (.Name x p) (e :: es) [] pos) (tCB r t) (wCB f wl) := ⟨fun hK => by cases M; cases hK; exact pe_callBfun (hc.hc rfl) hg hm (ha.pa rfl) hdb he hpl, lf_cb hc.lf ha.lf⟩

/-! isinstance -/
inductive Ty where
  | int | bool | str | list | tuple
def Ty.nm : Ty → String
  | .int => "int" | .bool => "bool" | .str => "str" | .list => "list" | .tuple => "tuple"
def isTy : D → Ty → Bool
  | .bl _, .bool => true
  | .bl _, .int => true
  | .int _, .int => true
  | .str _, .str => true
  | .lst _, .list => true
  | .scr _, .list => true
  | .tup _, .tuple => true
  | _, _ => false
def D.plain : D → Bool
  | .ins _ _ _ => false
  | _ => true
def D.ty : D → String
  | .non => "NoneType" | .bl _ => "bool" | .int _ => "int" | .str _ => "str" | .lst _ => "list" | .tup _ => "tuple" | .scr _ => "list" | .ins _ _ _ => ""
theorem tyx_L {K : PySem.W.Frag} {a : Addr} {xs : List V} (h : SqL K H a xs) : TyX K H (.ref a) (.type "list") := by
  rcases h with (h | ⟨o, h⟩) | ⟨o, its, n, h1, h2, _⟩
  · exact .base (.lst h)
  · exact .base (.frz h)
  · exact .kList h1 h2
theorem tyx_T {K : PySem.W.Frag} {a : Addr} {xs : List V} (h : SqT K H a xs) : TyX K H (.ref a) (.type "tuple") := by
  rcases h with (h | ⟨o, h⟩) | ⟨o, its, n, h1, h2, _⟩
  · exact .base (.tup h)
  · exact .fTuple h
  · exact .kTuple h1 h2
theorem rdb_ty (gh : Same G H) : ∀ {d : D} {v : V}, d.plain = true → Rdb M G H d v → TyX M.K H v (.type d.ty)
  | .non, v, _, h => by cases rdb_non h; exact .base .non
  | .bl _, v, _, h => by cases rdb_bl h; exact .base (.bl _)
  | .int _, v, _, h => by cases rdb_int h; exact .base (.int _)
  | .str _, v, _, h => by cases rdb_str h; exact .base (.str _)
  | .lst _, v, _, h => by obtain ⟨a, vs, rfl, h1, _⟩ := rdb_lst h; exact .base (.lst h1)
  | .tup _, v, _, h => by obtain ⟨a, vs, rfl, h1, _⟩ := rdb_tupH gh h; exact tyx_T h1
  | .scr _, v, _, h => by obtain ⟨a, rfl, h1⟩ := rdb_scrH gh h; exact tyx_L h1
  | .ins _ _ _, v, p, _ => by cases p
theorem kb0 : ∀ t : Ty, kitB "NoneType" t.nm = some (isTy (.non) t) := by intro t; cases t <;> decide +kernel
theorem kb1 : ∀ t : Ty, kitB "bool" t.nm = some (isTy (.bl true) t) := by intro t; cases t <;> decide +kernel
theorem kb2 : ∀ t : Ty, kitB "int" t.nm = some (isTy (.int 0) t) := by intro t; cases t <;> decide +kernel
theorem kb3 : ∀ t : Ty, kitB "str" t.nm = some (isTy (.str Str.empty) t) := by intro t; cases t <;> decide +kernel
theorem kb4 : ∀ t : Ty, kitB "list" t.nm = some (isTy (.lst []) t) := by intro t; cases t <;> decide +kernel
theorem kb5 : ∀ t : Ty, kitB "tuple" t.nm = some (isTy (.tup []) t) := by intro t; cases t <;> decide +kernel
theorem kb6 : ∀ t : Ty, kitB "list" t.nm = some (isTy (.scr []) t) := by intro t; cases t <;> decide +kernel
theorem kit_isTy (K : PySem.W.Frag) : ∀ (d : D) (t : Ty), d.plain = true → PySem.W.kitOne K (.type d.ty) (.type t.nm) = some (isTy d t)
  | .non, t, _ => by cases t <;> exact kit_ty (kb0 _)
  | .bl _, t, _ => by cases t <;> exact kit_ty (kb1 _)
  | .int _, t, _ => by cases t <;> exact kit_ty (kb2 _)
  | .str _, t, _ => by cases t <;> exact kit_ty (kb3 _)
  | .lst _, t, _ => by cases t <;> exact kit_ty (kb4 _)
  | .tup _, t, _ => by cases t <;> exact kit_ty (kb5 _)
  | .scr _, t, _ => by cases t <;> exact kit_ty (kb6 _)
  | .ins _ _ _, t, h => by cases h
/-- isinstance(e, T) -/
def wIsi (ty : Ty) (ra : WR) : WE := fun τ Q => ra τ fun d => d.plain = true ∧ Q (.fr (.bl (isTy d ty)))
theorem le_isi {a : Expr} {ta : TE} {ra : WR} (ty : Ty) {x y : Str} {p q pos : Pos} (hg : Gl X x) (hm : X.mg x = none) (hv : bootBuiltins x = some (.builtin "isinstance")) (ha : LR M X a ta ra) (hgy : Gl X y) (hmy : X.mg y = none) (hvy : bootBuiltins y = some (.type ty.nm))
    (hn : x ≠ "__name__" := by decide) (hdb : (x == ("__debug__" : Str)) = false := by decide) (hny : y ≠ "__name__" := by decide) (hdy : (y == ("__debug__" : Str)) = false := by decide)
    (he : starEach [a, .Name y q] X.env = (false, eval a X.env) :: starEach [.Name y q] X.env := by rfl) (he2 : starEach [.Name y q] X.env = (false, eval (.Name y q) X.env) :: starEach [] X.env := by rfl) (hpl : (backTo pos (starEach [.Name y q] X.env)).any (·.1) = false := by rfl) :
    LE M X (.Call (.Name x p) [a, .Name y q] [] pos) (tCB (rIsi M.K) (tCons ta (tCons (tC (.ty ty.nm)) tNil))) (wIsi ty ra) :=
  ⟨fun hK => by cases M; cases hK; exact pe_callB call_isi hg hm hv (pa_cons (ha.pe rfl) (pa_cons (pe_bltn hgy hmy hvy (by rfl) hny hdy) pa_nil he2) he) hn hdb he hpl, fun B G0 G H τ σ Q Q' s hw k =>
    ha.lf B G0 G H τ σ _ _ s hw fun d v G1 H1 q1 x1 r1 => ⟨v, _, _, _, _, rfl, .ty _, rdb_ty x1.gh q1.1 r1, kit_isTy _ d ty q1.1, k _ _ G1 H1 q1.2 x1 (rep_bl (M := M) (G := G1) _)⟩⟩
/-- isinstance(e, (T, U)) -/
def wIsi2 (ty tz : Ty) (ra : WR) : WE := fun τ Q => ra τ fun d => d.plain = true ∧ Q (.fr (.bl (isTy d ty || isTy d tz)))
theorem kit_isTy2 (K : PySem.W.Frag) (d : D) (t u : Ty) (h : d.plain = true) : PySem.W.kitAny K (.type d.ty) [.type t.nm, .type u.nm] = some (isTy d t || isTy d u) := by
  refine kitAny_cons (kit_isTy K d t h) (fun e => ?_) (fun e => by rw [e]; rfl)
  rw [e, Bool.false_or]
  refine kitAny_cons (kit_isTy K d u h) (fun e => ?_) (fun e => by rw [e])
  rw [e]; rfl
theorem le_isi2 {a : Expr} {ta : TE} {ra : WR} (ty tz : Ty) {x y z : Str} {p q r pos pt : Pos} {x1} (hg : Gl X x) (hm : X.mg x = none) (hv : bootBuiltins x = some (.builtin "isinstance")) (ha : LR M X a ta ra) (hgy : Gl X y) (hmy : X.mg y = none) (hvy : bootBuiltins y = some (.type ty.nm)) (hgz : Gl X z) (hmz : X.mg z = none) (hvz : bootBuiltins z = some (.type tz.nm))
    (hn : x ≠ "__name__" := by decide) (hdb : (x == ("__debug__" : Str)) = false := by decide) (hny : y ≠ "__name__" := by decide) (hdy : (y == ("__debug__" : Str)) = false := by decide) (hnz : z ≠ "__name__" := by decide) (hdz : (z == ("__debug__" : Str)) = false := by decide)
    (he : starEach [a, .Tuple [.Name y q, .Name z r] x1 pt] X.env = (false, eval a X.env) :: starEach [.Tuple [.Name y q, .Name z r] x1 pt] X.env := by rfl) (he2 : starEach [.Tuple [.Name y q, .Name z r] x1 pt] X.env = (false, eval (.Tuple [.Name y q, .Name z r] x1 pt) X.env) :: starEach [] X.env := by rfl)
    (he3 : starEach [.Name y q, .Name z r] X.env = (false, eval (.Name y q) X.env) :: starEach [.Name z r] X.env := by rfl) (he4 : starEach [.Name z r] X.env = (false, eval (.Name z r) X.env) :: starEach [] X.env := by rfl)
    (hpl : (backTo pos (starEach [.Tuple [.Name y q, .Name z r] x1 pt] X.env)).any (·.1) = false := by rfl) :
    LE M X (.Call (.Name x p) [a, .Tuple [.Name y q, .Name z r] x1 pt] [] pos) (tCB (rIsiT M.K) (tCons ta (tCons (tTup (tCons (tC (.ty ty.nm)) (tCons (tC (.ty tz.nm)) tNil))) tNil))) (wIsi2 ty tz ra) :=
  ⟨fun hK => by cases M; cases hK; exact pe_callB call_isiT hg hm hv (pa_cons (ha.pe rfl) (pa_cons (pe_tup (pa_cons (pe_bltn hgy hmy hvy (by rfl) hny hdy) (pa_cons (pe_bltn hgz hmz hvz (by rfl) hnz hdz) pa_nil he4) he3)) pa_nil he2) he) hn hdb he hpl, fun B G0 G H τ σ Q Q' s hw k =>
    ha.lf B G0 G H τ σ _ _ s hw fun d v G1 H1 q1 x1 r1 => ⟨by show 2 ≤ sizeLine; decide, fun tp htp => by
      have x2 := Ext.allocH x1.gh (.tup [.ty ty.nm, .ty tz.nm]) htp
      refine ⟨v, tp, _, _, _, _, rfl, upd_same, .cons (.ty _) (.cons (.ty _) .nil), rdb_ty x2.gh q1.1 (r1.ext x2), kit_isTy2 _ d ty tz q1.1, k _ _ G1 _ q1.2 (x1.trans x2) (rep_bl (M := M) (G := G1) _)⟩⟩⟩
end

/-! ### what is walked -/
structure Yld (M : Gm) (B G : Hp) (J : It) (xs : List D) : Prop where
  go : ∀ G' H' i, Same G G' → Same B H' → Same G' H' → i < xs.length → J.go i H'
  stop : ∀ G' H' i, Same G G' → Same B H' → Same G' H' → xs.length ≤ i → J.stop i H'
  yl : ∀ G' H' i x H'', Same G G' → Same B H' → Same G' H' → J.yld i H' x H'' → i < xs.length → ∃ G'', Ext G' H' G'' H'' ∧ ∃ d, xs[i]? = some d ∧ Rep M G'' d x
abbrev WW := Sls → (List D → Prop) → Prop
def LfW (M : Gm) (t : TI) (w : WW) : Prop := ∀ B G0 G H τ σ (Q : List D → Prop) (R : It → Hp → Prop), Stt M B G0 G H τ σ → w τ Q →
  (∀ xs J G' H', Q xs → Ext G H G' H' → Yld M B G' J xs → R J H') → t σ H R
structure LWk (M : Gm) (X : Cx) (tg iter : Expr) (t : TI) (w : WW) : Prop where
  pi : X.K = M.K → PI X tg iter t
  lf : LfW M t w
section
variable {X : Cx} {M : Gm} {B G H G' H' : Hp} {a b e tg : Expr} {pos p : Pos} {te : TE} {we : WE}
theorem yld_L {a : Addr} {vs : List V} {ds : List D} (hL : ∀ G' H', Same G G' → Same B H' → Same G' H' → SqL M.K H' a vs) (hr : Reps M G ds vs) : Yld M B G (Itl M.K a) ds where
  go := fun G' H' i g b gh hi => ⟨vs, vs[i]'(by rw [← hr.len]; exact hi), hL G' H' g b gh, List.getElem?_eq_getElem _⟩
  stop := fun G' H' i g b gh hi => ⟨vs, hL G' H' g b gh, by rw [← hr.len]; exact hi⟩
  yl := fun G' H' i x H'' g b gh y hi => by
    obtain ⟨rfl, y⟩ := y
    obtain ⟨d, h1, h2⟩ := hr.get' (y vs (hL G' _ g b gh))
    exact ⟨G', Ext.refl gh, d, h1, Rep.mono g h2⟩
theorem yld_T {a : Addr} {vs : List V} {ds : List D} (hL : ∀ G' H', Same G G' → Same B H' → Same G' H' → SqT M.K H' a vs) (hr : Reps M G ds vs) : Yld M B G (Itt M.K a) ds where
  go := fun G' H' i g b gh hi => ⟨vs, vs[i]'(by rw [← hr.len]; exact hi), hL G' H' g b gh, List.getElem?_eq_getElem _⟩
  stop := fun G' H' i g b gh hi => ⟨vs, hL G' H' g b gh, by rw [← hr.len]; exact hi⟩
  yl := fun G' H' i x H'' g b gh y hi => by
    obtain ⟨rfl, y⟩ := y
    obtain ⟨d, h1, h2⟩ := hr.get' (y vs (hL G' _ g b gh))
    exact ⟨G', Ext.refl gh, d, h1, Rep.mono g h2⟩
theorem yld_r (lo : Int) (n : Nat) : Yld M B G (Itr lo n) ((List.range n).map fun i => D.int (lo + (i : Nat))) where
  go := fun G' H' i g b gh hi => by show i < n; simpa using hi
  stop := fun G' H' i g b gh hi => by show n ≤ i; simpa using hi
  yl := fun G' H' i x H'' g b gh y hi => by
    obtain ⟨rfl, rfl⟩ := y
    have hi : i < n := by simpa using hi
    exact ⟨G', Ext.refl gh, .int (lo + (i : Nat)), by simp [hi], rep_int _⟩
theorem yld_c (lo c : Int) (n : Nat) : Yld M B G (Itc lo c n) ((List.range n).map fun i => D.int (lo + (i : Nat) * c)) where
  go := fun G' H' i g b gh hi => by show i < n; simpa using hi
  stop := fun G' H' i g b gh hi => by show n ≤ i; simpa using hi
  yl := fun G' H' i x H'' g b gh y hi => by
    obtain ⟨rfl, rfl⟩ := y
    have hi : i < n := by simpa using hi
    exact ⟨G', Ext.refl gh, .int (lo + (i : Nat) * c), by simp [hi], rep_int _⟩
theorem rev_get {α : Type} {xs : List α} {i : Nat} (h : i < xs.length) : xs.reverse[i]? = xs[xs.length - 1 - i]? := by
  rw [List.getElem?_reverse h]
theorem yld_vL {a : Addr} {vs : List V} {ds : List D} (hL : ∀ G' H', Same G G' → Same B H' → Same G' H' → SqL M.K H' a vs) (hr : Reps M G ds vs) : Yld M B G (Itv M.K a vs.length) ds.reverse where
  go := fun G' H' i g b gh hi => by
    have hi : i < vs.length := by rw [← hr.len]; simpa using hi
    exact ⟨hi, vs, vs[vs.length - 1 - i]'(by omega), hL G' H' g b gh, List.getElem?_eq_getElem _⟩
  stop := fun G' H' i g b gh hi => by
    show vs.length ≤ i
    rw [← hr.len]; simpa using hi
  yl := fun G' H' i x H'' g b gh y hi => by
    obtain ⟨rfl, y⟩ := y
    have hi : i < ds.length := by simpa using hi
    obtain ⟨d, h1, h2⟩ := hr.get' (y vs (hL G' _ g b gh))
    exact ⟨G', Ext.refl gh, d, by rw [rev_get hi, hr.len]; exact h1, Rep.mono g h2⟩
theorem yld_vT {a : Addr} {vs : List V} {ds : List D} (hL : ∀ G' H', Same G G' → Same B H' → Same G' H' → SqT M.K H' a vs) (hr : Reps M G ds vs) : Yld M B G (ItvT M.K a vs.length) ds.reverse where
  go := fun G' H' i g b gh hi => by
    have hi : i < vs.length := by rw [← hr.len]; simpa using hi
    exact ⟨hi, vs, vs[vs.length - 1 - i]'(by omega), hL G' H' g b gh, List.getElem?_eq_getElem _⟩
  stop := fun G' H' i g b gh hi => by
    show vs.length ≤ i
    rw [← hr.len]; simpa using hi
  yl := fun G' H' i x H'' g b gh y hi => by
    obtain ⟨rfl, y⟩ := y
    have hi : i < ds.length := by simpa using hi
    obtain ⟨d, h1, h2⟩ := hr.get' (y vs (hL G' _ g b gh))
    exact ⟨G', Ext.refl gh, d, by rw [rev_get hi, hr.len]; exact h1, Rep.mono g h2⟩
theorem rep_lst {ds : List D} {v : V} (h : Rep M G (.lst ds) v) : ∃ a vs, v = .ref a ∧ G a = some (.lst vs) ∧ Reps M G ds vs := by unfold Rep at h; exact h
theorem rep_tup {ds : List D} {v : V} (h : Rep M G (.tup ds) v) : ∃ a vs, v = .ref a ∧ SqT M.K G a vs ∧ Reps M G ds vs := by unfold Rep at h; exact h
theorem rep_scr {ds : List Int} {v : V} (h : Rep M G (.scr ds) v) : ∃ a, v = .ref a ∧ SqL M.K G a (ds.map V.int) := by unfold Rep at h; exact h
/-- for x in e, e a list -/
def wWL (we : WE) : WW := fun τ Q => we τ fun r => match r.d with
  | .lst xs => Q xs
  | .scr ns => Q (ns.map D.int)
  | _ => False
theorem lk_list (h : LE M X e te we) : LWk M X tg e (iList M.K te) (wWL we) := ⟨fun hK => by cases M; cases hK; exact pi_list (h.pe rfl), fun B G0 G H τ σ Q R s hw k => h.lf.frz (Q := fun d => match d with
  | .lst xs => Q xs
  | .scr ns => Q (ns.map D.int)
  | _ => False) s hw fun d v G1 H1 q1 x1 r1 => by
    split at q1
    · obtain ⟨a, vs, rfl, h1, h2⟩ := rep_lst r1
      exact ⟨a, rfl, ⟨vs, SqL.of (x1.gh _ _ h1)⟩, k _ _ G1 H1 q1 x1 (yld_L (fun G' H' g b gh => SqL.of (gh _ _ (g _ _ h1))) h2)⟩
    · obtain ⟨a, rfl, h1⟩ := rep_scr r1
      exact ⟨a, rfl, ⟨_, same_L x1.gh h1⟩, k _ _ G1 H1 q1 x1 (yld_L (fun G' H' g b gh => same_L gh (same_L g h1)) (Reps.ints _))⟩
    · exact q1.elim⟩
/-- .. a name's list, lent -/
def wWB (i : Nat) : WW := fun τ Q => match τ[i]? with
  | some (some (.bor (.lst xs))) => Q xs
  | some (some (.frz (.lst xs))) => Q xs
  | some (some (.frz (.scr ns))) => Q (ns.map D.int)
  | _ => False
theorem lk_bor (i : Nat) (h : PE X e (tVar i)) : LWk M X tg e (iList M.K (tVar i)) (wWB i) := ⟨fun hK => by cases M; cases hK; exact pi_list h, fun B G0 G H τ σ Q R s hw k => by
  unfold wWB at hw
  split at hw
  · rename_i xs e
    obtain ⟨v, h1, h2⟩ := s.ok i _ e
    obtain ⟨a, vs, rfl, h3, h4⟩ := (show Rdb _ G B (.lst xs) v from h2)
    exact ⟨_, h1, a, rfl, ⟨vs, SqL.of (s.bh _ _ h3)⟩, k _ _ G H hw (Ext.refl s.gh) (yld_L (fun G' H' g b gh => SqL.of (b _ _ h3)) h4)⟩
  · rename_i xs e
    obtain ⟨v, h1, h2⟩ := s.ok i _ e
    obtain ⟨a, vs, rfl, h3, h4⟩ := rep_lst (show Rep _ G (.lst xs) v from h2)
    exact ⟨_, h1, a, rfl, ⟨vs, SqL.of (s.gh _ _ h3)⟩, k _ _ G H hw (Ext.refl s.gh) (yld_L (fun G' H' g b gh => SqL.of (gh _ _ (g _ _ h3))) h4)⟩
  · rename_i xs e
    obtain ⟨v, h1, h2⟩ := s.ok i _ e
    obtain ⟨a, rfl, h3⟩ := rep_scr (show Rep _ G (.scr xs) v from h2)
    exact ⟨_, h1, a, rfl, ⟨_, same_L s.gh h3⟩, k _ _ G H hw (Ext.refl s.gh) (yld_L (fun G' H' g b gh => same_L gh (same_L g h3)) (Reps.ints _))⟩
  · exact hw.elim⟩
/-- e a tuple -/
def wWT (we : WE) : WW := fun τ Q => we τ fun r => match r with
  | .fr (.tup xs) => Q xs
  | _ => False
theorem lk_tup (h : LE M X e te we) : LWk M X tg e (iTup M.K te) (wWT we) := ⟨fun hK => by cases M; cases hK; exact pi_tup (h.pe rfl), fun B G0 G H τ σ Q R s hw k => h.lf B G0 G H τ σ _ _ s hw fun r v G1 H1 q1 x1 r1 => by
    split at q1
    · obtain ⟨a, vs, rfl, h1, h2⟩ := rep_tup (show Rep _ G1 (.tup _) v from r1)
      exact ⟨a, rfl, ⟨vs, same_T x1.gh h1⟩, k _ _ G1 H1 q1 x1 (yld_T (fun G' H' g b gh => same_T gh (same_T g h1)) h2)⟩
    · exact q1.elim⟩
/-- range -/
def rgD (lo hi : Int) : List D := (List.range (hi - lo).toNat).map fun i => D.int (lo + (i : Nat))
def wWR1 (ra : WR) : WW := fun τ Q => ra τ fun d => match d with
  | .int n => (-(2 ^ 62) ≤ n ∧ n < 2 ^ 62) ∧ Q (rgD 0 n)
  | _ => False
theorem lk_range1 {ra : WR} (hg : Gl X "range") (hm : X.mg "range" = none) (ha : LR M X e te ra) (hs : starEach [e] X.env = [(false, eval e X.env)] := by rfl) (hs2 : starEach [e] X.env = (false, eval e X.env) :: starEach [] X.env := by rfl) : LWk M X tg (.Call (.Name "range" p) [e] [] pos) (iRng1 (tCons te tNil)) (wWR1 ra) :=
  ⟨fun hK => by cases M; cases hK; exact pi_range1 hg hm (pa_cons (ha.pe rfl) pa_nil hs2) hs, fun B G0 G H τ σ Q R s hw k => ha.lf B G0 G H τ σ _ _ s hw fun d v G1 H1 q1 x1 r1 => by
    split at q1
    · cases rdb_int r1
      obtain ⟨⟨h1, h2⟩, q1⟩ := q1
      rename_i n
      refine ⟨n, rfl, h1, h2, k _ _ G1 H1 q1 x1 ?_⟩
      unfold rgD
      rw [show (n - 0 : Int) = n from by omega]
      exact yld_r 0 n.toNat
    · exact q1.elim⟩
def wWR2 (ra rb : WR) : WW := fun τ Q => ra τ fun d => rb τ fun d' => match d, d' with
  | .int m, .int n => (-(2 ^ 62) ≤ m ∧ m < 2 ^ 62 ∧ -(2 ^ 62) ≤ n ∧ n < 2 ^ 62) ∧ Q (rgD m n)
  | _, _ => False
theorem lk_range2 {ra rb : WR} {tb : TE} (hg : Gl X "range") (hm : X.mg "range" = none) (ha : LR M X a te ra) (hb : LR M X b tb rb) (hs : starEach [a, b] X.env = [(false, eval a X.env), (false, eval b X.env)] := by rfl) (hs2 : starEach [b] X.env = [(false, eval b X.env)] := by rfl)
    (hs3 : starEach [a, b] X.env = (false, eval a X.env) :: starEach [b] X.env := by rfl) (hs4 : starEach [b] X.env = (false, eval b X.env) :: starEach [] X.env := by rfl) : LWk M X tg (.Call (.Name "range" p) [a, b] [] pos) (iRng2 (tCons te (tCons tb tNil))) (wWR2 ra rb) :=
  ⟨fun hK => by cases M; cases hK; exact pi_range2 hg hm (pa_cons (ha.pe rfl) (pa_cons (hb.pe rfl) pa_nil hs4) hs3) hs hs2, fun B G0 G H τ σ Q R s hw k => ha.lf B G0 G H τ σ _ _ s hw fun d v G1 H1 q1 x1 r1 => hb.lf B G0 G1 H1 τ σ _ _ (s.ext x1) q1 fun d2 v2 G2 H2 q2 x2 r2 => by
    split at q2
    · cases rdb_int r1; cases rdb_int r2
      obtain ⟨h1, q2⟩ := q2
      exact ⟨_, _, rfl, h1, k _ _ G2 H2 q2 (x1.trans x2) (yld_r _ _)⟩
    · exact q2.elim⟩
end
end Pl

set_option maxHeartbeats 4000000
namespace Pl
open PySem L2 RT RZ

section
variable {X : Cx} {M : Gm} {B G H G' H' : Hp} {a b c e e2 tg : Expr} {pos p : Pos} {te tb tc : TE} {we wb wc : WE} {ra rb rc : WR}
/-- reversed(e): a list or a tuple -/
def wWRev (we : WE) : WW := fun τ Q => we τ fun r => match r.d with
  | .lst xs => Q xs.reverse
  | .tup xs => Q xs.reverse
  | _ => False
theorem lk_rev (hg : Gl X "reversed") (hm : X.mg "reversed" = none) (h : LE M X e te we) (hs : starEach [e] X.env = (false, eval e X.env) :: starEach [] X.env := by rfl) : LWk M X tg (.Call (.Name "reversed" p) [e] [] pos) (iRevA M.K te) (wWRev we) :=
  ⟨fun hK => by cases M; cases hK; exact pi_revA hg hm (h.pe rfl) hs, fun B G0 G H τ σ Q R s hw k => h.lf.frz (Q := fun d => match d with
  | .lst xs => Q xs.reverse
  | .tup xs => Q xs.reverse
  | _ => False) s hw fun d v G1 H1 q1 x1 r1 => by
    split at q1
    · obtain ⟨a, vs, rfl, h1, h2⟩ := rep_lst r1
      exact ⟨a, vs, rfl, .inl ⟨SqL.of (x1.gh _ _ h1), k _ _ G1 H1 q1 x1 (yld_vL (fun G' H' g b gh => SqL.of (gh _ _ (g _ _ h1))) h2)⟩⟩
    · obtain ⟨a, vs, rfl, h1, h2⟩ := rep_tup r1
      exact ⟨a, vs, rfl, .inr ⟨same_T x1.gh h1, k _ _ G1 H1 q1 x1 (yld_vT (fun G' H' g b gh => same_T gh (same_T g h1)) h2)⟩⟩
    · exact q1.elim⟩
/-- range(a, b, c), c written -/
def wWR3 (ra rb rc : WR) : WW := fun τ Q => ra τ fun d => rb τ fun d' => rc τ fun d'' => match d, d', d'' with
  | .int i, .int j, .int c => ∃ n, RgC i j c n ∧ Q ((List.range n).map fun k => D.int (i + (k : Nat) * c))
  | _, _, _ => False
theorem lk_range3 (hg : Gl X "range") (hm : X.mg "range" = none) (ha : LR M X a te ra) (hb : LR M X b tb rb) (hc : LR M X c tc rc) (hp : X.K = M.K → PI X tg (.Call (.Name "range" p) [a, b, c] [] pos) (iRng3 (tCons te (tCons tb (tCons tc tNil))))) : LWk M X tg (.Call (.Name "range" p) [a, b, c] [] pos) (iRng3 (tCons te (tCons tb (tCons tc tNil)))) (wWR3 ra rb rc) :=
  ⟨hp, fun B G0 G H τ σ Q R s hw k => ha.lf B G0 G H τ σ _ _ s hw fun d v G1 H1 q1 x1 r1 => hb.lf B G0 G1 H1 τ σ _ _ (s.ext x1) q1 fun d2 v2 G2 H2 q2 x2 r2 => hc.lf B G0 G2 H2 τ σ _ _ (s.ext (x1.trans x2)) q2 fun d3 v3 G3 H3 q3 x3 r3 => by
    split at q3
    · cases rdb_int r1; cases rdb_int r2; cases rdb_int r3
      obtain ⟨n, h1, q3⟩ := q3
      exact ⟨_, _, _, n, rfl, h1, k _ _ G3 H3 q3 ((x1.trans x2).trans x3) (yld_c _ _ _)⟩
    · exact q3.elim⟩
/-- a text, sign by sign -/
def wWS (ra : WR) : WW := fun τ Q => ra τ fun d => match d with
  | .str z => Q (z.cps.toList.map fun c => D.str ⟨#[c]⟩)
  | _ => False
theorem yld_s (z : Str) : Yld M B G (Its z) (z.cps.toList.map fun c => D.str ⟨#[c]⟩) where
  go := fun G' H' i g b gh hi => by show i < z.cps.size; simpa using hi
  stop := fun G' H' i g b gh hi => by show z.cps.size ≤ i; simpa using hi
  yl := fun G' H' i x H'' g b gh y hi => by
    obtain ⟨rfl, c, h1, rfl⟩ := y
    refine ⟨G', Ext.refl gh, .str ⟨#[c]⟩, ?_, rep_str _⟩
    simp [h1]
theorem lk_str (h : LR M X e te ra) : LWk M X tg e (iStr te) (wWS ra) := ⟨fun hK => by cases M; cases hK; exact pi_str (h.pe rfl), fun B G0 G H τ σ Q R s hw k => h.lf B G0 G H τ σ _ _ s hw fun d v G1 H1 q1 x1 r1 => by
    split at q1
    · exact ⟨_, rdb_str r1, k _ _ G1 H1 q1 x1 (yld_s _)⟩
    · exact q1.elim⟩
/-- zip of two lists or of two tuples -/
def zipD : List D → List D → List D
  | x :: xs, y :: ys => .tup [x, y] :: zipD xs ys
  | _, _ => []
theorem zipD_len : ∀ xs ys : List D, (zipD xs ys).length = min xs.length ys.length
  | [], ys => by simp [zipD]
  | x :: xs, [] => by simp [zipD]
  | x :: xs, y :: ys => by simp [zipD, zipD_len xs ys]
theorem zipD_get : ∀ {xs ys : List D} {i : Nat} {x y : D}, xs[i]? = some x → ys[i]? = some y → (zipD xs ys)[i]? = some (.tup [x, y])
  | [], ys, i, x, y, h, _ => by simp at h
  | x :: xs, [], i, _, y, _, h => by simp at h
  | x :: xs, y :: ys, 0, _, _, h, h' => by simp at h h'; subst h h'; rfl
  | x :: xs, y :: ys, i + 1, _, _, h, h' => by simp at h h'; simp [zipD]; exact zipD_get h h'
theorem yld_z {a b : Addr} {vs ws : List V} {ds es : List D} (hL : ∀ G' H', Same G G' → Same B H' → Same G' H' → SqL M.K H' a vs) (hr : Reps M G ds vs) (hL2 : ∀ G' H', Same G G' → Same B H' → Same G' H' → SqL M.K H' b ws) (hr2 : Reps M G es ws) : Yld M B G (Itz M.K a b) (zipD ds es) where
  go := fun G' H' i g bb gh hi => by
    rw [zipD_len, hr.len, hr2.len] at hi
    exact ⟨vs, ws, vs[i]'(by omega), ws[i]'(by omega), hL G' H' g bb gh, hL2 G' H' g bb gh, List.getElem?_eq_getElem _, List.getElem?_eq_getElem _⟩
  stop := fun G' H' i g bb gh hi => by
    rw [zipD_len, hr.len, hr2.len] at hi
    exact ⟨vs, ws, hL G' H' g bb gh, hL2 G' H' g bb gh, by omega⟩
  yl := fun G' H' i x H'' g bb gh y hi => by
    obtain ⟨T, x1, y1, rfl, hT, rfl, h1, h2⟩ := y
    obtain ⟨d, h3, h4⟩ := hr.get' (h1 vs (hL G' _ g bb gh))
    obtain ⟨d', h5, h6⟩ := hr2.get' (h2 ws (hL2 G' _ g bb gh))
    have xx := Ext.alloc gh (.tup [x1, y1]) hT
    refine ⟨_, xx, _, zipD_get h3 h5, ?_⟩
    unfold Rep
    exact ⟨T, _, rfl, SqT.of upd_same, .cons (Rep.mono xx.g (Rep.mono g h4)) (.cons (Rep.mono xx.g (Rep.mono g h6)) .nil)⟩
theorem yld_zT {a b : Addr} {vs ws : List V} {ds es : List D} (hL : ∀ G' H', Same G G' → Same B H' → Same G' H' → SqT M.K H' a vs) (hr : Reps M G ds vs) (hL2 : ∀ G' H', Same G G' → Same B H' → Same G' H' → SqT M.K H' b ws) (hr2 : Reps M G es ws) : Yld M B G (ItzT M.K a b) (zipD ds es) where
  go := fun G' H' i g bb gh hi => by
    rw [zipD_len, hr.len, hr2.len] at hi
    exact ⟨vs, ws, vs[i]'(by omega), ws[i]'(by omega), hL G' H' g bb gh, hL2 G' H' g bb gh, List.getElem?_eq_getElem _, List.getElem?_eq_getElem _⟩
  stop := fun G' H' i g bb gh hi => by
    rw [zipD_len, hr.len, hr2.len] at hi
    exact ⟨vs, ws, hL G' H' g bb gh, hL2 G' H' g bb gh, by omega⟩
  yl := fun G' H' i x H'' g bb gh y hi => by
    obtain ⟨T, x1, y1, rfl, hT, rfl, h1, h2⟩ := y
    obtain ⟨d, h3, h4⟩ := hr.get' (h1 vs (hL G' _ g bb gh))
    obtain ⟨d', h5, h6⟩ := hr2.get' (h2 ws (hL2 G' _ g bb gh))
    have xx := Ext.alloc gh (.tup [x1, y1]) hT
    refine ⟨_, xx, _, zipD_get h3 h5, ?_⟩
    unfold Rep
    exact ⟨T, _, rfl, SqT.of upd_same, .cons (Rep.mono xx.g (Rep.mono g h4)) (.cons (Rep.mono xx.g (Rep.mono g h6)) .nil)⟩
def zipQ : D → D → (List D → Prop) → Prop
  | .lst xs, .lst ys, Q => Q (zipD xs ys)
  | .tup xs, .tup ys, Q => Q (zipD xs ys)
  | _, _, _ => False
def wWZ (wa wb : WE) : WW := fun τ Q => wa τ fun r => wb τ fun r' => zipQ r.d r'.d Q
theorem lk_zip {elts : List Expr} {kk : Nat} {tpos : Pos} (hg : Gl X "zip") (hm : X.mg "zip" = none) (h : LE M X e te we) (h2 : LE M X e2 tb wb)
    (hs : starEach [e, e2] X.env = (false, eval e X.env) :: starEach [e2] X.env := by rfl) (hpl : (backTo pos (starEach [e2] X.env)).any (·.1) = false := by rfl) (hs2 : starEach [e2] X.env = (false, eval e2 X.env) :: starEach [] X.env := by rfl) :
    LWk M X (.Tuple elts kk tpos) (.Call (.Name "zip" p) [e, e2] [] pos) (iZipA M.K (tCons te (tCons tb tNil))) (wWZ we wb) :=
  ⟨fun hK => by cases M; cases hK; exact pi_zipA hg hm (pa_cons (h.pe rfl) (pa_cons (h2.pe rfl) pa_nil hs2) hs) hs hpl, fun B G0 G H τ σ Q R s hw k => h.lf.frz (Q := fun d => wb τ fun r' => zipQ d r'.d Q) s hw fun d v G1 H1 q1 x1 r1 => h2.lf.frz (Q := fun d' => zipQ d d' Q) (s.ext x1) q1 fun d' v2 G2 H2 q2 x2 r2 => by
    unfold zipQ at q2
    split at q2
    · obtain ⟨a, vs, rfl, h1, h2⟩ := rep_lst (Rep.mono x2.g r1)
      obtain ⟨b, ws, rfl, h3, h4⟩ := rep_lst r2
      exact ⟨a, b, vs, ws, rfl, .inl ⟨SqL.of (x2.gh _ _ h1), SqL.of (x2.gh _ _ h3), k _ _ G2 H2 q2 (x1.trans x2) (yld_z (fun G' H' g b gh => SqL.of (gh _ _ (g _ _ h1))) h2 (fun G' H' g b gh => SqL.of (gh _ _ (g _ _ h3))) h4)⟩⟩
    · obtain ⟨a, vs, rfl, h1, h2⟩ := rep_tup (Rep.mono x2.g r1)
      obtain ⟨b, ws, rfl, h3, h4⟩ := rep_tup r2
      exact ⟨a, b, vs, ws, rfl, .inr ⟨same_T x2.gh h1, same_T x2.gh h3, k _ _ G2 H2 q2 (x1.trans x2) (yld_zT (fun G' H' g b gh => same_T gh (same_T g h1)) h2 (fun G' H' g b gh => same_T gh (same_T g h3)) h4)⟩⟩
    · exact q2.elim⟩

/-! ### targets -/
abbrev WG := D → Sls → (Sls → Prop) → Prop
def setS (τ : Sls) (i : Nat) (d : D) : Sls := τ.set i (some (.frz d))
def LfG (M : Gm) (g : TG) (w : WG) (is : List Nat) : Prop := ∀ B G0 G H τ σ d v (Q : Sls → Prop) (Q' : L2.St → Hp → Prop), Stt M B G0 G H τ σ → Rep M G d v → w d τ Q →
  (∀ τ' σ', Q τ' → Stt M B G0 G H τ' σ' → (∀ i, i ∉ is → σ'[i]? = σ[i]?) → σ'.length = σ.length → Q' σ' H) → g v σ H Q'
structure LG (M : Gm) (X : Cx) (tg : Expr) (g : TG) (w : WG) (is : List Nat) : Prop where
  pg : X.K = M.K → PG X tg g
  lf : LfG M g w is
def gN (i : Nat) : WG := fun d τ Q => Q (setS τ i d)
theorem lf_gn (M : Gm) (i : Nat) : LfG M (gName i) (gN i) [i] := fun B G0 G H τ σ d v Q Q' s r hw k =>
  k _ _ hw (s.setF r) (fun j hj => by rw [List.getElem?_set_ne]; intro e; subst e; exact hj (by simp)) (by simp)
theorem lg_name {i : Nat} {x : Str} (hN : X.N.Nodup) (hi : X.N[i]? = some x) (hx : Loc X.env.scope x) (hf : X.fn x = true ∨ X.env.scope.names.lookup x = some .local := by first | exact .inl rfl | exact .inr rfl | assumption) : LG M X (.Name x pos) (gName i) (gN i) [i] := ⟨fun hK => by cases M; cases hK; exact pg_name hN hi hx hf, lf_gn _ i⟩
abbrev WGs := List D → Sls → (Sls → Prop) → Prop
def LfGs (M : Gm) (g : TGs) (w : WGs) (is : List Nat) : Prop := ∀ B G0 G H τ σ ds vs (Q : Sls → Prop) (Q' : L2.St → Hp → Prop), Stt M B G0 G H τ σ → Reps M G ds vs → w ds τ Q →
  (∀ τ' σ', Q τ' → Stt M B G0 G H τ' σ' → (∀ i, i ∉ is → σ'[i]? = σ[i]?) → σ'.length = σ.length → Q' σ' H) → g vs σ H Q'
structure LGs (M : Gm) (X : Cx) (ts : List Expr) (g : TGs) (w : WGs) (is : List Nat) : Prop where
  pg : X.K = M.K → PGs X ts g
  lf : LfGs M g w is
def gN0 : WGs := fun ds τ Q => match ds with
  | [] => Q τ
  | _ => False
def gNc (w : WG) (ws : WGs) : WGs := fun ds τ Q => match ds with
  | d :: ds => w d τ fun τ' => ws ds τ' Q
  | _ => False
theorem lgs_nil : LGs M X [] gNil gN0 [] := ⟨fun hK => by cases M; cases hK; exact pgs_nil, fun B G0 G H τ σ ds vs Q Q' s r hw k => by
  unfold gN0 at hw
  split at hw
  · unfold Reps at r
    exact ⟨r, k τ σ hw s (fun _ _ => rfl) rfl⟩
  · exact hw.elim⟩
theorem lgs_cons {es : List Expr} {t : TG} {u : TGs} {w : WG} {ws : WGs} {i : Nat} {js : List Nat} (h : LG M X e t w [i]) (h2 : LGs M X es u ws js) (hs : (assignEach (e :: es) X.env).map (·.2) = assign e X.env :: (assignEach es X.env).map (·.2) := by rfl) : LGs M X (e :: es) (gCons t u) (gNc w ws) (i :: js) := ⟨fun hK => by cases M; cases hK; exact pgs_cons (h.pg rfl) (h2.pg rfl) hs, fun B G0 G H τ σ ds vs Q Q' s r hw k => by
  unfold gNc at hw
  split at hw
  · unfold Reps at r
    obtain ⟨v, rr, rfl, r1, r2⟩ := r
    refine ⟨v, rr, rfl, h.lf B G0 G H τ σ _ v _ _ s r1 hw fun τ1 σ1 q1 s1 n1 l1 => h2.lf B G0 G H τ1 σ1 _ rr _ _ s1 r2 q1 fun τ2 σ2 q2 s2 n2 l2 => k τ2 σ2 q2 s2 (fun i hi => ?_) (l2.trans l1)⟩
    rw [List.mem_cons, not_or] at hi
    exact (n2 _ hi.2).trans (n1 _ (by simpa using hi.1))
  · exact hw.elim⟩
def gNt (n : Nat) (ws : WGs) : WG := fun d τ Q => match d with
  | .tup ds => ds.length = n ∧ ws ds τ Q
  | _ => False
theorem lg_tup {es : List Expr} {k : Nat} {t : TGs} {n : Nat} {ws : WGs} {is : List Nat} (hc : X.calm = true) (h : LGs M X es t ws is) (hp : X.K = M.K → PG X (.Tuple es k pos) (gTup M.K n t)) : LG M X (.Tuple es k pos) (gTup M.K n t) (gNt n ws) is := ⟨hp, fun B G0 G H τ σ d v Q Q' s r hw k => by
  unfold gNt at hw
  split at hw
  · obtain ⟨a, vs, rfl, h1, h2⟩ := rep_tup r
    exact ⟨a, vs, rfl, same_T s.gh h1, by rw [← h2.len]; exact hw.1, h.lf B G0 G H τ σ _ vs _ _ s h2 hw.2 k⟩
  · exact hw.elim⟩

/-! ### comprehensions -/
def wipeS (τ : Sls) : List Nat → Sls
  | [] => τ
  | v :: vs => (wipeS τ vs).set v none
theorem wipeS_len (τ : Sls) : ∀ vs : List Nat, (wipeS τ vs).length = τ.length
  | [] => rfl
  | v :: vs => by unfold wipeS; rw [List.length_set, wipeS_len τ vs]
theorem wipe_get {σ : L2.St} {i : Nat} : ∀ {vs : List Nat}, i ∉ vs → (wipe σ vs)[i]? = σ[i]?
  | [], _ => rfl
  | v :: vs, h => by
    rw [List.mem_cons, not_or] at h
    unfold wipe
    rw [List.getElem?_set_ne (Ne.symm h.1), wipe_get h.2]
theorem wipe_in {σ : L2.St} {i : Nat} : ∀ {vs : List Nat}, i ∈ vs → i < σ.length → (wipe σ vs)[i]? = some none
  | v :: vs, h, hl => by
    unfold wipe
    by_cases e : v = i
    · subst e
      rw [List.getElem?_set_self (by rw [wipe_length]; exact hl)]
    · rw [List.getElem?_set_ne e]
      rcases List.mem_cons.mp h with h | h
      · exact absurd h.symm e
      · exact wipe_in h hl
theorem wipeS_get {τ : Sls} {i : Nat} : ∀ {vs : List Nat}, i ∉ vs → (wipeS τ vs)[i]? = τ[i]?
  | [], _ => rfl
  | v :: vs, h => by
    rw [List.mem_cons, not_or] at h
    unfold wipeS
    rw [List.getElem?_set_ne (Ne.symm h.1), wipeS_get h.2]
theorem wipeS_in {τ : Sls} {i : Nat} : ∀ {vs : List Nat}, i ∈ vs → i < τ.length → (wipeS τ vs)[i]? = some none
  | v :: vs, h, hl => by
    unfold wipeS
    by_cases e : v = i
    · subst e
      rw [List.getElem?_set_self (by rw [wipeS_len]; exact hl)]
    · rw [List.getElem?_set_ne e]
      rcases List.mem_cons.mp h with h | h
      · exact absurd h.symm e
      · exact wipeS_in h hl
theorem wipeS_some {τ : Sls} {i : Nat} {s : Sl} {vs : List Nat} (h : (wipeS τ vs)[i]? = some (some s)) : τ[i]? = some (some s) ∧ i ∉ vs := by
  have hl : i < τ.length := by
    have := (List.getElem?_eq_some_iff.mp h).1
    rwa [wipeS_len] at this
  by_cases hi : i ∈ vs
  · rw [wipeS_in hi hl] at h; cases h
  · rw [wipeS_get hi] at h; exact ⟨h, hi⟩
theorem Stt.wipe {G0 : Hp} {τ : Sls} {σ : L2.St} (s : Stt M B G0 G H τ σ) (vs : List Nat) : Stt M B G0 G H (wipeS τ vs) (L2.wipe σ vs) := by
  refine ⟨s.toFr, by rw [wipeS_len, wipe_length]; exact s.len, fun i t e => ?_, fun i j t u v w b hij e1 e2 e3 e4 f1 f2 => ?_, fun j i p kd chs als k e1 e2 e3 => ?_⟩
  · obtain ⟨h1, h2⟩ := wipeS_some e
    obtain ⟨v, h3, h4⟩ := s.ok i t h1
    exact ⟨v, by rw [wipe_get h2]; exact h3, h4⟩
  · obtain ⟨a1, a2⟩ := wipeS_some e1
    obtain ⟨b1, b2⟩ := wipeS_some e2
    rw [wipe_get a2] at e3
    rw [wipe_get b2] at e4
    exact s.ap i j t u v w b hij a1 b1 e3 e4 f1 f2
  · obtain ⟨a1, a2⟩ := wipeS_some e1
    obtain ⟨b1, b2⟩ := wipeS_some e2
    rw [wipe_get a2, wipe_get b2]
    exact s.al j i p kd chs als k a1 b1 e3
theorem wipe_back {σ σ' : L2.St} {vs is : List Nat} (h : ∀ i, i ∉ is → σ'[i]? = (wipe σ vs)[i]?) (hl : σ'.length = (wipe σ vs).length) (sub : ∀ i ∈ is, i ∈ vs) : wipe σ' vs = wipe σ vs := by
  rw [wipe_length] at hl
  apply List.ext_getElem?
  intro i
  by_cases hi : i ∈ vs
  · by_cases hlt : i < σ.length
    · rw [wipe_in hi (by omega), wipe_in hi hlt]
    · rw [List.getElem?_eq_none (by rw [wipe_length]; omega), List.getElem?_eq_none (by rw [wipe_length]; omega)]
  · rw [wipe_get hi, h i (fun q => hi (sub i q)), wipe_get hi]
/-- the items that are kept, one by one -/
def wComp (step : D → (Option D → Prop) → Prop) : List D → List D → (List D → Prop) → Prop
  | [], acc, Q => acc.length ≤ 16777216 ∧ Q acc
  | x :: xs, acc, Q => acc.length < 16777216 ∧ step x fun o => wComp step xs (acc ++ o.toList) Q
def wLC (ww : WW) (g : WG) (wt : WT) (we : WE) (vs : List Nat) : WE := fun τ Q => ww τ fun xs =>
  wComp (fun x K => g x (wipeS τ vs) fun τ' => wt τ' fun b => wIf b (we τ' fun r => K (some r.d)) (K none)) xs [] fun ys => Q (.nw (.lst ys))
theorem lf_lc {wi : TI} {ww : WW} {g : TG} {wg : WG} {is : List Nat} {tt : TT} {wt : WT} {vs : List Nat} (hi : LfW M wi ww) (hg : LfG M g wg is) (ht : LfT M tt wt) (he : LfE M te we) (sub : ∀ i ∈ is, i ∈ vs) : LfE M (tLc wi g tt te vs) (wLC ww wg wt we vs) := fun B G0 G H τ σ Q Q' s hw k =>
  hi B G0 G H τ σ _ _ s hw fun xs J G1 H1 q1 x1 y => fun D0 hD => by
    have s1 := s.ext x1
    refine ⟨fun i m HH => m = xs.length - i ∧ i ≤ xs.length ∧ ∃ GG acc vacc, Ext G1 H1 GG HH ∧ GG D0 = none ∧ HH D0 = some (.lst vacc) ∧ Reps M GG acc vacc ∧
      wComp (fun x K => wg x (wipeS τ vs) fun τ' => wt τ' fun b => wIf b (we τ' fun r => K (some r.d)) (K none)) (xs.drop i) acc fun ys => Q (.nw (.lst ys)), ⟨xs.length, by simp, Nat.zero_le _, G1, [], [], Ext.allocH x1.gh _ hD, x1.gh.free hD, upd_same, .nil, by simpa using q1⟩, ?_⟩
    rintro i m HH ⟨rfl, hi', GG, acc, vacc, xx, gD, hHD, ra, w⟩
    by_cases hlt : i < xs.length
    · right
      refine ⟨y.go GG HH i xx.g (s1.bh.trans xx.h) xx.gh hlt, fun HH' => ∃ GG acc vacc, Ext G1 H1 GG HH' ∧ GG D0 = none ∧ HH' D0 = some (.lst vacc) ∧ Reps M GG acc vacc ∧
        wComp (fun x K => wg x (wipeS τ vs) fun τ' => wt τ' fun b => wIf b (we τ' fun r => K (some r.d)) (K none)) (xs.drop (i + 1)) acc fun ys => Q (.nw (.lst ys)), fun HH' hN => ⟨xs.length - (i + 1), by omega, rfl, hlt, hN⟩, fun x HH' yx => ?_⟩
      obtain ⟨G2, x2, d, hd, rd⟩ := y.yl GG HH i x HH' xx.g (s1.bh.trans xx.h) xx.gh yx hlt
      have ed : xs.drop i = d :: xs.drop (i + 1) := by
        rw [List.drop_eq_getElem_cons hlt]
        congr 1
        rw [List.getElem?_eq_getElem hlt] at hd
        exact Option.some.inj hd
      rw [ed] at w
      obtain ⟨hz, w⟩ := w
      have s2 : Stt M B G0 G2 HH' (wipeS τ vs) (wipe σ vs) := ((s1.ext xx).ext x2).wipe vs
      have g2D : G2 D0 = none := x2.none gD hHD
      have h2D : HH' D0 = some (.lst vacc) := x2.h _ _ hHD
      have xx2 := xx.trans x2
      refine hg B G0 G2 HH' _ _ d x _ _ s2 rd w fun τ' σ' q3 s3 n3 l3 => ⟨wipe_back n3 l3 sub, ?_⟩
      refine ht B G0 G2 HH' τ' σ' _ _ s3 q3 fun b G3 H3 q4 x3 => ?_
      cases b with
      | true =>
        refine iteT (he.frz (Q := fun d => wComp (fun x K => wg x (wipeS τ vs) fun τ' => wt τ' fun b => wIf b (we τ' fun r => K (some r.d)) (K none)) (xs.drop (i + 1)) (acc ++ (some d).toList) fun ys => Q (.nw (.lst ys))) (s3.ext x3) (q4.1 rfl) fun d2 v2 G4 H4 q5 x4 r5 => ?_)
        have x34 := x3.trans x4
        have h4D : H4 D0 = some (.lst vacc) := x34.h _ _ h2D
        have g4D : G4 D0 = none := x34.none g2D h2D
        have xx4 := xx2.trans x34
        have ra4 : Reps M G4 acc vacc := ra.mono (x2.trans x34).g
        refine ⟨vacc, h4D, by rw [← ra4.len]; exact Nat.lt_of_lt_of_le hz line24, G4, acc ++ [d2], vacc ++ [v2], ⟨xx4.g, ?_, ?_, xx4.new⟩, g4D, upd_same, ra4.snoc r5, q5⟩
        · intro b o hb
          rw [upd_ne (ne_of_none hb hD)]
          exact xx4.h _ _ hb
        · intro b o hb
          rw [upd_ne (ne_of_none hb g4D)]
          exact xx4.gh _ _ hb
      | false =>
        refine iteF ⟨G3, acc, vacc, xx2.trans x3, x3.none g2D h2D, x3.h _ _ h2D, ra.mono (x2.trans x3).g, ?_⟩
        have := q4.2 rfl
        simpa using this
    · left
      have e : i = xs.length := by omega
      subst e
      refine ⟨y.stop GG HH _ xx.g (s1.bh.trans xx.h) xx.gh (Nat.le_refl _), ?_⟩
      rw [List.drop_length] at w
      exact k _ _ GG HH w.2 (x1.trans xx) ⟨D0, vacc, rfl, hHD, gD, x1.h.free hD, ra⟩
theorem le_lc {elt iter : Expr} {ifs : List Expr} {scope : Scope} {own : List (Str × Nat)} {wi : TI} {ww : WW} {g : TG} {wg : WG} {is : List Nat} {tt : TT} {wt : WT} (hc : X.calm = true) (hN : X.N.Nodup) (hi : LWk M X tg iter wi ww) (ok : BlkOk X.N X.env.scope scope own)
    (hg : ∀ (s : Shared) (H : Hp) (C : Addr) (cl' : List (Str × Addr)) (fp : List Addr), LG M (X.blk s H scope (compEnvC scope cl' C X.env) fp) tg g wg is)
    (ht : ∀ (s : Shared) (H : Hp) (C : Addr) (cl' : List (Str × Addr)) (fp : List Addr), PTs (X.blk s H scope (compEnvC scope cl' C X.env) fp) ifs tt ∧ LfT M tt wt)
    (he : ∀ (s : Shared) (H : Hp) (C : Addr) (cl' : List (Str × Addr)) (fp : List Addr), LE M (X.blk s H scope (compEnvC scope cl' C X.env) fp) elt te we)
    (sub : ∀ i ∈ is, i ∈ own.map (·.2) := by decide) (hs : ∀ x, foldedSetIterable iter X.env x = pure x := by intro _; rfl) :
    LE M X (.ListComp elt [⟨tg, iter, ifs, 0⟩] scope pos) (tLc wi g tt te (own.map (·.2))) (wLC ww wg wt we (own.map (·.2))) :=
  ⟨fun hK => by cases M; cases hK; exact pe_lc hc hN (hi.pi rfl) ok (fun s H C c f => (hg s H C c f).pg rfl) (fun s H C c f => (ht s H C c f).1) (fun s H C c f => (he s H C c f).pe rfl) hs,
   lf_lc hi.lf (hg X.s_0 X.H_0 0 [] []).lf (ht X.s_0 X.H_0 0 [] []).2 (he X.s_0 X.H_0 0 [] []).lf sub⟩
def wYes : WT := fun _ Q => Q true
theorem lts_nil : PTs X [] tYes ∧ LfT M tYes wYes := ⟨pts_nil, fun B G0 G H τ σ Q Q' s hw k => k true G H hw (Ext.refl s.gh)⟩
theorem lts_one {t : TT} {wt : WT} (h : LT M X e t wt) (hK : X.K = M.K := by rfl) : PTs X [e] t ∧ LfT M t wt := ⟨pts_one (h.pt hK), h.lf⟩
end
end Pl

set_option maxHeartbeats 4000000
namespace Pl
open PySem L2

/-- what is wanted behind a statement -/
structure PEnds where
  nx : Sls → Prop
  rt : Res → Sls → Prop
  bk : Sls → Prop := fun _ => False
  ct : Sls → Prop := fun _ => False
structure EndsOk (M : Gm) (B G0 : Hp) (D : PEnds) (D' : Ends) : Prop where
  nx : ∀ G H τ σ, Stt M B G0 G H τ σ → D.nx τ → D'.nx σ H
  rt : ∀ G H τ σ r v, Stt M B G0 G H τ σ → ResOk M B G H r v → (∀ d, r = .nw d → ∀ (i : Nat) (s : Sl) (w : V) (b : Addr), τ[i]? = some (some s) → σ[i]? = some (some w) → Ft M H s w b → v ≠ .ref b) → D.rt r τ → D'.rt v H
  bk : ∀ G H τ σ, Stt M B G0 G H τ σ → D.bk τ → D'.bk σ H
  ct : ∀ G H τ σ, Stt M B G0 G H τ σ → D.ct τ → D'.ct σ H
abbrev WS := PEnds → Sls → Prop
def LfS (M : Gm) (t : TS) (w : WS) : Prop := ∀ B G0 G H τ σ E E', Stt M B G0 G H τ σ → EndsOk M B G0 E E' → w E τ → t E' σ H
structure LS (M : Gm) (X : Cx) (s : Stmt) (t : TS) (w : WS) : Prop where
  ps : X.K = M.K → PS X s t
  lf : LfS M t w
structure LSs (M : Gm) (X : Cx) (ss : List Stmt) (t : TS) (w : WS) : Prop where
  ps : X.K = M.K → PSs X ss t
  lf : LfS M t w

section
variable {X : Cx} {M : Gm} {B G0 G H G' H' : Hp} {a b c e tg : Expr} {pos p : Pos} {te ta tb : TE} {we wa wb : WE} {ra rb rc : WR} {st : Stmt} {rest : List Stmt} {t u : TS} {w w' : WS}
def wSkip : WS := fun E τ => E.nx τ
def wSeq (w w' : WS) : WS := fun E τ => w { E with nx := w' E } τ
theorem lss_nil : LSs M X [] tNext wSkip := ⟨fun hK => by cases M; cases hK; exact pss_nil, fun B G0 G H τ σ E E' s eo hw => eo.nx G H τ σ s hw⟩
theorem lf_seq (h1 : LfS M t w) (h2 : LfS M u w') : LfS M (tSeq t u) (wSeq w w') := fun B G0 G H τ σ E E' s eo hw =>
  h1 B G0 G H τ σ { E with nx := w' E } _ s ⟨fun G H τ σ s1 q => h2 B G0 G H τ σ E E' s1 eo q, eo.rt, eo.bk, eo.ct⟩ hw
theorem lss_cons (h1 : LS M X st t w) (h2 : LSs M X rest u w') : LSs M X (st :: rest) (tSeq t u) (wSeq w w') := ⟨fun hK => by cases M; cases hK; exact pss_cons (h1.ps rfl) (h2.ps rfl), lf_seq h1.lf h2.lf⟩
theorem lss_one (h1 : LS M X st t w) : LSs M X [st] t w := ⟨fun hK => by cases M; cases hK; exact pss_one (h1.ps rfl), h1.lf⟩
/-- a name's own list becomes frozen -/
def frz1 (τ : Sls) (i : Nat) : Sls := match τ[i]? with
  | some (some (.ow _ d)) => τ.set i (some (.frz d))
  | some (some (.nst _ kd chs _)) => τ.set i (some (.frz (kd.d (chs.map Ch.d))))
  | _ => τ
open Classical in
/-- the frozen heap with some cells more -/
noncomputable def addG (G H : Hp) (S : Addr → Prop) : Hp := fun a => if S a then H a else G a
theorem addG_same {G H : Hp} {S : Addr → Prop} (h : ∀ a, S a → G a = none) : Same G (addG G H S) := fun a o e => by
  unfold addG
  split
  · rename_i q; rw [h a q] at e; cases e
  · exact e
theorem addG_get {G H : Hp} {S : Addr → Prop} {a : Addr} (h : S a) : addG G H S a = H a := if_pos h
theorem addG_inv {G H : Hp} {S : Addr → Prop} {b : Addr} {o : HO} (h : addG G H S b = some o) : G b = some o ∨ (S b ∧ H b = some o) := by
  unfold addG at h
  split at h
  · rename_i q; exact .inr ⟨q, h⟩
  · exact .inl h
theorem Stt.frz1 {τ : Sls} {σ : L2.St} (s : Stt M B G0 G H τ σ) (i : Nat) : ∃ G', Stt M B G0 G' H (frz1 τ i) σ := by
  unfold Pl.frz1
  split
  · rename_i p d e
    obtain ⟨v, h1, h2⟩ := s.ok i _ e
    have h2' := h2.1
    cases d with
    | lst ds =>
      obtain ⟨a, vs, rfl, h3, h4, h5, h6⟩ := h2'
      have sg : Same G (addG G H (Ft M H (.ow p (.lst ds)) (.ref a))) := addG_same fun b f => (Ft.free h2 f).2.1
      refine ⟨addG G H (Ft M H (.ow p (.lst ds)) (.ref a)), s.chg e h1 (fun _ _ => rfl) sg (fun b o q => addG_inv q) ?_ (fun b f => f.elim) (fun _ _ _ _ _ _ q => by cases q) (fun _ q => by cases q)⟩
      show Rep M _ (.lst ds) _
      unfold Rep
      exact ⟨a, vs, rfl, by rw [addG_get (Ft.top rfl rfl)]; exact h3, h6.mono sg⟩
    | _ => exact h2'.elim
  · rename_i p kd chs als e
    obtain ⟨v, h1, h2⟩ := s.ok i _ e
    have h2' := h2
    obtain ⟨a, o, vs, rfl, h3, h4, h5, h6, h7, h8, h9⟩ := h2'
    have sg : Same G (addG G H (Ft M H (.nst p kd chs als) (.ref a))) := addG_same fun b f => (Ft.free h2 f).2.1
    refine ⟨addG G H (Ft M H (.nst p kd chs als) (.ref a)), s.chg e h1 (fun _ _ => rfl) sg (fun b o q => addG_inv q) ?_ (fun b f => f.elim) (fun _ _ _ _ _ _ q => by cases q) (fun _ q => by cases q)⟩
    have hr : Reps M (addG G H (Ft M H (.nst p kd chs als) (.ref a))) (chs.map Ch.d) vs := by
      have gh' : Same (addG G H (Ft M H (.nst p kd chs als) (.ref a))) H := fun b o q => by
        rcases addG_inv q with q | ⟨_, q⟩
        · exact s.gh _ _ q
        · exact q
      have hl := h7.len
      -- part by part
      have go : ∀ (cs : List Ch) (ws : List V), cs.length = ws.length → (∀ (k : Nat) (c : Ch) (w : V), cs[k]? = some c → ws[k]? = some w → Rep M (addG G H (Ft M H (.nst p kd chs als) (.ref a))) c.d w) → Reps M (addG G H (Ft M H (.nst p kd chs als) (.ref a))) (cs.map Ch.d) ws := by
        intro cs
        induction cs with
        | nil => intro ws l _; cases ws with
          | nil => exact .nil
          | cons _ _ => cases l
        | cons c cs ih => intro ws l k; cases ws with
          | nil => cases l
          | cons w ws => exact Reps.cons (k 0 c w rfl rfl) (ih ws (by simpa using l) fun m c' w' e1 e2 => k (m + 1) c' w' (by simpa using e1) (by simpa using e2))
      refine go chs vs hl fun k c w e1 e2 => ?_
      obtain ⟨w', g1, g2⟩ := h7.get e1
      rw [e2] at g1; cases g1
      cases c with
      | fz d => exact Rep.mono sg g2
      | ls row =>
        obtain ⟨b, ws, rfl, k1, k2, k3, k4⟩ := rowOk g2
        show Rep M _ (.lst row) _
        unfold Rep
        exact ⟨b, ws, rfl, by rw [addG_get (.inr ⟨a, o, vs, k, row, rfl, h3, h4, e1, e2⟩)]; exact k1, k4.mono sg⟩
    cases kd with
    | lst =>
      cases h4
      show Rep M _ (.lst _) _
      unfold Rep
      exact ⟨a, vs, rfl, by rw [addG_get (Ft.top rfl rfl)]; exact h3, hr⟩
    | ins c fn =>
      obtain ⟨dx, rfl, hl⟩ := h4
      show Rep M _ (.ins c fn _) _
      unfold Rep
      exact ⟨a, dx, vs, rfl, by rw [addG_get (Ft.top rfl rfl)]; exact h3, hl, hr⟩
  · exact ⟨G, s⟩
def wFrz (i : Nat) (w : WS) : WS := fun E τ => w E (frz1 τ i)
theorem lss_frz {ss : List Stmt} (i : Nat) (h : LSs M X ss t w) : LSs M X ss t (wFrz i w) := ⟨fun hK => by cases M; cases hK; exact (h.ps rfl), fun B G0 G H τ σ E E' s eo hw => by
  obtain ⟨G', s'⟩ := s.frz1 i
  exact h.lf B G0 G' H _ σ E E' s' eo hw⟩
theorem ls_frz (i : Nat) (h : LS M X st t w) : LS M X st t (wFrz i w) := ⟨fun hK => by cases M; cases hK; exact (h.ps rfl), fun B G0 G H τ σ E E' s eo hw => by
  obtain ⟨G', s'⟩ := s.frz1 i
  exact h.lf B G0 G' H _ σ E E' s' eo hw⟩

/-! ### assignment -/
def wSet (i : Nat) (we : WE) : WS := fun E τ => we τ fun r => E.nx (τ.set i (some r.sl))
theorem lf_set {i : Nat} (h : LfE M te we) : LfS M (tAsg te (gName i)) (wSet i we) := fun B G0 G H τ σ E E' s eo hw =>
  h B G0 G H τ σ _ _ s hw fun r v G1 H1 q x ok => eo.nx G1 H1 _ _ (s.setRes x ok) q
theorem ls_set {i : Nat} {x : Str} {pos' : Pos} (hN : X.N.Nodup) (hi : X.N[i]? = some x) (hx : Loc X.env.scope x) (h : LE M X e te we) (hp : X.K = M.K → PS X (.Assign [.Name x pos'] e pos) (tAsg te (gName i))) : LS M X (.Assign [.Name x pos'] e pos) (tAsg te (gName i)) (wSet i we) := ⟨hp, lf_set h.lf⟩
/-- any target, the value frozen -/
def wAsg (we : WE) (g : WG) : WS := fun E τ => we τ fun r => g r.d τ E.nx
theorem lf_asg {g : TG} {wg : WG} {is : List Nat} (h : LfE M te we) (hg : LfG M g wg is) : LfS M (tAsg te g) (wAsg we wg) := fun B G0 G H τ σ E E' s eo hw =>
  h.frz (Q := fun d => wg d τ E.nx) s hw fun d v G1 H1 q x ok => hg B G0 G1 H1 τ σ d v _ _ (s.ext x) ok q fun τ' σ' q' s' _ _ => eo.nx G1 H1 τ' σ' s' q'
theorem ls_asg {g : TG} {wg : WG} {is : List Nat} (h : LE M X e te we) (hg : LG M X tg g wg is) (hp : X.K = M.K → PS X (.Assign [tg] e pos) (tAsg te g)) : LS M X (.Assign [tg] e pos) (tAsg te g) (wAsg we wg) := ⟨hp, lf_asg h.lf hg.lf⟩
/-- a, b = e1, e2 -/
def wPar (i j : Nat) (wa wb : WE) : WS := fun E τ => wa τ fun r => wb τ fun r' => E.nx ((τ.set i (some (.frz r.d))).set j (some (.frz r'.d)))
theorem lf_par {i j : Nat} (ha : LfE M ta wa) (hb : LfE M tb wb) : LfS M (tPar i j (tCons ta (tCons tb tNil))) (wPar i j wa wb) := fun B G0 G H τ σ E E' s eo hw =>
  ha.frz (Q := fun d => wb τ fun r' => E.nx ((τ.set i (some (.frz d))).set j (some (.frz r'.d)))) s hw fun d v G1 H1 q x ok => hb.frz (Q := fun d' => E.nx ((τ.set i (some (.frz d))).set j (some (.frz d')))) (s.ext x) q fun d' v' G2 H2 q2 x2 ok2 =>
    ⟨v, v', rfl, eo.nx G2 H2 _ _ (((s.ext (x.trans x2)).setF (i := i) (d := d) (Rep.mono x2.g ok)).setF (i := j) (d := d') ok2) q2⟩
theorem ls_par {i j : Nat} (ha : LE M X a ta wa) (hb : LE M X b tb wb) (hp : X.K = M.K → PS X st (tPar i j (tCons ta (tCons tb tNil)))) : LS M X st (tPar i j (tCons ta (tCons tb tNil))) (wPar i j wa wb) := ⟨hp, lf_par ha.lf hb.lf⟩
/-- x op= e, ints -/
def wAug (i : Nat) (f : Int → Int → Int) (rb : WR) : WS := fun E τ => match τ[i]? with
  | some (some (.frz (.int x))) => rb τ fun d => match d with
    | .int y => E.nx (τ.set i (some (.frz (.int (f x y)))))
    | _ => False
  | _ => False
theorem lf_aug {i : Nat} {f : Int → Int → Int} (h : LfR M te rb) : LfS M (tAug i te (ipI f)) (wAug i f rb) := fun B G0 G H τ σ E E' s eo hw => by
  unfold wAug at hw
  split at hw
  · rename_i x q
    obtain ⟨v, h1, h2⟩ := s.ok i _ q
    have h2 : Rep M G (.int x) v := h2
    unfold Rep at h2
    subst h2
    refine ⟨_, h1, h B G0 G H τ σ _ _ s hw fun d v G1 H1 q1 x1 r1 => ?_⟩
    split at q1
    · cases rdb_int r1
      exact ⟨_, _, rfl, rfl, eo.nx G1 H1 _ _ ((s.ext x1).setF (d := .int _) (rep_int (M := M) (G := G1) _)) q1⟩
    · exact q1.elim
  · exact hw.elim
/-! ### own lists -/
/-- a name lets go -/
theorem Stt.drop {τ : Sls} {σ : L2.St} (s : Stt M B G0 G H τ σ) (i : Nat) : Stt M B G0 G H (τ.set i none) σ := by
  have g : ∀ {j : Nat} {u : Sl}, (τ.set i none)[j]? = some (some u) → j ≠ i ∧ τ[j]? = some (some u) := fun {j u} e => by
    by_cases hj : i = j
    · subst hj
      rw [List.getElem?_set] at e
      simp at e
    · rw [List.getElem?_set_ne hj] at e
      exact ⟨Ne.symm hj, e⟩
  exact ⟨s.toFr, by simp [s.len], fun j u e => s.ok j u (g e).2, fun j k u w x y b hjk e1 e2 e3 e4 f1 f2 => s.ap j k u w x y b hjk (g e1).2 (g e2).2 e3 e4 f1 f2,
    fun j k p kd chs als m e1 e2 e3 => s.al j k p kd chs als m (g e1).2 (g e2).2 e3⟩
/-- a part of a nest that is a list of its own: read, written -/
theorem Stt.child {τ : Sls} {σ : L2.St} (s : Stt M B G0 G H τ σ) {i k : Nat} {p : Option Addr} {kd : Kd} {chs : List Ch} {als : List (Nat × Nat)} {row : List D} (e : τ[i]? = some (some (.nst p kd chs als))) (hk : chs[k]? = some (.ls row)) :
    ∃ a o vs b us, σ[i]? = some (some (.ref a)) ∧ H a = some o ∧ KdOk M kd o vs ∧ chs.length = vs.length ∧ vs[k]? = some (.ref b) ∧ H b = some (.lst us) ∧ Reps M G row us ∧
      ∀ es ws, Reps M G es ws → Stt M B G0 G (upd H b (.lst ws)) (τ.set i (some (.nst p kd (chs.set k (.ls es)) als))) σ := by
  obtain ⟨v, h1, h2⟩ := s.ok i _ e
  have h2' := h2
  obtain ⟨a, o, vs, rfl, g1, g2, g3, g4, g5, g6, g7⟩ := h2'
  obtain ⟨u, k1, k2⟩ := g5.get hk
  obtain ⟨b, us, rfl, r1, r2, r3, r4⟩ := rowOk k2
  have hkl : k < chs.length := (List.getElem?_eq_some_iff.mp hk).1
  have nb : a ≠ b := fun q => g6.1 k row hk (by rw [k1, q])
  have ls_of : ∀ {m : Nat} {es r : List D}, (chs.set k (.ls es))[m]? = some (.ls r) → ∃ r', chs[m]? = some (.ls r') := fun {m es r} q => by
    by_cases hm : k = m
    · subst hm; exact ⟨row, hk⟩
    · rw [List.getElem?_set_ne hm] at q; exact ⟨r, q⟩
  refine ⟨a, o, vs, b, us, h1, g1, g2, g5.len, k1, r1, r4, fun es ws hr => s.chg e h1 (fun c n => upd_ne fun q => n (by subst q; exact .inr ⟨a, o, vs, k, row, rfl, g1, g2, hk, k1⟩)) (Same.refl G) (fun b o q => .inl q) ?_ ?_ ?_ (fun _ q => by cases q)⟩
  · refine ⟨a, o, vs, rfl, by rw [upd_ne nb]; exact g1, g2, g3, g4, ChsOk.of (by simp [g5.len]) fun m c w e1 e2 => ?_, ⟨fun m r q => ?_, fun m n r r' w hmn q1 q2 => ?_⟩, g7⟩
    · by_cases hm : k = m
      · subst hm
        rw [List.getElem?_set_self hkl] at e1
        cases e1
        rw [k1] at e2; cases e2
        exact ⟨b, ws, rfl, upd_same, r2, r3, hr⟩
      · rw [List.getElem?_set_ne hm] at e1
        obtain ⟨w', f1, f2⟩ := g5.get e1
        rw [e2] at f1; cases f1
        cases c with
        | fz d => exact f2
        | ls r =>
          obtain ⟨b', us', rfl, m1, m2, m3, m4⟩ := rowOk f2
          refine ⟨b', us', rfl, ?_, m2, m3, m4⟩
          rw [upd_ne]
          · exact m1
          · intro q
            subst q
            exact g6.2 k m row r _ hm hk e1 k1 e2
    · obtain ⟨r', q'⟩ := ls_of q
      exact g6.1 m r' q'
    · obtain ⟨r1', q1'⟩ := ls_of q1
      obtain ⟨r2', q2'⟩ := ls_of q2
      exact g6.2 m n r1' r2' w hmn q1' q2'
  · intro c f
    left
    rcases f with f | ⟨a', o', vs', m, r, f1, f2, f3, f4, f5⟩
    · exact .inl f
    · cases f1
      rw [upd_ne nb] at f2
      obtain ⟨r', q'⟩ := ls_of f4
      exact .inr ⟨a, o', vs', m, r', rfl, f2, f3, q', f5⟩
  · intro j p' kd' chs' als' m q1 q2 q3
    cases q1
    obtain ⟨a', o', vs', v', f1, f2, f3, f4, f5⟩ := s.al j i _ _ _ _ m q2 e q3
    rw [h1] at f1; cases f1
    exact ⟨a, o', vs', v', rfl, by rw [upd_ne nb]; exact f2, f3, f4, f5⟩
/-- the part that a name stands for: read, written -/
def atAliW (τ : Sls) (i j : Nat) (Q : List D → (List D → Sls) → Prop) : Prop := match τ[j]? with
  | some (some (.nst p kd chs als)) => (match als.lookup i with
    | some k => ∃ row, chs[k]? = some (.ls row) ∧ Q row fun es => τ.set j (some (.nst p kd (chs.set k (.ls es)) als))
    | none => False)
  | _ => False
theorem atAliW_ok {τ : Sls} {σ : L2.St} {i j : Nat} {Q : List D → (List D → Sls) → Prop} (s : Stt M B G0 G H τ σ) (e : τ[i]? = some (some (.ali j))) (h : atAliW τ i j Q) :
    ∃ row f b, Q row f ∧ σ[i]? = some (some (.ref b)) ∧ ∀ G1 H1, Stt M B G0 G1 H1 τ σ → ∃ us, H1 b = some (.lst us) ∧ Reps M G1 row us ∧ ∀ es ws, Reps M G1 es ws → Stt M B G0 G1 (upd H1 b (.lst ws)) (f es) σ := by
  unfold atAliW at h
  split at h
  · rename_i p kd chs als q
    split at h
    · rename_i k hk
      obtain ⟨row, h1, h2⟩ := h
      obtain ⟨a, o, vs, v, g1, g2, g3, g4, g5⟩ := s.al i j _ _ _ _ k e q hk
      obtain ⟨a', o', vs', b, us, c1, c2, c3, c4, c5, c6⟩ := s.child q h1
      rw [g1] at c1; cases c1
      rw [g2] at c2; cases c2
      cases g3.inj c3
      rw [g4] at c5; cases c5
      refine ⟨row, _, b, h2, g5, fun G1 H1 s1 => ?_⟩
      obtain ⟨a2, o2, vs2, v2, k1, k2, k3, k4, k5⟩ := s1.al i j _ _ _ _ k e q hk
      obtain ⟨a3, o3, vs3, b3, us3, m1, m2, m3, m4, m5, m6, m7, m8⟩ := s1.child q h1
      rw [k1] at m1; cases m1
      rw [k2] at m2; cases m2
      cases k3.inj m3
      rw [k4] at m5; cases m5
      rw [g5] at k5; cases k5
      exact ⟨us3, m6, m7, m8⟩
    · exact h.elim
  · exact h.elim
/-- a nest of its parts and the cells of its own -/
theorem nst_snoc {p : Option Addr} {chs : List Ch} {als : List (Nat × Nat)} {a : Addr} {vs : List V} {c : Ch} {v : V} (h : SlOk M B G H (.nst p .lst chs als) (.ref a)) (ha : H a = some (.lst vs)) (hc : ChOk M B G H c v) (hs : ∀ row, c = .ls row → ∀ b, v = .ref b → ¬ Ft M H (.nst p .lst chs als) (.ref a) b) :
    SlOk M B G (upd H a (.lst (vs ++ [v]))) (.nst p .lst (chs ++ [c]) als) (.ref a) := by
  obtain ⟨a', o, ws, e, g1, g2, g3, g4, g5, g6, g7⟩ := h
  cases e
  rw [ha] at g1; cases g1
  cases g2
  have hl := g5.len
  have keep : ∀ {m : Nat} {c' : Ch} {w : V}, ChOk M B G H c' w → (∀ row, c' = .ls row → w ≠ .ref a) → ChOk M B G (upd H a (.lst (vs ++ [v]))) c' w := fun {m c' w} f n => by
    cases c' with
    | fz d => exact f
    | ls r =>
      obtain ⟨b, us, rfl, k1, k2, k3, k4⟩ := rowOk f
      exact ⟨b, us, rfl, by rw [upd_ne fun q => n r rfl (by rw [q])]; exact k1, k2, k3, k4⟩
  refine ⟨a, _, vs ++ [v], rfl, upd_same, rfl, g3, g4, ChsOk.of (by simp [hl]) fun m c' w e1 e2 => ?_, ⟨fun m r q => ?_, fun m n r r' w hmn q1 q2 q3 q4 => ?_⟩, g7⟩
  · rw [List.getElem?_append] at e1 e2
    split at e1
    · rename_i hm
      rw [if_pos (by omega)] at e2
      obtain ⟨w', f1, f2⟩ := g5.get e1
      rw [e2] at f1; cases f1
      exact keep (m := m) f2 fun row q z => by subst q z; exact g6.1 m row e1 e2
    · rename_i hm
      rw [if_neg (by omega)] at e2
      have : m - chs.length = 0 := by
        have := (List.getElem?_eq_some_iff.mp e1).1
        simp at this; omega
      rw [this] at e1
      rw [← hl, this] at e2
      cases e1; cases e2
      exact keep (m := 0) hc fun row q z => hs row q a z (.inl rfl)
  · rw [List.getElem?_append] at q
    rw [List.getElem?_append]
    split at q
    · rename_i hm
      rw [if_pos (by omega)]
      exact g6.1 m r q
    · rename_i hm
      rw [if_neg (by omega)]
      have : m - chs.length = 0 := by
        have := (List.getElem?_eq_some_iff.mp q).1
        simp at this; omega
      rw [this] at q
      rw [← hl, this]
      cases q
      intro z
      have z : some v = some (.ref a) := z
      injection z with z
      exact hs r rfl a z (.inl rfl)
  · have last : ∀ {x : Nat} {rr : List D}, (chs ++ [c])[x]? = some (.ls rr) → (vs ++ [v])[x]? = some w → (chs[x]? = some (.ls rr) ∧ vs[x]? = some w) ∨ (x = chs.length ∧ c = .ls rr ∧ w = v) := fun {x rr} z1 z2 => by
      rw [List.getElem?_append] at z1 z2
      split at z1
      · rename_i hm
        rw [if_pos (by omega)] at z2
        exact .inl ⟨z1, z2⟩
      · rename_i hm
        rw [if_neg (by omega)] at z2
        have : x - chs.length = 0 := by
          have := (List.getElem?_eq_some_iff.mp z1).1
          simp at this; omega
        rw [this] at z1
        rw [← hl, this] at z2
        cases z1; cases z2
        exact .inr ⟨by omega, rfl, rfl⟩
    have ft : ∀ {x : Nat} {rr : List D}, chs[x]? = some (.ls rr) → vs[x]? = some w → ∃ b, w = .ref b ∧ Ft M H (.nst p .lst chs als) (.ref a) b := fun {x rr} z1 z2 => by
      obtain ⟨w', f1, f2⟩ := g5.get z1
      rw [z2] at f1; cases f1
      obtain ⟨b, us, rfl, _⟩ := rowOk f2
      exact ⟨b, rfl, .inr ⟨a, _, vs, x, rr, rfl, ha, rfl, z1, z2⟩⟩
    rcases last q1 q3 with ⟨a1, a2⟩ | ⟨a1, a2, a3⟩
    · rcases last q2 q4 with ⟨b1, b2⟩ | ⟨b1, b2, b3⟩
      · exact g6.2 m n r r' w hmn a1 b1 a2 b2
      · obtain ⟨b, z, f⟩ := ft a1 a2
        subst b3
        exact hs r' b2 b z f
    · rcases last q2 q4 with ⟨b1, b2⟩ | ⟨b1, b2, b3⟩
      · obtain ⟨b, z, f⟩ := ft b1 b2
        subst a3
        exact hs r a2 b z f
      · omega
def wApp (i : Nat) (we : WE) : WS := fun E τ => match τ[i]? with
  | some (some (.ow p (.lst ds))) => we τ fun r => ds.length < 16777216 ∧ E.nx (τ.set i (some (.ow p (.lst (ds ++ [r.d])))))
  | some (some (.ali j)) => atAliW τ i j fun row f => we τ fun r => row.length < 16777216 ∧ E.nx (f (row ++ [r.d]))
  | _ => False
/-- the cell of an own list is written -/
theorem Stt.write {τ : Sls} {σ : L2.St} (s : Stt M B G0 G H τ σ) {i : Nat} {p0 : Option Addr} {ds es : List D} (e : τ[i]? = some (some (.ow p0 (.lst ds)))) :
    ∃ p vs, σ[i]? = some (some (.ref p)) ∧ H p = some (.lst vs) ∧ Reps M G ds vs ∧ ∀ ws, Reps M G es ws → Stt M B G0 G (upd H p (.lst ws)) (τ.set i (some (.ow p0 (.lst es)))) σ := by
  obtain ⟨v, h1, h2⟩ := s.ok i _ e
  obtain ⟨h2', hp⟩ := h2
  obtain ⟨p, vs, rfl, h3, h4, h5, h6⟩ := (show ResOk M B G H (.nw (.lst ds)) v from h2')
  refine ⟨p, vs, h1, h3, h6, fun ws hr => s.chg e h1 (fun b n => upd_ne fun q => n (by subst q; exact Ft.top rfl rfl)) (Same.refl G) (fun b o q => .inl q) ⟨⟨p, ws, rfl, upd_same, h4, h5, hr⟩, hp⟩ (fun b f => .inl f) (fun _ _ _ _ _ _ q => by cases q) (fun _ q => by cases q)⟩
theorem lf_app {i : Nat} (h : LfE M te we) : LfS M (tDrop (tBM M.K "list" rAppend (tVar i) (tCons te tNil))) (wApp i we) := fun B G0 G H τ σ E E' s eo hw => by
  unfold wApp at hw
  split at hw
  · rename_i p0 ds q
    obtain ⟨p, vs, h1, h2, h3, h4⟩ := s.write (es := ds) q
    refine ⟨.ref p, h1, .inl ⟨rfl, vs, SqL.of h2⟩, h.frz (Q := fun d => ds.length < 16777216 ∧ E.nx (τ.set i (some (.ow p0 (.lst (ds ++ [d])))))) s hw fun d v G1 H1 q1 x ok => ?_⟩
    have s1 := s.ext x
    obtain ⟨p', vs', g1, g2, g3, g4⟩ := s1.write (es := ds ++ [d]) q
    rw [h1] at g1; cases g1
    rw [x.h _ _ h2] at g2; cases g2
    exact ⟨p, vs, v, rfl, rfl, x.h _ _ h2, by rw [← h3.len]; exact Nat.lt_of_lt_of_le q1.1 line24, eo.nx G1 _ _ _ (g4 _ (g3.snoc ok)) q1.2⟩
  · rename_i j q
    obtain ⟨row, f, b, hq, h1, hs⟩ := atAliW_ok s q hw
    obtain ⟨us, h2, h3, _⟩ := hs G H s
    refine ⟨.ref b, h1, .inl ⟨rfl, us, SqL.of h2⟩, h.frz (Q := fun d => row.length < 16777216 ∧ E.nx (f (row ++ [d]))) s hq fun d v G1 H1 q1 x ok => ?_⟩
    obtain ⟨us1, g2, g3, g4⟩ := hs G1 H1 (s.ext x)
    rw [x.h _ _ h2] at g2; cases g2
    exact ⟨b, us, v, rfl, rfl, x.h _ _ h2, by rw [← h3.len]; exact Nat.lt_of_lt_of_le q1.1 line24, eo.nx G1 _ _ _ (g4 _ _ (g3.snoc ok)) q1.2⟩
  · exact hw.elim
/-- x.extend(e) -/
def wExt (i : Nat) (rb : WR) : WS := fun E τ => match τ[i]? with
  | some (some (.ow p (.lst ds))) => rb τ fun d => match d with
    | .lst es => ds.length + es.length ≤ 16777216 ∧ E.nx (τ.set i (some (.ow p (.lst (ds ++ es)))))
    | _ => False
  | _ => False
theorem lf_ext {i : Nat} (h : LfR M te rb) : LfS M (tDrop (tBM M.K "list" rExtend (tVar i) (tCons te tNil))) (wExt i rb) := fun B G0 G H τ σ E E' s eo hw => by
  unfold wExt at hw
  split at hw
  · rename_i p0 ds q
    obtain ⟨p, vs, h1, h2, h3, h4⟩ := s.write (es := ds) q
    refine ⟨.ref p, h1, .inl ⟨rfl, vs, SqL.of h2⟩, h B G0 G H τ σ _ _ s hw fun d v G1 H1 q1 x ok => ?_⟩
    split at q1
    · rename_i es
      obtain ⟨p2, ws, rfl, k1, k2⟩ := rdb_lst ok
      have s1 := s.ext x
      obtain ⟨p', vs', g1, g2, g3, g4⟩ := s1.write (es := ds ++ es) q
      rw [h1] at g1; cases g1
      rw [x.h _ _ h2] at g2; cases g2
      exact ⟨p, p2, vs, ws, rfl, rfl, x.h _ _ h2, k1, by rw [← h3.len, ← k2.len]; exact Nat.le_trans q1.1 line24, eo.nx G1 _ _ _ (g4 _ (g3.append k2)) q1.2⟩
    · exact q1.elim
  · exact hw.elim
/-- x[i] = e, x an own list -/
def wSub (i : Nat) (rb : WR) (we : WE) : WS := fun E τ => match τ[i]? with
  | some (some (.ow p (.lst ds))) => we τ fun r => rb τ fun k => match k with
    | .int j => ∃ n, ixN ds.length j = some n ∧ E.nx (τ.set i (some (.ow p (.lst (ds.set n r.d)))))
    | _ => False
  | some (some (.ali m)) => atAliW τ i m fun row f => we τ fun r => rb τ fun k => match k with
    | .int j => ∃ n, ixN row.length j = some n ∧ E.nx (f (row.set n r.d))
    | _ => False
  | _ => False
theorem lf_sub {i : Nat} (h : LfE M te we) (hb : LfR M tb rb) : LfS M (tAsg te (gSub (tVar i) tb rSetL)) (wSub i rb we) := fun B G0 G H τ σ E E' s eo hw => by
  unfold wSub at hw
  split at hw
  · rename_i p0 ds q
    refine h.frz (Q := fun d => rb τ fun k => match k with
      | .int j => ∃ n, ixN ds.length j = some n ∧ E.nx (τ.set i (some (.ow p0 (.lst (ds.set n d)))))
      | _ => False) s hw fun d v G1 H1 q1 x ok => ?_
    have s1 := s.ext x
    obtain ⟨p, vs, h1, h2, h3, h4⟩ := s1.write (es := ds) q
    refine ⟨.ref p, h1, hb B G0 G1 H1 τ σ _ _ s1 q1 fun k vk G2 H2 q2 x2 ok2 => ?_⟩
    split at q2
    · obtain ⟨n, hn, q2⟩ := q2
      cases rdb_int ok2
      obtain ⟨p', vs', g1, g2, g3, g4⟩ := (s1.ext x2).write (es := ds.set n d) q
      rw [h1] at g1; cases g1
      rw [x2.h _ _ h2] at g2; cases g2
      exact ⟨p, vs, _, n, rfl, rfl, x2.h _ _ h2, by rw [← h3.len]; exact hn, eo.nx G2 _ _ _ (g4 _ (g3.set n (Rep.mono x2.g ok))) q2⟩
    · exact q2.elim
  · rename_i m q
    obtain ⟨row, f, b, hq, h1, hs⟩ := atAliW_ok s q hw
    obtain ⟨us, h2, h3, _⟩ := hs G H s
    refine h.frz (Q := fun d => rb τ fun k => match k with
      | .int j => ∃ n, ixN row.length j = some n ∧ E.nx (f (row.set n d))
      | _ => False) s hq fun d v G1 H1 q1 x ok => ?_
    have s1 := s.ext x
    refine ⟨.ref b, h1, hb B G0 G1 H1 τ σ _ _ s1 q1 fun k vk G2 H2 q2 x2 ok2 => ?_⟩
    split at q2
    · obtain ⟨n, hn, q2⟩ := q2
      cases rdb_int ok2
      obtain ⟨us2, g2, g3, g4⟩ := hs G2 H2 (s1.ext x2)
      rw [x2.h _ _ (x.h _ _ h2)] at g2; cases g2
      exact ⟨b, us, _, n, rfl, rfl, x2.h _ _ (x.h _ _ h2), by rw [← h3.len]; exact hn, eo.nx G2 _ _ _ (g4 _ _ (g3.set n (Rep.mono x2.g ok))) q2⟩
    · exact q2.elim
  · exact hw.elim
/-- y = x.pop(), x an own list -/
def wPop (y i : Nat) : WS := fun E τ => match τ[i]? with
  | some (some (.ow p (.lst ds))) => ∃ d, ds[ds.length - 1]? = some d ∧ E.nx ((τ.set i (some (.ow p (.lst ds.dropLast)))).set y (some (.frz d)))
  | _ => False
theorem Reps.dropLast {ds : List D} {vs : List V} (h : Reps M G ds vs) : Reps M G ds.dropLast vs.dropLast := by
  rw [List.dropLast_eq_take, List.dropLast_eq_take, h.len]
  exact h.take _
theorem lf_pop {y i : Nat} : LfS M (tAsg (tBM0 M.K "list" rPop (tVar i)) (gName y)) (wPop y i) := fun B G0 G H τ σ E E' s eo hw => by
  unfold wPop at hw
  split at hw
  · rename_i p0 ds q
    obtain ⟨p, vs, h1, h2, h3, h4⟩ := s.write (es := ds.dropLast) q
    obtain ⟨d, hd, hw⟩ := hw
    obtain ⟨v, k1, k2⟩ := h3.get hd
    exact ⟨.ref p, h1, .inl ⟨rfl, vs, SqL.of h2⟩, p, vs, v, rfl, rfl, h2, by rw [← h3.len]; exact k1, eo.nx G _ _ _ ((h4 _ h3.dropLast).setF (d := d) k2) hw⟩
  · exact hw.elim
/-- y = x.pop(e) -/
def wPopAt (y i : Nat) (rb : WR) : WS := fun E τ => match τ[i]? with
  | some (some (.ow p (.lst ds))) => rb τ fun k => match k with
    | .int j => (-(2 ^ 63) ≤ j ∧ j < 2 ^ 63) ∧ ∃ n d, seqIndex? j ds.length = some n ∧ ds[n]? = some d ∧ E.nx ((τ.set i (some (.ow p (.lst (ds.eraseIdx n))))).set y (some (.frz d)))
    | _ => False
  | _ => False
theorem lf_popAt {y i : Nat} (hb : LfR M tb rb) : LfS M (tAsg (tBM M.K "list" rPopAt (tVar i) (tCons tb tNil)) (gName y)) (wPopAt y i rb) := fun B G0 G H τ σ E E' s eo hw => by
  unfold wPopAt at hw
  split at hw
  · rename_i p0 ds q
    obtain ⟨p, vs, h1, h2, h3, h4⟩ := s.write (es := ds) q
    refine ⟨.ref p, h1, .inl ⟨rfl, vs, SqL.of h2⟩, hb B G0 G H τ σ _ _ s hw fun k vk G2 H2 q2 x2 ok2 => ?_⟩
    split at q2
    · cases rdb_int ok2
      obtain ⟨⟨b1, b2⟩, n, d, hn, hd, q2⟩ := q2
      obtain ⟨p', vs', g1, g2, g3, g4⟩ := (s.ext x2).write (es := ds.eraseIdx n) q
      rw [h1] at g1; cases g1
      rw [x2.h _ _ h2] at g2; cases g2
      obtain ⟨v, k1, k2⟩ := g3.get hd
      exact ⟨p, vs, _, n, v, rfl, rfl, x2.h _ _ h2, b1, b2, by rw [← h3.len]; exact hn, k1, eo.nx G2 _ _ _ ((g4 _ (g3.eraseIdx n)).setF (d := d) k2) q2⟩
    · exact q2.elim
  · exact hw.elim

/-! ### nests -/
/-- an own list of frozen things becomes a nest -/
def nest1 (τ : Sls) (i : Nat) : Sls := match τ[i]? with
  | some (some (.ow p (.lst ds))) => τ.set i (some (.nst p .lst (ds.map Ch.fz) []))
  | _ => τ
theorem fz_ls {ds : List D} {k : Nat} {row : List D} (h : (ds.map Ch.fz)[k]? = some (.ls row)) : False := by
  rw [List.getElem?_map] at h
  cases e : ds[k]? with
  | none => rw [e] at h; cases h
  | some d => rw [e] at h; cases h
theorem Stt.nest1 {τ : Sls} {σ : L2.St} (s : Stt M B G0 G H τ σ) (i : Nat) : Stt M B G0 G H (nest1 τ i) σ := by
  unfold Pl.nest1
  split
  · rename_i p ds e
    obtain ⟨v, h1, h2⟩ := s.ok i _ e
    obtain ⟨⟨a, vs, rfl, h3, h4, h5, h6⟩, hp⟩ := h2
    refine s.chg e h1 (fun _ _ => rfl) (Same.refl G) (fun b o q => .inl q) ?_ ?_ (fun j p kd chs als k q _ hl => by cases q; cases hl) (fun _ q => by cases q)
    · refine ⟨a, _, vs, rfl, h3, rfl, h4, h5, ChsOk.of (by simp [h6.len]) fun m c w e1 e2 => ?_, ⟨fun m r q => (fz_ls q).elim, fun m n r r' w hmn q1 q2 q3 q4 => (fz_ls q1).elim⟩, hp⟩
      rw [List.getElem?_map] at e1
      cases ed : ds[m]? with
      | none => rw [ed] at e1; cases e1
      | some d =>
        rw [ed] at e1; cases e1
        obtain ⟨w', g1, g2⟩ := h6.get ed
        rw [e2] at g1; cases g1
        exact g2
    · intro b f
      rcases f with f | ⟨a', o', vs', m, r, f1, f2, f3, f4, f5⟩
      · exact .inl f
      · exact (fz_ls f4).elim
  · exact s
def wNest (i : Nat) (w : WS) : WS := fun E τ => w E (nest1 τ i)
theorem lss_nest {ss : List Stmt} (i : Nat) (h : LSs M X ss t w) : LSs M X ss t (wNest i w) := ⟨fun hK => by cases M; cases hK; exact (h.ps rfl), fun B G0 G H τ σ E E' s eo hw => h.lf B G0 G H _ σ E E' (s.nest1 i) eo hw⟩
/-- x[e], read: a part of a nest -/
def wRxN (i : Nat) (rb : WR) : WR := fun τ Q => match τ[i]? with
  | some (some (.nst _ .lst chs _)) => rb τ fun k => match k with
    | .int j => ∃ row, atI chs j = some (.ls row) ∧ Q (.lst row)
    | _ => False
  | _ => False
theorem atI_len {α β : Type} {xs : List α} {ys : List β} {j : Int} {x : α} (hl : xs.length = ys.length) (h : atI xs j = some x) : ∃ (n : Nat) (y : β), xs[n]? = some x ∧ ys[n]? = some y ∧ atI ys j = some y := by
  unfold atI at h ⊢
  rw [← hl]
  cases e : ixN xs.length j with
  | none => rw [e] at h; cases h
  | some n =>
    rw [e] at h
    have hn : n < xs.length := (List.getElem?_eq_some_iff.mp h).1
    exact ⟨n, ys[n]'(by omega), h, List.getElem?_eq_getElem _, List.getElem?_eq_getElem _⟩
theorem lf_rxN {i : Nat} (hb : LfR M tb rb) : LfR M (tOp (rIx M.K) (tVar i) tb) (wRxN i rb) := fun B G0 G H τ σ Q Q' s hw k => by
  unfold wRxN at hw
  split at hw
  · rename_i p chs als q
    obtain ⟨v, h1, h2⟩ := s.ok i _ q
    obtain ⟨a, o, vs, rfl, _⟩ := h2
    refine ⟨_, h1, hb B G0 G H τ σ _ _ s hw fun d y G1 H1 q1 x1 r1 => ?_⟩
    have s1 := s.ext x1
    split at q1
    · rename_i j
      cases rdb_int r1
      obtain ⟨row, e1, q1⟩ := q1
      obtain ⟨v', k1, k2⟩ := s1.ok i _ q
      rw [h1] at k1; cases k1
      obtain ⟨a', o', vs', e', m1, m2, m3, m4, m5, m6, m7⟩ := k2
      cases e'; cases m2
      obtain ⟨n, w, n1, n2, n3⟩ := atI_len m5.len e1
      obtain ⟨w', f1, f2⟩ := m5.get n1
      rw [n2] at f1; cases f1
      obtain ⟨b, us, rfl, r1, r2, r3, r4⟩ := rowOk f2
      exact .inl ⟨a, vs', j, .ref b, rfl, rfl, SqL.of m1, n3, k (.lst row) _ G1 H1 q1 x1 ⟨b, us, rfl, r1, r4⟩⟩
    · exact q1.elim
  · exact hw.elim
/-- a name that lets go takes any value -/
theorem Stt.anyV {τ : Sls} {σ : L2.St} (s : Stt M B G0 G H τ σ) {j : Nat} (hj : ∀ u, τ[j]? ≠ some (some u)) (v : V) : Stt M B G0 G H τ (σ.set j (some v)) := by
  have g : ∀ {m : Nat} {u : Sl}, τ[m]? = some (some u) → (σ.set j (some v))[m]? = σ[m]? := fun {m u} e => List.getElem?_set_ne fun q => hj u (by rw [q]; exact e)
  exact ⟨s.toFr, by simp [s.len], fun m u e => by rw [g e]; exact s.ok m u e, fun m k u w x y b hjk e1 e2 e3 e4 f1 f2 => by
      rw [g e1] at e3; rw [g e2] at e4; exact s.ap m k u w x y b hjk e1 e2 e3 e4 f1 f2,
    fun m k p kd chs als n e1 e2 e3 => by rw [g e1, g e2]; exact s.al m k p kd chs als n e1 e2 e3⟩
/-- .. and stands for a part of a nest -/
theorem Stt.setAli {τ : Sls} {σ : L2.St} (s : Stt M B G0 G H τ σ) {i j : Nat} {v : V} (hv : σ[j]? = some (some v)) (hij : i ≠ j)
    (h : ∀ (p : Option Addr) (kd : Kd) (chs : List Ch) (als : List (Nat × Nat)) (k : Nat), τ[i]? = some (some (.nst p kd chs als)) → als.lookup j = some k → ∃ a o vs, σ[i]? = some (some (.ref a)) ∧ H a = some o ∧ KdOk M kd o vs ∧ vs[k]? = some v) : Stt M B G0 G H (τ.set j (some (.ali i))) σ := by
  have g : ∀ {m : Nat} {u : Sl}, (τ.set j (some (.ali i)))[m]? = some (some u) → (m = j ∧ u = .ali i) ∨ (m ≠ j ∧ τ[m]? = some (some u)) := fun {m u} e => by
    by_cases hm : j = m
    · subst hm
      rw [List.getElem?_set] at e
      simp at e
      exact .inl ⟨rfl, e.2.symm⟩
    · rw [List.getElem?_set_ne hm] at e
      exact .inr ⟨Ne.symm hm, e⟩
  refine ⟨s.toFr, by simp [s.len], fun m u e => ?_, fun m k u w x y b hjk e1 e2 e3 e4 f1 f2 => ?_, fun m k p kd chs als n e1 e2 e3 => ?_⟩
  · rcases g e with ⟨rfl, rfl⟩ | ⟨_, e⟩
    · exact ⟨v, hv, trivial⟩
    · exact s.ok m u e
  · rcases g e1 with ⟨_, rfl⟩ | ⟨_, e1⟩
    · exact f1.elim
    · rcases g e2 with ⟨_, rfl⟩ | ⟨_, e2⟩
      · exact f2.elim
      · exact s.ap m k u w x y b hjk e1 e2 e3 e4 f1 f2
  · rcases g e2 with ⟨_, q⟩ | ⟨_, e2x⟩
    · cases q
    · rcases g e1 with ⟨z, q⟩ | ⟨_, e1⟩
      · cases q
        subst z
        obtain ⟨a, o, vs, h1, h2, h3, h4⟩ := h p kd chs als n e2x e3
        exact ⟨a, o, vs, v, h1, h2, h3, h4, hv⟩
      · exact s.al m k p kd chs als n e1 e2x e3
/-- y = x[e], x a nest -/
def wAliN (i j : Nat) (rb : WR) : WS := fun E τ => match τ[i]? with
  | some (some (.nst p .lst chs als)) => (match τ[j]? with
    | some _ => rb τ fun k => match k with
      | .int x => ∃ n row, ixN chs.length x = some n ∧ chs[n]? = some (.ls row) ∧ E.nx (((τ.set j none).set i (some (.nst p .lst chs ((j, n) :: als)))).set j (some (.ali i)))
      | _ => False
    | none => False)
  | _ => False
theorem Stt.alias {τ : Sls} {σ : L2.St} (s : Stt M B G0 G H τ σ) {i j n : Nat} {p : Option Addr} {chs : List Ch} {als : List (Nat × Nat)} {a : Addr} {vs : List V} {v : V} (hij : i ≠ j) (e : τ[i]? = some (some (.nst p .lst chs als))) (h1 : σ[i]? = some (some (.ref a))) (h2 : H a = some (.lst vs)) (h3 : vs[n]? = some v) (hl : j < τ.length) :
    Stt M B G0 G H (((τ.set j none).set i (some (.nst p .lst chs ((j, n) :: als)))).set j (some (.ali i))) (σ.set j (some v)) := by
  have d : ∀ u, (τ.set j none)[j]? ≠ some (some u) := fun u q => by rw [List.getElem?_set] at q; simp at q
  have s1 := (s.drop j).anyV d v
  have e1 : (τ.set j none)[i]? = some (some (.nst p .lst chs als)) := by rw [List.getElem?_set_ne (Ne.symm hij)]; exact e
  have g1 : (σ.set j (some v))[i]? = some (some (.ref a)) := by rw [List.getElem?_set_ne (Ne.symm hij)]; exact h1
  obtain ⟨v0, k1, k2⟩ := s1.ok i _ e1
  rw [g1] at k1; cases k1
  have s2 := s1.chg (t' := .nst p .lst chs ((j, n) :: als)) e1 g1 (fun _ _ => rfl) (Same.refl G) (fun b o q => .inl q) k2 (fun b f => .inl f) (fun m p' kd' chs' als' k q1 q2 q3 => by
    cases q1
    have hm : m ≠ j := fun z => d _ (z ▸ q2)
    rw [List.lookup_cons] at q3
    have : (m == j) = false := by simpa using hm
    rw [this] at q3
    obtain ⟨a', o, us, u, f1, f2⟩ := s1.al m i _ _ _ _ k q2 e1 q3
    rw [g1] at f1; cases f1
    exact ⟨a, o, us, u, rfl, f2⟩) (fun _ q => by cases q)
  refine s2.setAli (v := v) (by rw [List.getElem?_set_self (by rw [← s.len]; exact hl)]) hij fun p' kd' chs' als' k q1 q2 => ?_
  rw [List.getElem?_set_self (by simpa using (List.getElem?_eq_some_iff.mp e).1)] at q1
  cases q1
  rw [List.lookup_cons] at q2
  simp at q2
  subst q2
  exact ⟨a, _, vs, g1, h2, rfl, h3⟩
theorem lf_aliN {i j : Nat} (hij : i ≠ j) (hb : LfR M tb rb) : LfS M (tAsg (tOp (rIx M.K) (tVar i) tb) (gName j)) (wAliN i j rb) := fun B G0 G H τ σ E E' s eo hw => by
  unfold wAliN at hw
  split at hw
  · rename_i p chs als q
    split at hw
    rotate_left
    · exact hw.elim
    rename_i oj qj
    have hl : j < τ.length := (List.getElem?_eq_some_iff.mp qj).1
    obtain ⟨v, h1, h2⟩ := s.ok i _ q
    obtain ⟨a, o, vs, rfl, _⟩ := h2
    refine ⟨_, h1, hb B G0 G H τ σ _ _ s hw fun d y G1 H1 q1 x1 r1 => ?_⟩
    have s1 := s.ext x1
    split at q1
    · rename_i x
      cases rdb_int r1
      obtain ⟨n, row, e0, e1, q1⟩ := q1
      obtain ⟨v', k1, k2⟩ := s1.ok i _ q
      rw [h1] at k1; cases k1
      obtain ⟨a', o', vs', e', m1, m2, m3, m4, m5, m6, m7⟩ := k2
      cases e'; cases m2
      obtain ⟨w, f1, f2⟩ := m5.get e1
      have hat : atI vs' x = some w := by unfold atI; rw [← m5.len, e0]; exact f1
      refine .inl ⟨a, vs', x, w, rfl, rfl, SqL.of m1, hat, ?_⟩
      exact eo.nx G1 H1 _ _ (s1.alias hij q h1 m1 f1 hl) q1
    · exact q1.elim
  · exact hw.elim
/-- x.append(y), x a nest, y an own list: y stands for the new part -/
def wAppNm (i j : Nat) : WS := fun E τ => match τ[i]? with
  | some (some (.nst p .lst chs als)) => (match τ[j]? with
    | some (some (.ow _ (.lst ds))) => chs.length < 16777216 ∧ E.nx (((τ.set j none).set i (some (.nst p .lst (chs ++ [.ls ds]) ((j, chs.length) :: als)))).set j (some (.ali i)))
    | _ => False)
  | _ => False
theorem lf_appNm {i j : Nat} (hij : i ≠ j) : LfS M (tDrop (tBM M.K "list" rAppend (tVar i) (tCons (tVar j) tNil))) (wAppNm i j) := fun B G0 G H τ σ E E' s eo hw => by
  unfold wAppNm at hw
  split at hw
  · rename_i p chs als q
    split at hw
    · rename_i p2 ds q2
      obtain ⟨v, h1, h2⟩ := s.ok i _ q
      have h2' := h2
      obtain ⟨a, o, vs, rfl, m1, m2, m3, m4, m5, m6, m7⟩ := h2'
      cases m2
      obtain ⟨v', k1, k2⟩ := s.ok j _ q2
      have k2' := k2
      obtain ⟨⟨b, us, rfl, n1, n2, n3, n4⟩, n5⟩ := k2'
      have hjl : j < τ.length := (List.getElem?_eq_some_iff.mp q2).1
      have hil : i < τ.length := (List.getElem?_eq_some_iff.mp q).1
      refine ⟨.ref a, h1, .inl ⟨rfl, vs, SqL.of m1⟩, .ref b, k1, a, vs, .ref b, rfl, rfl, m1, by rw [← m5.len]; exact Nat.lt_of_lt_of_le hw.1 line24, eo.nx G _ _ _ ?_ hw.2⟩
      have d : ∀ u, (τ.set j none)[j]? ≠ some (some u) := fun u q => by rw [List.getElem?_set] at q; simp at q
      have s1 := s.drop j
      have e1 : (τ.set j none)[i]? = some (some (.nst p .lst chs als)) := by rw [List.getElem?_set_ne (Ne.symm hij)]; exact q
      have nf : ¬ Ft M H (.nst p .lst chs als) (.ref a) b := fun f => s.ap i j _ _ _ _ b hij q q2 h1 k1 f rfl
      have hv := nst_snoc (c := .ls ds) (v := .ref b) h2 m1 ⟨b, us, rfl, n1, n2, n3, n4⟩ (fun row _ c z => by cases z; exact nf)
      have s2 := s1.chg (t' := .nst p .lst (chs ++ [.ls ds]) ((j, chs.length) :: als)) e1 h1 (H' := upd H a (.lst (vs ++ [.ref b]))) (fun c n => upd_ne fun z => n (by subst z; exact .inl rfl)) (Same.refl G) (fun b o q => .inl q) hv (fun c f => by
          rcases f with f | ⟨a', o', vs', m, r, f1, f2, f3, f4, f5⟩
          · exact .inl (.inl f)
          · cases f1
            rw [upd_same] at f2; cases f2
            cases f3
            rw [List.getElem?_append] at f4 f5
            split at f4
            · rename_i hm
              rw [if_pos (by rw [← m5.len]; exact hm)] at f5
              exact .inl (.inr ⟨a, _, vs, m, r, rfl, m1, rfl, f4, f5⟩)
            · rename_i hm
              rw [if_neg (by rw [← m5.len]; exact hm)] at f5
              have hm0 : m - chs.length = 0 := by
                have := (List.getElem?_eq_some_iff.mp f4).1
                simp at this; omega
              rw [← m5.len, hm0] at f5
              cases f5
              refine .inr fun j' u w hj' g1 g2 f => ?_
              have hjj : j' ≠ j := fun z => d u (z ▸ g1)
              rw [List.getElem?_set_ne (Ne.symm hjj)] at g1
              exact s.ap j' j u _ w _ b hjj g1 q2 g2 k1 f rfl) (fun m p' kd' chs' als' k q1 q2 q3 => by
          cases q1
          have hm : m ≠ j := fun z => d _ (z ▸ q2)
          rw [List.lookup_cons] at q3
          have : (m == j) = false := by simpa using hm
          rw [this] at q3
          obtain ⟨a', o, us', u, f1, f2, f3, f4, f5⟩ := s1.al m i _ _ _ _ k q2 e1 q3
          rw [h1] at f1; cases f1
          rw [m1] at f2; cases f2
          cases f3
          exact ⟨a, _, vs ++ [V.ref b], u, rfl, upd_same, (show KdOk M Kd.lst (HO.lst (vs ++ [V.ref b])) (vs ++ [V.ref b]) from rfl), by rw [List.getElem?_append_left (List.getElem?_eq_some_iff.mp f4).1]; exact f4, f5⟩) (fun _ q => by cases q)
      refine s2.setAli (v := .ref b) k1 hij fun p' kd' chs' als' k q1 q2 => ?_
      rw [List.getElem?_set_self (by simpa using hil)] at q1
      cases q1
      rw [List.lookup_cons] at q2
      simp at q2
      subst q2
      refine ⟨a, _, vs ++ [V.ref b], h1, upd_same, (show KdOk M Kd.lst (HO.lst (vs ++ [V.ref b])) (vs ++ [V.ref b]) from rfl), ?_⟩
      rw [m5.len]; simp
    · exact hw.elim
  · exact hw.elim
/-- x[i][j] = e, x a nest -/
def wSubNN (i : Nat) (ra rb : WR) (we : WE) : WS := fun E τ => match τ[i]? with
  | some (some (.nst p .lst chs als)) => we τ fun r => ra τ fun k => match k with
    | .int x => ∃ n row, ixN chs.length x = some n ∧ chs[n]? = some (.ls row) ∧ rb τ fun k => match k with
      | .int y => ∃ m, ixN row.length y = some m ∧ E.nx (τ.set i (some (.nst p .lst (chs.set n (.ls (row.set m r.d))) als)))
      | _ => False
    | _ => False
  | _ => False
theorem lf_subNN {i : Nat} (h : LfE M te we) (ha : LfR M ta ra) (hb : LfR M tb rb) : LfS M (tAsg te (gSub (tOp (rIx M.K) (tVar i) ta) tb rSetL)) (wSubNN i ra rb we) := fun B G0 G H τ σ E E' s eo hw => by
  unfold wSubNN at hw
  split at hw
  · rename_i p chs als q
    refine h.frz (Q := fun d => ra τ fun k => match k with
      | .int x => ∃ n row, ixN chs.length x = some n ∧ chs[n]? = some (.ls row) ∧ rb τ fun k => match k with
        | .int y => ∃ m, ixN row.length y = some m ∧ E.nx (τ.set i (some (.nst p .lst (chs.set n (.ls (row.set m d))) als)))
        | _ => False
      | _ => False) s hw fun d v G1 H1 q1 x1 ok => ?_
    have s1 := s.ext x1
    obtain ⟨va, h1, h2⟩ := s1.ok i _ q
    obtain ⟨a, o, vs, rfl, _⟩ := h2
    refine ⟨_, h1, ha B G0 G1 H1 τ σ _ _ s1 q1 fun d1 y G2 H2 q2 x2 r2 => ?_⟩
    split at q2
    · rename_i x
      cases rdb_int r2
      obtain ⟨n, row, e0, e1, q2⟩ := q2
      have s2 := s1.ext x2
      obtain ⟨a', o', vs', b, us, c1, c2, c3, c4, c5, c6, c7, c8⟩ := s2.child q e1
      rw [h1] at c1; cases c1
      cases c3
      have hat : atI vs' x = some (.ref b) := by unfold atI; rw [← c4, e0]; exact c5
      refine .inl ⟨a, vs', x, .ref b, rfl, rfl, SqL.of c2, hat, hb B G0 G2 H2 τ σ _ _ s2 q2 fun d3 y G3 H3 q3 x3 r3 => ?_⟩
      split at q3
      · rename_i z
        cases rdb_int r3
        obtain ⟨m, hm, q3⟩ := q3
        obtain ⟨a3, o3, vs3, b3, us3, g1, g2, g3, g4, g5, g6, g7, g8⟩ := (s2.ext x3).child q e1
        rw [h1] at g1; cases g1
        rw [x3.h _ _ c2] at g2; cases g2
        cases g3
        rw [c5] at g5; cases g5
        exact ⟨b, us3, z, m, rfl, rfl, g6, by rw [← g7.len]; exact hm, eo.nx G3 _ _ _ (g8 _ _ (g7.set m (Rep.mono (x2.g.trans x3.g) ok))) q3⟩
      · exact q3.elim
    · exact q2.elim
  · exact hw.elim

/-! ### flow -/
def wDrop (we : WE) : WS := fun E τ => we τ fun _ => E.nx τ
theorem lf_drop (h : LfE M te we) : LfS M (tDrop te) (wDrop we) := fun B G0 G H τ σ E E' s eo hw => h B G0 G H τ σ _ _ s hw fun r v G1 H1 q x ok => eo.nx G1 H1 τ σ (s.ext x) q
theorem ls_drop (h : LE M X e te we) (hs : swapsWith e none pos.line X.env = pure false := by rfl) : LS M X (.Expr e pos) (tDrop te) (wDrop we) := ⟨fun hK => by cases M; cases hK; exact ps_expr (h.pe rfl) hs, lf_drop h.lf⟩
def wRet (we : WE) : WS := fun E τ => we τ fun r => E.rt r τ
theorem lf_ret (h : LfE M te we) : LfS M (tRet te) (wRet we) := fun B G0 G H τ σ E E' s eo hw => h B G0 G H τ σ _ _ s hw fun r v G1 H1 q x ok => eo.rt G1 H1 τ σ r v (s.ext x) (ok.older s.bh) (fun d e i t w b e1 e2 f ev => by
  subst e ev
  cases d with
  | lst ds =>
    obtain ⟨p, vs, e', _, _, h5, _⟩ := ok
    cases e'
    obtain ⟨w', g1, g2⟩ := s.ok i t e1
    rw [e2] at g1; cases g1
    have f' : Ft M H t w b := Ft.keep (fun a ea => by
      obtain ⟨⟨o, q⟩, _⟩ := Ft.free g2 (Ft.top f.own ea)
      rw [q, x.h _ _ q]) f
    obtain ⟨⟨o, q⟩, _⟩ := Ft.free g2 f'
    rw [h5] at q; cases q
  | _ => exact ok.elim) q
theorem ls_ret (h : LE M X e te we) (hp : X.K = M.K → PS X (.Return (some e) pos) (tRet te)) : LS M X (.Return (some e) pos) (tRet te) (wRet we) := ⟨hp, lf_ret h.lf⟩
/-- return x: an own list goes out as a new one -/
def wRetN (i : Nat) : WS := fun E τ => match τ[i]? with
  | some (some (.frz d)) => E.rt (.fr d) τ
  | some (some (.ow _ d)) => E.rt (.nw d) (τ.set i none)
  | _ => False
theorem lf_retN (i : Nat) : LfS M (tRet (tVar i)) (wRetN i) := fun B G0 G H τ σ E E' s eo hw => by
  unfold wRetN at hw
  split at hw
  · rename_i d q
    obtain ⟨v, h1, h2⟩ := s.ok i _ q
    exact ⟨v, h1, eo.rt G H τ σ (.fr d) v s h2 (fun d e => by cases e) hw⟩
  · rename_i p d q
    obtain ⟨v, h1, h2⟩ := s.ok i _ q
    refine ⟨v, h1, eo.rt G H _ σ (.nw d) v (s.drop i) h2.1 (fun d' e j t w b e1 e2 f ev => ?_) hw⟩
    have hj : i ≠ j := fun z => by subst z; rw [List.getElem?_set] at e1; simp at e1
    rw [List.getElem?_set_ne hj] at e1
    exact s.ap i j _ t v w b hj q e1 h1 e2 (Ft.top rfl ev) f
  · exact hw.elim
def wRet0 : WS := fun E τ => E.rt (.fr .non) τ
theorem ls_ret0 : LS M X (.Return none pos) tRetN wRet0 := ⟨fun hK => by cases M; cases hK; exact ps_retN, fun B G0 G H τ σ E E' s eo hw => eo.rt G H τ σ (.fr .non) .non s (rep_non (M := M) (G := G)) (fun d e => by cases e) hw⟩
def wBrk : WS := fun E τ => E.bk τ
def wCnt : WS := fun E τ => E.ct τ
theorem ls_brk : LS M X (.Break pos) tBreak wBrk := ⟨fun hK => by cases M; cases hK; exact ps_break, fun B G0 G H τ σ E E' s eo hw => eo.bk G H τ σ s hw⟩
theorem ls_cnt : LS M X (.Continue pos) tCont wCnt := ⟨fun hK => by cases M; cases hK; exact ps_continue, fun B G0 G H τ σ E E' s eo hw => eo.ct G H τ σ s hw⟩
theorem ls_pass : LS M X (.Pass pos) tNext wSkip := ⟨fun hK => by cases M; cases hK; exact ps_pass, fun B G0 G H τ σ E E' s eo hw => eo.nx G H τ σ s hw⟩
def wIfS (wt : WT) (w w' : WS) : WS := fun E τ => wt τ fun b => wIf b (w E τ) (w' E τ)
theorem lf_if {tt : TT} {wt : WT} (hc : LfT M tt wt) (h : LfS M t w) (h2 : LfS M u w') : LfS M (tIfS tt t u) (wIfS wt w w') := fun B G0 G H τ σ E E' s eo hw => hc B G0 G H τ σ _ _ s hw fun b G1 H1 q x => by
  cases b with
  | true => exact iteT (h B G0 G1 H1 τ σ E E' (s.ext x) eo (q.1 rfl))
  | false => exact iteF (h2 B G0 G1 H1 τ σ E E' (s.ext x) eo (q.2 rfl))
theorem ls_if {tt : TT} {wt : WT} {xs ys : List Stmt} (hc : LT M X c tt wt) (h : LSs M X xs t w) (h2 : LSs M X ys u w') : LS M X (.If c xs ys pos) (tIfS tt t u) (wIfS wt w w') := ⟨fun hK => by cases M; cases hK; exact ps_if (hc.pt rfl) (h.ps rfl) (h2.ps rfl), lf_if hc.lf h.lf h2.lf⟩
/-- while: P by a measure -/
def wWhile (wt : WT) (w : WS) : WS := fun E τ => ∃ P : Nat → Sls → Prop, (∃ m, P m τ) ∧ ∀ m τ, P m τ → wt τ fun b => wIf b (w { E with nx := fun τ' => ∃ m', m' < m ∧ P m' τ', ct := fun τ' => ∃ m', m' < m ∧ P m' τ', bk := E.nx } τ) (E.nx τ)
theorem lf_while {tt : TT} {wt : WT} (hc : LfT M tt wt) (h : LfS M t w) : LfS M (tWhile tt t) (wWhile wt w) := fun B G0 G H τ σ E E' s eo hw => by
  obtain ⟨P, ⟨m0, p0⟩, turn⟩ := hw
  refine ⟨fun m σ H => ∃ G τ, Stt M B G0 G H τ σ ∧ P m τ, ⟨m0, G, τ, s, p0⟩, ?_⟩
  rintro m σ1 H1 ⟨G1, τ1, s1, p1⟩
  refine hc B G0 G1 H1 τ1 σ1 _ _ s1 (turn m τ1 p1) fun b G2 H2 q x => ?_
  cases b with
  | true =>
    refine iteT ⟨fun σ' H' => ∃ m', m' < m ∧ ∃ G τ, Stt M B G0 G H' τ σ' ∧ P m' τ, fun σ' H' ⟨m', hm, h⟩ => ⟨m', hm, h⟩, ?_⟩
    exact h B G0 G2 H2 τ1 σ1 { E with nx := fun τ' => ∃ m', m' < m ∧ P m' τ', ct := fun τ' => ∃ m', m' < m ∧ P m' τ', bk := E.nx } _ (s1.ext x) ⟨fun G H τ σ s q => by obtain ⟨m', hm, hp⟩ := q; exact ⟨m', hm, G, τ, s, hp⟩, eo.rt, fun G H τ σ s q => eo.nx G H τ σ s q, fun G H τ σ s q => by obtain ⟨m', hm, hp⟩ := q; exact ⟨m', hm, G, τ, s, hp⟩⟩ (q.1 rfl)
  | false => exact iteF (eo.nx G2 H2 τ1 σ1 (s1.ext x) (q.2 rfl))
theorem ls_while {tt : TT} {wt : WT} {body : List Stmt} (hp : PassesOwn (model X.prog X.w) X.A X.env X.xe) (hc : LT M X c tt wt) (h : LSs M X body t w) : LS M X (.While c body [] pos) (tWhile tt t) (wWhile wt w) := ⟨fun hK => by cases M; cases hK; exact ps_while hp (hc.pt rfl) (h.ps rfl), lf_while hc.lf h.lf⟩
/-- for, item by item -/
def wForL (g : WG) (w : WS) (E : PEnds) : List D → Sls → Prop
  | [], τ => E.nx τ
  | x :: xs, τ => g x τ fun τ' => w { E with nx := wForL g w E xs, ct := wForL g w E xs, bk := E.nx } τ'
def wFor (ww : WW) (g : WG) (w : WS) : WS := fun E τ => ww τ fun xs => wForL g w E xs τ
theorem lf_for {wi : TI} {ww : WW} {g : TG} {wg : WG} {is : List Nat} (hi : LfW M wi ww) (hg : LfG M g wg is) (h : LfS M t w) : LfS M (tFor wi g t) (wFor ww wg w) := fun B G0 G H τ σ E E' s eo hw =>
  hi B G0 G H τ σ _ _ s hw fun xs J G1 H1 q1 x1 y => by
    have s1 := s.ext x1
    refine ⟨fun i m σ' H' => m = xs.length - i ∧ i ≤ xs.length ∧ ∃ G' τ', Stt M B G0 G' H' τ' σ' ∧ Same G1 G' ∧ wForL wg w E (xs.drop i) τ', ⟨xs.length, by simp, Nat.zero_le _, G1, τ, s1, Same.refl _, by simpa using q1⟩, ?_⟩
    rintro i m σ2 H2 ⟨rfl, hi', G2, τ2, s2, g12, w2⟩
    by_cases hlt : i < xs.length
    · right
      refine ⟨y.go G2 H2 i g12 s2.bh s2.gh hlt, fun σ' H' => ∃ G' τ', Stt M B G0 G' H' τ' σ' ∧ Same G1 G' ∧ wForL wg w E (xs.drop (i + 1)) τ', fun σ' H' hN => ⟨xs.length - (i + 1), by omega, rfl, hlt, hN⟩, fun x H3 yx => ?_⟩
      obtain ⟨G3, x3, d, hd, rd⟩ := y.yl G2 H2 i x H3 g12 s2.bh s2.gh yx hlt
      have ed : xs.drop i = d :: xs.drop (i + 1) := by
        rw [List.drop_eq_getElem_cons hlt]
        congr 1
        rw [List.getElem?_eq_getElem hlt] at hd
        exact Option.some.inj hd
      rw [ed] at w2
      refine hg B G0 G3 H3 τ2 σ2 d x _ _ (s2.ext x3) rd w2 fun τ4 σ4 q4 s4 _ _ => ?_
      -- the body keeps what is frozen: the entry's G0 is G3 within
      refine h B G3 G3 H3 τ4 σ4 { E with nx := wForL wg w E (xs.drop (i + 1)), ct := wForL wg w E (xs.drop (i + 1)), bk := E.nx } _ ⟨⟨s4.bh, s4.gh, Same.refl _, fun a o h => .inl h⟩, s4.len, s4.ok, s4.ap, s4.al⟩ ⟨fun G H τ σ s q => ⟨G, τ, ?_, (g12.trans x3.g).trans s.g0, q⟩, fun G H τ σ r v s ok sp q => eo.rt G H τ σ r v ?_ ok sp q, fun G H τ σ s q => eo.nx G H τ σ ?_ q, fun G H τ σ s q => ⟨G, τ, ?_, (g12.trans x3.g).trans s.g0, q⟩⟩ q4
      · exact ⟨⟨s.bh, s.gh, s4.g0.trans s.g0, fun a o h => (s.new a o h).elim (fun h => s4.new a o h) .inr⟩, s.len, s.ok, s.ap, s.al⟩
      · exact ⟨⟨s.bh, s.gh, s4.g0.trans s.g0, fun a o h => (s.new a o h).elim (fun h => s4.new a o h) .inr⟩, s.len, s.ok, s.ap, s.al⟩
      · exact ⟨⟨s.bh, s.gh, s4.g0.trans s.g0, fun a o h => (s.new a o h).elim (fun h => s4.new a o h) .inr⟩, s.len, s.ok, s.ap, s.al⟩
      · exact ⟨⟨s.bh, s.gh, s4.g0.trans s.g0, fun a o h => (s.new a o h).elim (fun h => s4.new a o h) .inr⟩, s.len, s.ok, s.ap, s.al⟩
    · left
      have e : i = xs.length := by omega
      subst e
      refine ⟨y.stop G2 H2 _ g12 s2.bh s2.gh (Nat.le_refl _), ?_⟩
      rw [List.drop_length] at w2
      exact eo.nx G2 H2 τ2 σ2 s2 w2
theorem ls_for {iter : Expr} {wi : TI} {ww : WW} {g : TG} {wg : WG} {is : List Nat} {body : List Stmt} (hp : PassesOwn (model X.prog X.w) X.A X.env X.xe) (hc : X.calm = true) (hi : LWk M X tg iter wi ww) (hg : LG M X tg g wg is) (h : LSs M X body t w) (hs : ∀ x, foldedSetIterable iter X.env x = pure x := by intro _; rfl) :
    LS M X (.For tg iter body [] pos) (tFor wi g t) (wFor ww wg w) := ⟨fun hK => by cases M; cases hK; exact ps_for hp hc (hi.pi rfl) (hg.pg rfl) (h.ps rfl) hs, lf_for hi.lf hg.lf h.lf⟩
end

/-! ### a def -/
/-- a promise over data: the arguments as they are handed, what is wanted of the result -/
abbrev PSp := List Sl → (Res → Prop) → Prop
def spD (M : Gm) (P : PSp) : Sp := fun vs H Q _ => ∃ G ss R, Same G H ∧ Args M G H ss vs ∧ P ss R ∧ ∀ r v G' H', R r → Ext G H G' H' → ResOk M H G' H' r v → Q v H'
def startS (n : Nat) (ss : List Sl) : Sls := ss.map some ++ List.replicate (n - ss.length) none
section
variable {X : Cx} {M : Gm} {B G0 G H G' H' : Hp}
theorem Args.len : ∀ {ss : List Sl} {vs : List V}, Args M G H ss vs → ss.length = vs.length
  | [], _, h => by cases h; rfl
  | s :: ss, vs, h => by
    obtain ⟨v, r, rfl, _, _, h3⟩ := h
    simp [Args.len h3]
theorem Args.get : ∀ {ss : List Sl} {vs : List V} {i : Nat} {s : Sl}, Args M G H ss vs → ss[i]? = some s → ∃ v, vs[i]? = some v ∧ s.isOwn = false ∧ SlOk M H G H s v
  | [], _, _, _, _, e => by simp at e
  | x :: ss, vs, i, s, h, e => by
    obtain ⟨v, r, rfl, h1, h2, h3⟩ := h
    cases i with
    | zero => simp at e; subst e; exact ⟨v, rfl, h1, h2⟩
    | succ i => simp at e; obtain ⟨u, h4, h5⟩ := Args.get h3 e; exact ⟨u, by simpa using h4, h5⟩
theorem startS_get {n i : Nat} {ss : List Sl} {s : Sl} (h : (startS n ss)[i]? = some (some s)) : ss[i]? = some s := by
  unfold startS at h
  rw [List.getElem?_append] at h
  split at h
  · rename_i hlt
    rw [List.getElem?_map] at h
    cases e : ss[i]? with
    | none => rw [e] at h; cases h
    | some u => rw [e] at h; simpa using h
  · rw [List.getElem?_replicate] at h
    split at h <;> simp at h
theorem stt_start {n : Nat} {N : List Str} {ss : List Sl} {vs : List V} (hn : N.length = n) (gh : Same G H) (a : Args M G H ss vs) : Stt M H G G H (startS n ss) (L2.start N vs) := by
  refine ⟨⟨Same.refl H, gh, Same.refl G, fun _ _ h => .inl h⟩, by unfold startS L2.start; simp [a.len, hn], fun i s e => ?_, fun i j s t v w b hij e1 e2 e3 _ f _ => ?_, fun j i p kd chs als k e1 e2 _ => ?_⟩
  · obtain ⟨v, h1, _, h3⟩ := a.get (startS_get e)
    refine ⟨v, ?_, h3⟩
    unfold L2.start
    have hlt : i < vs.length := (List.getElem?_eq_some_iff.mp h1).1
    rw [List.getElem?_append_left (by simpa using hlt), List.getElem?_map, h1]; rfl
  · obtain ⟨v, _, h2, _⟩ := a.get (startS_get e1)
    rw [f.own] at h2; cases h2
  · obtain ⟨v, _, h2, _⟩ := a.get (startS_get e2)
    cases h2
theorem spD_mono {P P' : PSp} (h : ∀ ss R, P ss R → P' ss R) {vs : List V} {H : Hp} {Q : VK} {E : XK} (s : spD M P vs H Q E) : spD M P' vs H Q E := by
  obtain ⟨G, ss, R, h1, h2, h3, h4⟩ := s
  exact ⟨G, ss, R, h1, h2, h _ _ h3, h4⟩
/-- f(..) -/
def wCall (P : PSp) (wa : WA) : WE := fun τ Q => wa τ fun ss => P ss Q
theorem lf_call {P : PSp} {E : XK} {ta : TA} {wa : WA} (h : LfA M ta wa) : LfE M (tCall (spD M P) [] E ta) (wCall P wa) := fun B G0 G H τ σ Q Q' s hw k =>
  h B G0 G H τ σ _ _ s hw fun ss vs G1 H1 q x a => ⟨G1, ss, Q, x.gh, by rw [List.append_nil]; exact a, q, fun r v G' H' qr x' ok => k r v G' H' qr (x.trans x') (ok.older x.h)⟩
/-- a def that can be called by its name -/
structure Def (P : Program) (w : World) (K : PySem.W.Frag) (mg : Str → Option Value) (base : Heap) (n : Nat) (x : Str) (ps : List Str) (sp : Sp) : Prop where
  ex : ∃ (f : Addr) (fd : FuncData), mg x = some (.ref f) ∧ PySem.W.keepIn K (.ref f) = true ∧ Binds K fd ps [] ∧ FnOk P w K mg base CX0 n f fd ps sp
theorem Def.mono {P : Program} {w : World} {K : PySem.W.Frag} {mg : Str → Option Value} {base : Heap} {n m : Nat} {x : Str} {ps : List Str} {sp : Sp} (d : Def P w K mg base n x ps sp) (h : n ≤ m) : Def P w K mg base m x ps sp := by
  obtain ⟨f, fd, h1, h2, h3, h4⟩ := d.ex
  exact ⟨f, fd, h1, h2, h3, h4.mono h⟩
theorem le_call {n : Nat} {x : Str} {ps : List Str} {P : PSp} {p pos : Pos} {e : Expr} {es : List Expr} {ta : TA} {wa : WA} (d : Def X.prog X.w M.K X.mg X.base n x ps (spD M P)) (hr : Room n X.A) (hg : Gl X x) (ha : LA M X (e :: es) ta wa)
    (hdb : (x == ("__debug__" : Str)) = false := by decide) (he : starEach (e :: es) X.env = (false, eval e X.env) :: starEach es X.env := by rfl) (hpl : (backTo pos (starEach es X.env)).any (·.1) = false := by rfl) :
    LE M X (.Call (.Name x p) (e :: es) [] pos) (tCall (spD M P) [] E0 ta) (wCall P wa) := by
  obtain ⟨f, fd, h1, h2, h3, h4⟩ := d.ex
  exact ⟨fun hK => by cases M; cases hK; exact pe_call h4 hr hg h1 h2 h3 .nil pass0 (ha.pa rfl) hdb he hpl, lf_call ha.lf⟩
/-- THE RULE for a def -/
theorem def_ok {P : Program} {w : World} {K : PySem.W.Frag} {mg : Str → Option Value} {base : Heap} {cl : Nat → Addr} {x qual : Str} {params : Arguments} {body : List Stmt} {scope : Scope} {f : Addr} {fd : FuncData} {N ps : List Str} {k : Nat} {Pp : PSp} {w' : WS}
    (F : FunD K x qual params body scope [] [] f fd) (hm : mg x = some (.ref f)) (S : FnScope N ps scope) (nl : Nat) (hN : N.length = nl)
    (hb : ∀ (kV doc pm : Value) (an : Option Addr) (cdv ct : Value) (us : List Value), us.length = ps.length → bindArgs (PySem.W.fnOf x qual params body scope .none kV doc pm an cdv ct) ⟨us, []⟩ = pure (ps.zip us))
    (len : ∀ ss R, Pp ss R → ss.length = ps.length)
    (hbody : ∀ (cdv : Value) (A : Around) (outer : List Env) (s : Shared) (H : Hp) (E : XK), Room k (A.deeper (PyProof.Rows.envOfC qual scope s.heap.objs.size f cdv)) → ∃ t, LSs ⟨K, cl⟩ (cxOf CX0 P w K mg base N qual scope f cdv A outer s H E).nox body t w')
    (hw : ∀ ss R, Pp ss R → w' { nx := fun _ => R (.fr .non), rt := fun r _ => R r } (startS nl ss)) : Def P w K mg base (k + 1) x ps (spD ⟨K, cl⟩ Pp) := by
  refine ⟨f, fd, hm, F.kp, FunD.bindsN F hb, F.ok S (fun vs H Q E h => ?_) (fun cdv A outer s H vs Q E hr h => ?_)⟩
  · obtain ⟨G, ss, R, h1, h2, h3, h4⟩ := h
    rw [← h2.len]; exact len ss R h3
  · obtain ⟨t, l⟩ := hbody cdv A outer s H E hr
    refine ⟨t, (l.ps rfl).nox, ?_⟩
    obtain ⟨G, ss, R, h1, h2, h3, h4⟩ := h
    refine l.lf H G G H (startS nl ss) (L2.start N vs) { nx := fun _ => R (.fr .non), rt := fun r _ => R r } _ (stt_start hN h1 h2) ⟨fun G' H' τ σ s q => h4 (.fr .non) _ G' H' q ⟨s.g0, s.bh, s.gh, s.new⟩ (rep_non (M := ⟨K, cl⟩) (G := G')), fun G' H' τ σ r v fr ok _ q => h4 r v G' H' q ⟨fr.g0, fr.bh, fr.gh, fr.new⟩ ok, fun _ _ _ _ _ q => q.elim, fun _ _ _ _ _ q => q.elim⟩ (hw ss R h3)
/-- how many arguments a promise takes -/
theorem len_of {P : PSp} {n : Nat} (h : ∀ ss R, P ss R → ss.length = n) {ps : List Str} (e : ps.length = n := by rfl) : ∀ ss R, P ss R → ss.length = ps.length := fun ss R q => (h ss R q).trans e.symm
end
end Pl

set_option maxHeartbeats 4000000
/-! The surface: the rules as they are written in a derivation. -/
namespace Pl
open PySem L2
section
variable {M : Gm} {X : Cx} {a b c e e2 tg elt iter : Expr} {pos p pos' spos py : Pos} {te ta tb tc : TE} {we wa wb wc : WE} {ra rb rc : WR}
/-- a name's value, frozen | read | handed on -/
theorem eN (i : Nat) {x : Str} (hN : X.N[i]? = some x := by rfl) (hv : Vis X.env.scope x := by first | exact Or.inl rfl | exact Or.inr (Or.inl rfl) | exact Or.inr (Or.inr rfl)) (hd : (x == ("__debug__" : Str)) = false := by decide)
    (hcd : (x == ("__classdict__" : Str)) = false := by decide) : LE M X (.Name x pos) (tVar i) (wNm i) := le_nm i (pe_var hN hv hd hcd)
theorem rN (i : Nat) {x : Str} (hN : X.N[i]? = some x := by rfl) (hv : Vis X.env.scope x := by first | exact Or.inl rfl | exact Or.inr (Or.inl rfl) | exact Or.inr (Or.inr rfl)) (hd : (x == ("__debug__" : Str)) = false := by decide)
    (hcd : (x == ("__classdict__" : Str)) = false := by decide) : LR M X (.Name x pos) (tVar i) (rNm i) := lr_nm i (pe_var hN hv hd hcd)
theorem aN (i : Nat) {x : Str} {es : List Expr} {t : TA} {wl : WA} (hr : LA M X es t wl) (hN : X.N[i]? = some x := by rfl) (hv : Vis X.env.scope x := by first | exact Or.inl rfl | exact Or.inr (Or.inl rfl) | exact Or.inr (Or.inr rfl)) (hd : (x == ("__debug__" : Str)) = false := by decide)
    (hcd : (x == ("__classdict__" : Str)) = false := by decide) (hs : starEach (.Name x pos :: es) X.env = (false, eval (.Name x pos) X.env) :: starEach es X.env := by rfl) : LA M X (.Name x pos :: es) (tCons (tVar i) t) (wAn i wl) := la_nm i (pe_var hN hv hd hcd) hr hs
theorem bN (i : Nat) {x : Str} (hN : X.N[i]? = some x := by rfl) (hv : Vis X.env.scope x := by first | exact Or.inl rfl | exact Or.inr (Or.inl rfl) | exact Or.inr (Or.inr rfl)) (hd : (x == ("__debug__" : Str)) = false := by decide)
    (hcd : (x == ("__classdict__" : Str)) = false := by decide) : LWk M X tg (.Name x pos) (iList M.K (tVar i)) (wWB i) := lk_bor i (pe_var hN hv hd hcd)
/-- x = e -/
theorem sSet (i : Nat) {x : Str} (hN : X.N.Nodup) (h : LE M X e te we) (hi : X.N[i]? = some x := by rfl) (hx : Loc X.env.scope x := by first | exact Or.inl rfl | exact Or.inr rfl)
    (hs : swapsWith e (some (.Name x pos')) pos.line X.env = pure false := by rfl) (hf : X.fn x = true ∨ X.env.scope.names.lookup x = some .local := by first | exact .inl rfl | exact .inr rfl) : LS M X (.Assign [.Name x pos'] e pos) (tAsg te (gName i)) (wSet i we) :=
  ls_set hN hi hx h (fun hK => ps_set hN hi hx (h.pe hK) hs hf)
/-- y = [..], y a plain local -/
theorem sSetLc (i : Nat) {y : Str} {ifs : List Expr} {scope : Scope} {own : List (Str × Nat)} {wi : TI} {ww : WW} {g : TG} {wg : WG} {is : List Nat} {tt : TT} {wt : WT} (hc : X.calm = true) (hN : X.N.Nodup) (hi : LWk M X tg iter wi ww) (ok : BlkOk X.N X.env.scope scope own)
    (hg : ∀ (s : Shared) (H : Hp) (C : Addr) (cl' : List (Str × Addr)) (fp : List Addr), LG M (X.blk s H scope (compEnvC scope cl' C X.env) fp) tg g wg is)
    (ht : ∀ (s : Shared) (H : Hp) (C : Addr) (cl' : List (Str × Addr)) (fp : List Addr), PTs (X.blk s H scope (compEnvC scope cl' C X.env) fp) ifs tt ∧ LfT M tt wt)
    (he : ∀ (s : Shared) (H : Hp) (C : Addr) (cl' : List (Str × Addr)) (fp : List Addr), LE M (X.blk s H scope (compEnvC scope cl' C X.env) fp) elt te we)
    (hy : X.N[i]? = some y := by rfl) (hyl : X.env.scope.names.lookup y = some .local := by rfl) (hsw : swapsWith (.ListComp elt [⟨tg, iter, ifs, 0⟩] scope pos) (some (.Name y py)) spos.line X.env = pure true := by exact sw_true rfl rfl rfl (by decide +kernel))
    (sub : ∀ i ∈ is, i ∈ own.map (·.2) := by decide) (hs : ∀ x, foldedSetIterable iter X.env x = pure x := by intro _; rfl) :
    LS M X (.Assign [.Name y py] (.ListComp elt [⟨tg, iter, ifs, 0⟩] scope pos) spos) (tAsg (tLc wi g tt te (own.map (·.2))) (gName i)) (wSet i (wLC ww wg wt we (own.map (·.2)))) :=
  ⟨fun hK => by cases M; cases hK; exact ps_setLc hc hN hy hyl hsw (hi.pi rfl) ok (fun s H C c f => (hg s H C c f).pg rfl) (fun s H C c f => (ht s H C c f).1) (fun s H C c f => (he s H C c f).pe rfl) hs,
   lf_set (lf_lc hi.lf (hg X.s_0 X.H_0 0 [] []).lf (ht X.s_0 X.H_0 0 [] []).2 (he X.s_0 X.H_0 0 [] []).lf sub)⟩
/-- a, b = e1, e2 -/
theorem sPar (i j : Nat) {x y : Str} {px pt : Pos} {kt k2 pt2} (hc : X.calm = true) (hN : X.N.Nodup) (h1 : LE M X a ta wa) (h2 : LE M X b tb wb) (hi : X.N[i]? = some x := by rfl) (hj : X.N[j]? = some y := by rfl) (hij : i ≠ j := by decide)
    (hx : X.env.scope.names.lookup x = some .local := by rfl) (hy : X.env.scope.names.lookup y = some .local := by rfl) (ha : starEach [a, b] X.env = (false, eval a X.env) :: starEach [b] X.env := by rfl) (hb : starEach [b] X.env = (false, eval b X.env) :: starEach [] X.env := by rfl)
    (hw : swappedStores [.Tuple [.Name x px, .Name y py] kt pt] (.Tuple [a, b] k2 pt2) X.env = pure (some [x, y]) := by rfl)
    (hs : swapsWithSole [.Tuple [.Name x px, .Name y py] kt pt] (.Tuple [a, b] k2 pt2) pos.line X.env = pure false := by rfl) :
    LS M X (.Assign [.Tuple [.Name x px, .Name y py] kt pt] (.Tuple [a, b] k2 pt2) pos) (tPar i j (tCons ta (tCons tb tNil))) (wPar i j wa wb) :=
  ls_par h1 h2 (fun hK => ps_par hc hN hi hj hij hx hy (pa_cons (h1.pe hK) (pa_cons (h2.pe hK) pa_nil hb) ha) hw hs)
/-- target = e -/
theorem sAsg {g : TG} {wg : WG} {is : List Nat} (h : LE M X e te we) (hg : LG M X tg g wg is) (hs : swapsWithSole [tg] e pos.line X.env = pure false := by rfl) (hw : swappedStores [tg] e X.env = pure none := by rfl)
    (h1 : (assignEach [tg] X.env).map (·.2) = [assign tg X.env] := by rfl) : LS M X (.Assign [tg] e pos) (tAsg te g) (wAsg we wg) := ls_asg h hg (fun hK => ps_asg (h.pe hK) (hg.pg hK) hs hw h1)
theorem gT {es : List Expr} {k : Nat} {t : TGs} {n : Nat} {ws : WGs} {is : List Nat} (hc : X.calm = true) (h : LGs M X es t ws is) (hn : (assignEach es X.env).length = n := by rfl) (hst : (assignEach es X.env).findIdx? (·.1) = none := by rfl) : LG M X (.Tuple es k pos) (gTup M.K n t) (gNt n ws) is :=
  lg_tup hc h (fun hK => by cases M; cases hK; exact pg_tup hc (h.pg rfl) hn hst)
theorem gNm (i : Nat) {x : Str} (hN : X.N.Nodup) (hi : X.N[i]? = some x := by rfl) (hx : Loc X.env.scope x := by first | exact Or.inl rfl | exact Or.inr rfl) (hf : X.fn x = true ∨ X.env.scope.names.lookup x = some .local := by first | exact .inl rfl | exact .inr rfl) : LG M X (.Name x pos) (gName i) (gN i) [i] := lg_name hN hi hx hf
/-- x[k] = e, x an own list -/
theorem sSub (i : Nat) {x : Str} {px : Pos} (h : LE M X e te we) (hk : LR M X b tb rb) (hN : X.N[i]? = some x := by rfl) (hv : Vis X.env.scope x := by first | exact Or.inl rfl | exact Or.inr (Or.inl rfl) | exact Or.inr (Or.inr rfl)) (hd : (x == ("__debug__" : Str)) = false := by decide)
    (hcd : (x == ("__classdict__" : Str)) = false := by decide) (ha : ∀ v, assign (.Subscript (.Name x px) b pos') X.env v = (do
      let ov ← holding [v] (eval (.Name x px) X.env)
      let iv ← holding [v, ov] (eval b X.env)
      standAt pos'
      holding [v, ov, iv] (setItem ov iv v)
      release [v, ov, iv] []) := by intro _; rfl) (hs : swapsWithSole [.Subscript (.Name x px) b pos'] e pos.line X.env = pure false := by rfl) (hw : swappedStores [.Subscript (.Name x px) b pos'] e X.env = pure none := by rfl)
    (h1 : (assignEach [.Subscript (.Name x px) b pos'] X.env).map (·.2) = [assign (.Subscript (.Name x px) b pos') X.env] := by rfl) :
    LS M X (.Assign [.Subscript (.Name x px) b pos'] e pos) (tAsg te (gSub (tVar i) tb rSetL)) (wSub i rb we) := ⟨fun hK => by cases M; cases hK; exact ps_asg (h.pe rfl) (pg_sub (pe_var hN hv hd hcd) (hk.pe rfl) set_list ha) hs hw h1, lf_sub h.lf hk.lf⟩
/-- x[e], read, x a nest -/
theorem rXN (i : Nat) {x : Str} {px : Pos} (hk : LR M X b tb rb) (hs : PlainIx b) (hN : X.N[i]? = some x := by rfl) (hv : Vis X.env.scope x := by first | exact Or.inl rfl | exact Or.inr (Or.inl rfl) | exact Or.inr (Or.inr rfl)) (hd : (x == ("__debug__" : Str)) = false := by decide)
    (hcd : (x == ("__classdict__" : Str)) = false := by decide) : LR M X (.Subscript (.Name x px) b pos) (tOp (rIx M.K) (tVar i) tb) (wRxN i rb) :=
  ⟨fun hK => by cases M; cases hK; exact pe_ix ix_seq (pe_var hN hv hd hcd) (hk.pe rfl) hs, lf_rxN hk.lf⟩
/-- y = x[e], x a nest -/
theorem sAliN (i j : Nat) {x y : Str} {px : Pos} (hNd : X.N.Nodup) (hk : LR M X b tb rb) (hs : PlainIx b) (hij : i ≠ j := by decide) (hN : X.N[i]? = some x := by rfl) (hv : Vis X.env.scope x := by first | exact Or.inl rfl | exact Or.inr (Or.inl rfl) | exact Or.inr (Or.inr rfl)) (hd : (x == ("__debug__" : Str)) = false := by decide)
    (hcd : (x == ("__classdict__" : Str)) = false := by decide) (hi : X.N[j]? = some y := by rfl) (hx : Loc X.env.scope y := by first | exact Or.inl rfl | exact Or.inr rfl)
    (hsw : swapsWith (.Subscript (.Name x px) b pos') (some (.Name y py)) pos.line X.env = pure false := by rfl) (hf : X.fn y = true ∨ X.env.scope.names.lookup y = some .local := by first | exact .inl rfl | exact .inr rfl) :
    LS M X (.Assign [.Name y py] (.Subscript (.Name x px) b pos') pos) (tAsg (tOp (rIx M.K) (tVar i) tb) (gName j)) (wAliN i j rb) :=
  ⟨fun hK => by cases M; cases hK; exact ps_set hNd hi hx (pe_ix ix_seq (pe_var hN hv hd hcd) (hk.pe rfl) hs) hsw hf, lf_aliN hij hk.lf⟩
/-- x.append(y), x a nest, y an own list -/
theorem sAppNm (i j : Nat) {x y : Str} {px apos cpos : Pos} (hij : i ≠ j := by decide) (hy : X.N[j]? = some y := by rfl) (hyv : Vis X.env.scope y := by first | exact Or.inl rfl | exact Or.inr (Or.inl rfl) | exact Or.inr (Or.inr rfl)) (hyd : (y == ("__debug__" : Str)) = false := by decide)
    (hycd : (y == ("__classdict__" : Str)) = false := by decide) (hN : X.N[i]? = some x := by rfl) (hv : Vis X.env.scope x := by first | exact Or.inl rfl | exact Or.inr (Or.inl rfl) | exact Or.inr (Or.inr rfl)) (hd : (x == ("__debug__" : Str)) = false := by decide)
    (hcd : (x == ("__classdict__" : Str)) = false := by decide) (hbase : attributeBase (.Name x px) "append" X.env (eval (.Name x px) X.env) = eval (.Name x px) X.env := by rfl)
    (hfew : ((backTo cpos (starEach [.Name y py] X.env)).all (fun x => !x.1) && (backToKw cpos (keywordEach [] X.env)).all (fun x => x.1.isSome)
      && decide ([Expr.Name y py].length + ([] : List Keyword).length + (if ([] : List Keyword).isEmpty then 0 else 1) < 30)) = true := by rfl)
    (hline : (apos.endLine == cpos.line) = true := by rfl) (hs : starEach [.Name y py] X.env = (false, eval (.Name y py) X.env) :: starEach [] X.env := by rfl) (hplain : (backTo cpos (starEach [] X.env)).any (·.1) = false := by rfl)
    (hsw : swapsWith (.Call (.Attribute (.Name x px) "append" apos) [.Name y py] [] cpos) none pos.line X.env = pure false := by rfl) :
    LS M X (.Expr (.Call (.Attribute (.Name x px) "append" apos) [.Name y py] [] cpos) pos) (tDrop (tBM M.K "list" rAppend (tVar i) (tCons (tVar j) tNil))) (wAppNm i j) :=
  ⟨fun hK => by cases M; cases hK; exact ps_expr (pe_bm PySem.F.plainAttrs_list PySem.F.slot_list_append PySem.F.type_list_append mt_append (pe_var hN hv hd hcd) (pa_cons (pe_var hy hyv hyd hycd) pa_nil hs) hbase hfew hline hs hplain) hsw, lf_appNm hij⟩
/-- x[i][j] = e, x a nest -/
theorem sSubNN (i : Nat) {x : Str} {px p2 : Pos} (h : LE M X e te we) (hk : LR M X a ta ra) (hs1 : PlainIx a) (hb : LR M X b tb rb) (hN : X.N[i]? = some x := by rfl) (hv : Vis X.env.scope x := by first | exact Or.inl rfl | exact Or.inr (Or.inl rfl) | exact Or.inr (Or.inr rfl)) (hd : (x == ("__debug__" : Str)) = false := by decide)
    (hcd : (x == ("__classdict__" : Str)) = false := by decide) (ha : ∀ v, assign (.Subscript (.Subscript (.Name x px) a p2) b pos') X.env v = (do
      let ov ← holding [v] (eval (.Subscript (.Name x px) a p2) X.env)
      let iv ← holding [v, ov] (eval b X.env)
      standAt pos'
      holding [v, ov, iv] (setItem ov iv v)
      release [v, ov, iv] []) := by intro _; rfl) (hs : swapsWithSole [.Subscript (.Subscript (.Name x px) a p2) b pos'] e pos.line X.env = pure false := by rfl) (hw : swappedStores [.Subscript (.Subscript (.Name x px) a p2) b pos'] e X.env = pure none := by rfl)
    (h1 : (assignEach [.Subscript (.Subscript (.Name x px) a p2) b pos'] X.env).map (·.2) = [assign (.Subscript (.Subscript (.Name x px) a p2) b pos') X.env] := by rfl) :
    LS M X (.Assign [.Subscript (.Subscript (.Name x px) a p2) b pos'] e pos) (tAsg te (gSub (tOp (rIx M.K) (tVar i) ta) tb rSetL)) (wSubNN i ra rb we) := ⟨fun hK => by cases M; cases hK; exact ps_asg (h.pe rfl) (pg_sub (pe_ix ix_seq (pe_var hN hv hd hcd) (hk.pe rfl) hs1) (hb.pe rfl) set_list ha) hs hw h1, lf_subNN h.lf hk.lf hb.lf⟩
/-- x.append(e) -/
theorem sApp (i : Nat) {x : Str} {px apos cpos : Pos} (h : LE M X e te we) (hN : X.N[i]? = some x := by rfl) (hv : Vis X.env.scope x := by first | exact Or.inl rfl | exact Or.inr (Or.inl rfl) | exact Or.inr (Or.inr rfl)) (hd : (x == ("__debug__" : Str)) = false := by decide)
    (hcd : (x == ("__classdict__" : Str)) = false := by decide) (hbase : attributeBase (.Name x px) "append" X.env (eval (.Name x px) X.env) = eval (.Name x px) X.env := by rfl)
    (hfew : ((backTo cpos (starEach [e] X.env)).all (fun x => !x.1) && (backToKw cpos (keywordEach [] X.env)).all (fun x => x.1.isSome)
      && decide ([e].length + ([] : List Keyword).length + (if ([] : List Keyword).isEmpty then 0 else 1) < 30)) = true := by rfl)
    (hline : (apos.endLine == cpos.line) = true := by rfl) (hs : starEach [e] X.env = (false, eval e X.env) :: starEach [] X.env := by rfl) (hplain : (backTo cpos (starEach [] X.env)).any (·.1) = false := by rfl)
    (hsw : swapsWith (.Call (.Attribute (.Name x px) "append" apos) [e] [] cpos) none pos.line X.env = pure false := by rfl) :
    LS M X (.Expr (.Call (.Attribute (.Name x px) "append" apos) [e] [] cpos) pos) (tDrop (tBM M.K "list" rAppend (tVar i) (tCons te tNil))) (wApp i we) :=
  ⟨fun hK => by cases M; cases hK; exact ps_expr (pe_bm PySem.F.plainAttrs_list PySem.F.slot_list_append PySem.F.type_list_append mt_append (pe_var hN hv hd hcd) (pa_cons (h.pe rfl) pa_nil hs) hbase hfew hline hs hplain) hsw, lf_app h.lf⟩
/-- x.extend(e) -/
theorem sExt (i : Nat) {x : Str} {px apos cpos : Pos} (h : LR M X e te ra) (hN : X.N[i]? = some x := by rfl) (hv : Vis X.env.scope x := by first | exact Or.inl rfl | exact Or.inr (Or.inl rfl) | exact Or.inr (Or.inr rfl)) (hd : (x == ("__debug__" : Str)) = false := by decide)
    (hcd : (x == ("__classdict__" : Str)) = false := by decide) (hbase : attributeBase (.Name x px) "extend" X.env (eval (.Name x px) X.env) = eval (.Name x px) X.env := by rfl)
    (hfew : ((backTo cpos (starEach [e] X.env)).all (fun x => !x.1) && (backToKw cpos (keywordEach [] X.env)).all (fun x => x.1.isSome)
      && decide ([e].length + ([] : List Keyword).length + (if ([] : List Keyword).isEmpty then 0 else 1) < 30)) = true := by rfl)
    (hline : (apos.endLine == cpos.line) = true := by rfl) (hs : starEach [e] X.env = (false, eval e X.env) :: starEach [] X.env := by rfl) (hplain : (backTo cpos (starEach [] X.env)).any (·.1) = false := by rfl)
    (hsw : swapsWith (.Call (.Attribute (.Name x px) "extend" apos) [e] [] cpos) none pos.line X.env = pure false := by rfl) :
    LS M X (.Expr (.Call (.Attribute (.Name x px) "extend" apos) [e] [] cpos) pos) (tDrop (tBM M.K "list" rExtend (tVar i) (tCons te tNil))) (wExt i ra) :=
  ⟨fun hK => by cases M; cases hK; exact ps_expr (pe_bm PySem.F.plainAttrs_list PySem.F.slot_list_extend PySem.F.type_list_extend mt_extend (pe_var hN hv hd hcd) (pa_cons (h.pe rfl) pa_nil hs) hbase hfew hline hs hplain) hsw, lf_ext h.lf⟩
/-- y = x.pop() -/
theorem sPop (y i : Nat) {x z : Str} {px apos cpos : Pos} (hNd : X.N.Nodup) (hi : X.N[y]? = some z := by rfl) (hx : Loc X.env.scope z := by first | exact Or.inl rfl | exact Or.inr rfl) (hN : X.N[i]? = some x := by rfl) (hv : Vis X.env.scope x := by first | exact Or.inl rfl | exact Or.inr (Or.inl rfl) | exact Or.inr (Or.inr rfl)) (hd : (x == ("__debug__" : Str)) = false := by decide)
    (hcd : (x == ("__classdict__" : Str)) = false := by decide) (hbase : attributeBase (.Name x px) "pop" X.env (eval (.Name x px) X.env) = eval (.Name x px) X.env := by rfl) (hline : (apos.endLine == cpos.line) = true := by rfl)
    (hs : swapsWith (.Call (.Attribute (.Name x px) "pop" apos) [] [] cpos) (some (.Name z pos')) pos.line X.env = pure false := by rfl) (hf : X.fn z = true ∨ X.env.scope.names.lookup z = some .local := by first | exact .inl rfl | exact .inr rfl) :
    LS M X (.Assign [.Name z pos'] (.Call (.Attribute (.Name x px) "pop" apos) [] [] cpos) pos) (tAsg (tBM0 M.K "list" rPop (tVar i)) (gName y)) (wPop y i) :=
  ⟨fun hK => by cases M; cases hK; exact ps_set hNd hi hx (pe_bm0 PySem.F.plainAttrs_list PySem.F.slot_list_pop PySem.F.type_list_pop mt_pop (pe_var hN hv hd hcd) hbase hline) hs hf, lf_pop⟩
/-- y = x.pop(e) -/
theorem sPopAt (y i : Nat) {x z : Str} {px apos cpos : Pos} (hNd : X.N.Nodup) (h : LR M X e te ra) (hi : X.N[y]? = some z := by rfl) (hx : Loc X.env.scope z := by first | exact Or.inl rfl | exact Or.inr rfl) (hN : X.N[i]? = some x := by rfl) (hv : Vis X.env.scope x := by first | exact Or.inl rfl | exact Or.inr (Or.inl rfl) | exact Or.inr (Or.inr rfl)) (hd : (x == ("__debug__" : Str)) = false := by decide)
    (hcd : (x == ("__classdict__" : Str)) = false := by decide) (hbase : attributeBase (.Name x px) "pop" X.env (eval (.Name x px) X.env) = eval (.Name x px) X.env := by rfl)
    (hfew : ((backTo cpos (starEach [e] X.env)).all (fun x => !x.1) && (backToKw cpos (keywordEach [] X.env)).all (fun x => x.1.isSome)
      && decide ([e].length + ([] : List Keyword).length + (if ([] : List Keyword).isEmpty then 0 else 1) < 30)) = true := by rfl)
    (hline : (apos.endLine == cpos.line) = true := by rfl) (hs : starEach [e] X.env = (false, eval e X.env) :: starEach [] X.env := by rfl) (hplain : (backTo cpos (starEach [] X.env)).any (·.1) = false := by rfl)
    (hs2 : swapsWith (.Call (.Attribute (.Name x px) "pop" apos) [e] [] cpos) (some (.Name z pos')) pos.line X.env = pure false := by rfl) (hf : X.fn z = true ∨ X.env.scope.names.lookup z = some .local := by first | exact .inl rfl | exact .inr rfl) :
    LS M X (.Assign [.Name z pos'] (.Call (.Attribute (.Name x px) "pop" apos) [e] [] cpos) pos) (tAsg (tBM M.K "list" rPopAt (tVar i) (tCons te tNil)) (gName y)) (wPopAt y i ra) :=
  ⟨fun hK => by cases M; cases hK; exact ps_set hNd hi hx (pe_bm PySem.F.plainAttrs_list PySem.F.slot_list_pop PySem.F.type_list_pop mt_popAt (pe_var hN hv hd hcd) (pa_cons (h.pe rfl) pa_nil hs) hbase hfew hline hs hplain) hs2 hf, lf_popAt h.lf⟩
/-- return e, return x -/
theorem sRet (h : LE M X e te we) : LS M X (.Return (some e) pos) (tRet te) (wRet we) := ls_ret h (fun hK => ps_ret (h.pe hK))
theorem sRetN (i : Nat) {x : Str} {px : Pos} (hN : X.N[i]? = some x := by rfl) (hv : Vis X.env.scope x := by first | exact Or.inl rfl | exact Or.inr (Or.inl rfl) | exact Or.inr (Or.inr rfl)) (hd : (x == ("__debug__" : Str)) = false := by decide)
    (hcd : (x == ("__classdict__" : Str)) = false := by decide) : LS M X (.Return (some (.Name x px)) pos) (tRet (tVar i)) (wRetN i) := ⟨fun hK => by cases M; cases hK; exact ps_ret (pe_var hN hv hd hcd), lf_retN i⟩
/-- x += e -/
theorem sAugA (i : Nat) {x : Str} (hN : X.N.Nodup) (h : LR M X e te ra) (hi : X.N[i]? = some x := by rfl) (hx : Loc X.env.scope x := by first | exact Or.inl rfl | exact Or.inr rfl) (hf : X.fn x = true ∨ X.env.scope.names.lookup x = some .local := by first | exact .inl rfl | exact .inr rfl) :
    LS M X (.AugAssign (.Name x pos') .Add e pos) (tAug i te (ipI fun i j => i + j)) (wAug i (fun i j => i + j) ra) := ⟨fun hK => by cases M; cases hK; exact ps_aug hN hi hx (h.pe rfl) ip_add hf, lf_aug h.lf⟩
/-- range(a, b, c) -/
theorem kRg3 (hg : Gl X "range") (hm : X.mg "range" = none) (ha : LR M X a ta ra) (hb : LR M X b tb rb) (hc : LR M X c tc rc) (hs : starEach [a, b, c] X.env = (false, eval a X.env) :: starEach [b, c] X.env := by rfl) (hs2 : starEach [b, c] X.env = (false, eval b X.env) :: starEach [c] X.env := by rfl)
    (hs3 : starEach [c] X.env = (false, eval c X.env) :: starEach [] X.env := by rfl) (hpl : (backTo pos (starEach [b, c] X.env)).any (·.1) = false := by rfl) : LWk M X tg (.Call (.Name "range" p) [a, b, c] [] pos) (iRng3 (tCons ta (tCons tb (tCons tc tNil)))) (wWR3 ra rb rc) :=
  lk_range3 hg hm ha hb hc (fun hK => pi_range3 hg hm (pa_cons (ha.pe hK) (pa_cons (hb.pe hK) (pa_cons (hc.pe hK) pa_nil hs3) hs2) hs) hs hpl)
end
end Pl

set_option maxHeartbeats 4000000
namespace Pl
open PySem L2 PySem.Spec PyProof.Rows

/-- for x in e: a list or a tuple, as it comes -/
def iSeq (K : PySem.W.Frag) (tl : TE) : TI := fun σ H R => tl σ H fun x H1 => ∃ a, x = .ref a ∧ (((∃ xs, SqL K H1 a xs) ∧ R (Itl K a) H1) ∨ ((∃ xs, SqT K H1 a xs) ∧ R (Itt K a) H1))
section
variable {M : Gm} {X : Cx} {tg e : Expr} {pos p : Pos} {te : TE} {we : WE} {ra : WR}
theorem pi_seq {l : Expr} {tl : TE} (hl : PE X l tl) : PI X tg l (iSeq X.K tl) := by
  refine ⟨fun pins s σ H R I h => ?_⟩
  refine thn (hl.run pins s σ H _ I h) fun v s1 ⟨x, H1, I1, r1, q1⟩ => ?_
  obtain ⟨a, e, q⟩ := q1
  subst e
  cases r1
  rcases q with ⟨⟨xs, hq⟩, q⟩ | ⟨⟨xs, hq⟩, q⟩
  · obtain ⟨its, rv, p, hz⟩ := I1.list hq
    refine wpAny_pyIter_list p.isList ?_
    refine ⟨s1.heap.objs.size, [s1.heap.objs.size], _, _, H1, rfl, I1.kept (t' := s1.toks) fun b o e => Heap.get?_push_of_some _ e, turn_list a _, ⟨_, Heap.get?_push_size _ rfl, rfl, rfl⟩, fun b hb => ?_, q⟩
    have e : b = s1.heap.objs.size := by simpa using hb
    subst e
    exact I1.fpOk (Nat.le_refl _) (I1.hok.fresh (Nat.le_refl _))
  · obtain ⟨its, rv, p, hz⟩ := I1.tuple hq
    refine wpAny_pyIter_tuple (show s1.heap.IsTuple a its.toArray from p) ?_
    refine ⟨s1.heap.objs.size, [s1.heap.objs.size], _, _, H1, rfl, I1.kept (t' := s1.toks) fun b o e => Heap.get?_push_of_some _ e, turn_tuple a _, ⟨_, Heap.get?_push_size _ rfl, rfl, rfl⟩, fun b hb => ?_, q⟩
    have e : b = s1.heap.objs.size := by simpa using hb
    subst e
    exact I1.fpOk (Nat.le_refl _) (I1.hok.fresh (Nat.le_refl _))
def seqQ : D → (List D → Prop) → Prop
  | .lst xs, Q => Q xs
  | .tup xs, Q => Q xs
  | .scr ns, Q => Q (ns.map D.int)
  | _, _ => False
def wWQ (we : WE) : WW := fun τ Q => we τ fun r => seqQ r.d Q
theorem kE (h : LE M X e te we) : LWk M X tg e (iSeq M.K te) (wWQ we) := ⟨fun hK => by cases M; cases hK; exact pi_seq (h.pe rfl), fun B G0 G H τ σ Q R s hw k => h.lf.frz (Q := fun d => seqQ d Q) s hw fun d v G1 H1 q1 x1 r1 => by
  unfold seqQ at q1
  split at q1
  · obtain ⟨a, vs, rfl, h1, h2⟩ := rep_lst r1
    exact ⟨a, rfl, .inl ⟨⟨vs, SqL.of (x1.gh _ _ h1)⟩, k _ _ G1 H1 q1 x1 (yld_L (fun G' H' g b gh => SqL.of (gh _ _ (g _ _ h1))) h2)⟩⟩
  · obtain ⟨a, vs, rfl, h1, h2⟩ := rep_tup r1
    exact ⟨a, rfl, .inr ⟨⟨vs, same_T x1.gh h1⟩, k _ _ G1 H1 q1 x1 (yld_T (fun G' H' g b gh => same_T gh (same_T g h1)) h2)⟩⟩
  · obtain ⟨a, rfl, h1⟩ := rep_scr r1
    exact ⟨a, rfl, .inl ⟨⟨_, same_L x1.gh h1⟩, k _ _ G1 H1 q1 x1 (yld_L (fun G' H' g b gh => same_L gh (same_L g h1)) (Reps.ints _))⟩⟩
  · exact q1.elim⟩
/-- .. a name's, lent or frozen -/
def wWQB (i : Nat) : WW := fun τ Q => match τ[i]? with
  | some (some (.bor (.lst xs))) => Q xs
  | some (some (.frz d)) => seqQ d Q
  | _ => False
theorem lk_seqN (i : Nat) (h : PE X e (tVar i)) : LWk M X tg e (iSeq M.K (tVar i)) (wWQB i) := ⟨fun hK => by cases M; cases hK; exact pi_seq h, fun B G0 G H τ σ Q R s hw k => by
  unfold wWQB at hw
  split at hw
  · rename_i xs e
    obtain ⟨v, h1, h2⟩ := s.ok i _ e
    obtain ⟨a, vs, rfl, h3, h4⟩ := (show Rdb _ G B (.lst xs) v from h2)
    exact ⟨_, h1, a, rfl, .inl ⟨⟨vs, SqL.of (s.bh _ _ h3)⟩, k _ _ G H hw (Ext.refl s.gh) (yld_L (fun G' H' g b gh => SqL.of (b _ _ h3)) h4)⟩⟩
  · rename_i d e
    obtain ⟨v, h1, h2⟩ := s.ok i _ e
    have r1 : Rep _ G d v := h2
    unfold seqQ at hw
    split at hw
    · obtain ⟨a, vs, rfl, h3, h4⟩ := rep_lst r1
      exact ⟨_, h1, a, rfl, .inl ⟨⟨vs, SqL.of (s.gh _ _ h3)⟩, k _ _ G H hw (Ext.refl s.gh) (yld_L (fun G' H' g b gh => SqL.of (gh _ _ (g _ _ h3))) h4)⟩⟩
    · obtain ⟨a, vs, rfl, h3, h4⟩ := rep_tup r1
      exact ⟨_, h1, a, rfl, .inr ⟨⟨vs, same_T s.gh h3⟩, k _ _ G H hw (Ext.refl s.gh) (yld_T (fun G' H' g b gh => same_T gh (same_T g h3)) h4)⟩⟩
    · obtain ⟨a, rfl, h3⟩ := rep_scr r1
      exact ⟨_, h1, a, rfl, .inl ⟨⟨_, same_L s.gh h3⟩, k _ _ G H hw (Ext.refl s.gh) (yld_L (fun G' H' g b gh => same_L gh (same_L g h3)) (Reps.ints _))⟩⟩
    · exact hw.elim
  · exact hw.elim⟩
theorem kN (i : Nat) {x : Str} (hN : X.N[i]? = some x := by rfl) (hv : Vis X.env.scope x := by first | exact Or.inl rfl | exact Or.inr (Or.inl rfl) | exact Or.inr (Or.inr rfl)) (hd : (x == ("__debug__" : Str)) = false := by decide)
    (hcd : (x == ("__classdict__" : Str)) = false := by decide) : LWk M X tg (.Name x pos) (iSeq M.K (tVar i)) (wWQB i) := lk_seqN i (pe_var hN hv hd hcd)
end

/-- the built-ins by their names -/
structure BF (mg : Str → Option Value) : Prop where
  len : mg "len" = none
  int : mg "int" = none
  bool : mg "bool" = none
  str : mg "str" = none
  list : mg "list" = none
  tuple : mg "tuple" = none
  range : mg "range" = none
  zip : mg "zip" = none
  reversed : mg "reversed" = none
  isinstance : mg "isinstance" = none
  abs : mg "abs" = none
  max : mg "max" = none
  min : mg "min" = none
  sum : mg "sum" = none
  any : mg "any" = none
  all : mg "all" = none
  sorted : mg "sorted" = none
  repr : mg "repr" = none
theorem bt_len : bootBuiltins "len" = some (.builtin "len") := by decide +kernel
theorem bt_int : bootBuiltins "int" = some (.type "int") := by decide +kernel
theorem bt_bool : bootBuiltins "bool" = some (.type "bool") := by decide +kernel
theorem bt_str : bootBuiltins "str" = some (.type "str") := by decide +kernel
theorem bt_list : bootBuiltins "list" = some (.type "list") := by decide +kernel
theorem bt_tuple : bootBuiltins "tuple" = some (.type "tuple") := by decide +kernel
theorem bt_isinstance : bootBuiltins "isinstance" = some (.builtin "isinstance") := by decide +kernel
theorem bt_abs : bootBuiltins "abs" = some (.builtin "abs") := by decide +kernel
theorem bt_max : bootBuiltins "max" = some (.builtin "max") := by decide +kernel
theorem bt_min : bootBuiltins "min" = some (.builtin "min") := by decide +kernel
theorem bt_sum : bootBuiltins "sum" = some (.builtin "sum") := by decide +kernel
theorem bt_any : bootBuiltins "any" = some (.builtin "any") := by decide +kernel
theorem bt_all : bootBuiltins "all" = some (.builtin "all") := by decide +kernel
theorem bt_sorted : bootBuiltins "sorted" = some (.builtin "sorted") := by decide +kernel
theorem bt_repr : bootBuiltins "repr" = some (.builtin "repr") := by decide +kernel
/-- a def of the top as it stands -/
structure Fd (K : PySem.W.Frag) (mg : Str → Option Value) (x : Str) (st : Stmt) : Prop where
  ex : ∃ f fd, FunD K x x (defArgs st) (defBody st) (defScope st) [] [] f fd ∧ mg x = some (.ref f)
theorem Fd.ok {P : Program} {w : World} {K : PySem.W.Frag} {mg : Str → Option Value} {base : Heap} {cl : Nat → Addr} {x : Str} {st : Stmt} {N ps : List Str} {k : Nat} {Pp : PSp} {w' : WS}
    (F : Fd K mg x st) (S : FnScope N ps (defScope st)) (nl : Nat) (hN : N.length = nl)
    (hb : ∀ (kV doc pm : Value) (an : Option Addr) (cdv ct : Value) (us : List Value), us.length = ps.length → bindArgs (PySem.W.fnOf x x (defArgs st) (defBody st) (defScope st) .none kV doc pm an cdv ct) ⟨us, []⟩ = pure (ps.zip us))
    (len : ∀ ss R, Pp ss R → ss.length = ps.length)
    (hbody : ∀ (cdv : Value) (A : Around) (outer : List Env) (s : Shared) (H : Hp) (E : XK) (f : Addr), Room k (A.deeper (envOfC x (defScope st) s.heap.objs.size f cdv)) → ∃ t, LSs ⟨K, cl⟩ (cxOf CX0 P w K mg base N x (defScope st) f cdv A outer s H E).nox (defBody st) t w')
    (hw : ∀ ss R, Pp ss R → w' { nx := fun _ => R (.fr .non), rt := fun r _ => R r } (startS nl ss)) : Def P w K mg base (k + 1) x ps (spD ⟨K, cl⟩ Pp) := by
  obtain ⟨f, fd, F, hm⟩ := F.ex
  exact def_ok F hm S nl hN hb len (fun cdv A outer s H E hr => hbody cdv A outer s H E f hr) hw
/-- the law itself: what its def keeps, for the end -/
theorem FunD.okL {P : Program} {w : World} {K : PySem.W.Frag} {mg : Str → Option Value} {base : Heap} {cl : Nat → Addr} {x : Str} {st : Stmt} {N ps : List Str} {k : Nat} {Pp : PSp} {w' : WS} {f : Addr} {fd : FuncData}
    (F : FunD K x x (defArgs st) (defBody st) (defScope st) [] [] f fd) (S : FnScope N ps (defScope st)) (nl : Nat) (hN : N.length = nl)
    (len : ∀ ss R, Pp ss R → ss.length = ps.length)
    (hbody : ∀ (cdv : Value) (A : Around) (outer : List Env) (s : Shared) (H : Hp) (E : XK) (f : Addr), Room k (A.deeper (envOfC x (defScope st) s.heap.objs.size f cdv)) → ∃ t, LSs ⟨K, cl⟩ (cxOf CX0 P w K mg base N x (defScope st) f cdv A outer s H E).nox (defBody st) t w')
    (hw : ∀ ss R, Pp ss R → w' { nx := fun _ => R (.fr .non), rt := fun r _ => R r } (startS nl ss)) : FnOk P w K mg base CX0 (k + 1) f fd ps (spD ⟨K, cl⟩ Pp) := by
  refine F.ok S (fun vs H Q E h => ?_) (fun cdv A outer s H vs Q E hr h => ?_)
  · obtain ⟨G, ss, R, h1, h2, h3, h4⟩ := h
    rw [← h2.len]; exact len ss R h3
  · obtain ⟨t, l⟩ := hbody cdv A outer s H E f hr
    refine ⟨t, (l.ps rfl).nox, ?_⟩
    obtain ⟨G, ss, R, h1, h2, h3, h4⟩ := h
    refine l.lf H G G H (startS nl ss) (L2.start N vs) { nx := fun _ => R (.fr .non), rt := fun r _ => R r } _ (stt_start hN h1 h2) ⟨fun G' H' τ σ s q => h4 (.fr .non) _ G' H' q ⟨s.g0, s.bh, s.gh, s.new⟩ (rep_non (M := ⟨K, cl⟩) (G := G')), fun G' H' τ σ r v fr ok _ q => h4 r v G' H' q ⟨fr.g0, fr.bh, fr.gh, fr.new⟩ ok, fun _ _ _ _ _ q => q.elim, fun _ _ _ _ _ q => q.elim⟩ (hw ss R h3)
end Pl

set_option maxHeartbeats 400000
/-! Readings: loops, comprehensions, bounds. -/
namespace Pl
open PySem L2
section
variable {g : WG} {w : WS} {E : PEnds} {τ : Sls}
theorem forL_from (P : Nat → Sls → Prop) (all : List D) (step : ∀ i x τ (K : Sls → Prop), all[i]? = some x → P i τ → (∀ τ', P (i + 1) τ' → K τ') → g x τ fun τ' => w { E with nx := K, ct := K, bk := E.nx } τ')
    (hd : ∀ τ, P all.length τ → E.nx τ) : ∀ (xs : List D) (i : Nat) (τ : Sls), all.drop i = xs → i ≤ all.length → P i τ → wForL g w E xs τ
  | [], i, τ, e, hi, p => by
    have : i = all.length := by
      have := congrArg List.length e
      simp at this; omega
    subst this
    exact hd τ p
  | x :: xs, i, τ, e, hi, p => by
    have hlt : i < all.length := by
      have := congrArg List.length e
      simp at this; omega
    have hx : all[i]? = some x := by
      have := List.drop_eq_getElem_cons hlt
      rw [e] at this
      rw [List.getElem?_eq_getElem hlt]
      exact congrArg some (List.cons.inj this).1.symm
    have hr : all.drop (i + 1) = xs := by
      have := List.drop_eq_getElem_cons hlt
      rw [e] at this
      exact (List.cons.inj this).2.symm
    exact step i x τ (wForL g w E xs) hx p fun τ' p' => forL_from P all step hd xs (i + 1) τ' hr hlt p'
/-- a loop by what holds ahead of each turn -/
theorem forL_inv {xs : List D} (P : Nat → Sls → Prop) (h0 : P 0 τ) (step : ∀ i x τ (K : Sls → Prop), xs[i]? = some x → P i τ → (∀ τ', P (i + 1) τ' → K τ') → g x τ fun τ' => w { E with nx := K, ct := K, bk := E.nx } τ')
    (hd : ∀ τ, P xs.length τ → E.nx τ) : wForL g w E xs τ := forL_from P xs step hd xs 0 τ rfl (Nat.zero_le _) h0
/-- .. over mapped things -/
theorem forM_inv {α : Type} {L : List α} {emb : α → D} (P : Nat → Sls → Prop) (h0 : P 0 τ) (step : ∀ i a τ (K : Sls → Prop), L[i]? = some a → P i τ → (∀ τ', P (i + 1) τ' → K τ') → g (emb a) τ fun τ' => w { E with nx := K, ct := K, bk := E.nx } τ')
    (hd : ∀ τ, P L.length τ → E.nx τ) : wForL g w E (L.map emb) τ := forL_inv P h0 (fun i x τ K hx p k => by
      rw [List.getElem?_map] at hx
      cases e : L[i]? with
      | none => rw [e] at hx; cases hx
      | some a => rw [e] at hx; cases hx; exact step i a τ K e p k) (fun τ p => hd τ (by rwa [List.length_map] at p))
/-- .. over a range -/
theorem forR_inv {lo hi : Int} (P : Nat → Sls → Prop) (h0 : P 0 τ) (step : ∀ (i : Nat) τ (K : Sls → Prop), lo + (i : Int) < hi → P i τ → (∀ τ', P (i + 1) τ' → K τ') → g (.int (lo + (i : Int))) τ fun τ' => w { E with nx := K, ct := K, bk := E.nx } τ')
    (hd : ∀ τ, P (hi - lo).toNat τ → E.nx τ) : wForL g w E (rgD lo hi) τ := forM_inv P h0 (fun i a τ K hx p k => by
      obtain ⟨h1, h2⟩ := List.getElem?_eq_some_iff.mp hx
      simp at h1 h2
      subst h2
      exact step i τ K (by omega) p k) (fun τ p => hd τ (by rwa [List.length_range] at p))
theorem forR0_inv {n : Nat} (P : Nat → Sls → Prop) (h0 : P 0 τ) (step : ∀ (i : Nat) τ (K : Sls → Prop), i < n → P i τ → (∀ τ', P (i + 1) τ' → K τ') → g (.int (i : Int)) τ fun τ' => w { E with nx := K, ct := K, bk := E.nx } τ')
    (hd : ∀ τ, P n τ → E.nx τ) : wForL g w E (rgD 0 (n : Int)) τ := forR_inv P h0 (fun i τ K hi p k => by rw [Int.zero_add]; exact step i τ K (by omega) p k) (fun τ p => hd τ (by
      have e : ((n : Int) - 0).toNat = n := by omega
      rwa [e] at p))
end
/-- a comprehension, thing by thing -/
theorem comp_from {α : Type} {emb : α → D} {step : D → (Option D → Prop) → Prop} {f : α → Option D} {Q : List D → Prop} : ∀ (L : List α) (acc : List D), (∀ a ∈ L, ∀ K : Option D → Prop, K (f a) → step (emb a) K) → acc.length + L.length ≤ 16777216 → Q (acc ++ L.filterMap f) → wComp step (L.map emb) acc Q
  | [], acc, _, hl, hq => ⟨by simpa using hl, by simpa using hq⟩
  | a :: L, acc, hs, hl, hq => ⟨by simp at hl; omega, hs a (by simp) _ (by
      refine comp_from L _ (fun b hb K k => hs b (by simp [hb]) K k) ?_ ?_
      · cases e : f a <;> simp at hl ⊢ <;> omega
      · cases e : f a with
        | none => simpa [List.filterMap_cons, e] using hq
        | some d => simpa [List.filterMap_cons, e] using hq)⟩
theorem comp_fm {α : Type} {L : List α} {emb : α → D} {step : D → (Option D → Prop) → Prop} {Q : List D → Prop} (f : α → Option D) (hs : ∀ a ∈ L, ∀ K : Option D → Prop, K (f a) → step (emb a) K) (hl : L.length ≤ 16777216) (hq : Q (L.filterMap f)) : wComp step (L.map emb) [] Q :=
  comp_from L [] hs (by simpa using hl) (by simpa using hq)
theorem filterMap_some' {α : Type} (f : α → D) : ∀ L : List α, L.filterMap (fun a => some (f a)) = L.map f
  | [] => rfl
  | a :: L => by simp
theorem comp_map {α : Type} {L : List α} {emb : α → D} {step : D → (Option D → Prop) → Prop} {Q : List D → Prop} (f : α → D) (hs : ∀ a ∈ L, ∀ K : Option D → Prop, K (some (f a)) → step (emb a) K) (hl : L.length ≤ 16777216) (hq : Q (L.map f)) : wComp step (L.map emb) [] Q :=
  comp_fm (fun a => some (f a)) hs hl (by rw [filterMap_some']; exact hq)
theorem comp_range {lo hi : Int} {step : D → (Option D → Prop) → Prop} {Q : List D → Prop} (f : Nat → D) (hs : ∀ i : Nat, lo + (i : Int) < hi → ∀ K : Option D → Prop, K (some (f i)) → step (.int (lo + (i : Int))) K) (hl : (hi - lo).toNat ≤ 16777216) (hq : Q ((List.range (hi - lo).toNat).map f)) : wComp step (rgD lo hi) [] Q :=
  comp_map f (fun i hi' K k => hs i (by simp at hi'; omega) K k) (by simpa using hl) hq
theorem comp_range0 {n : Nat} {step : D → (Option D → Prop) → Prop} {Q : List D → Prop} (f : Nat → D) (hs : ∀ i : Nat, i < n → ∀ K : Option D → Prop, K (some (f i)) → step (.int (i : Int)) K) (hl : n ≤ 16777216) (hq : Q ((List.range n).map f)) : wComp step (rgD 0 (n : Int)) [] Q :=
  comp_range f (fun i hi K k => by rw [Int.zero_add]; exact hs i (by omega) K k) (by omega) (by
    have e : ((n : Int) - 0).toNat = n := by omega
    rwa [e])
theorem comp_rangeF {n : Nat} {step : D → (Option D → Prop) → Prop} {Q : List D → Prop} (f : Nat → Option D) (hs : ∀ i : Nat, i < n → ∀ K : Option D → Prop, K (f i) → step (.int (i : Int)) K) (hl : n ≤ 16777216) (hq : Q ((List.range n).filterMap f)) : wComp step (rgD 0 (n : Int)) [] Q := by
  unfold rgD
  have e : ((n : Int) - 0).toNat = n := by omega
  rw [e]
  exact comp_fm f (fun i hi' K k => by rw [Int.zero_add]; exact hs i (by simpa using hi') K k) (by simpa using hl) hq
/-! ### places -/
theorem atI_at {α : Type} {xs : List α} {j : Nat} (h : j < xs.length) : atI xs (j : Int) = some xs[j] := atI_nat (List.getElem?_eq_getElem h)
theorem atI_int {α : Type} {xs : List α} {i : Int} (h0 : 0 ≤ i) (h : i < xs.length) : atI xs i = some (xs[i.toNat]'(by omega)) := by
  obtain ⟨k, rfl⟩ : ∃ k : Nat, i = (k : Int) := ⟨i.toNat, by omega⟩
  exact atI_at (by omega)
theorem atI_ints {ns : List Int} {i : Int} {n : Int} (h : atI ns i = some n) : atI (ns.map D.int) i = some (.int n) := atI_map h
theorem ixN_nat' {n j : Nat} (h : j < n) : ixN n (j : Int) = some j := by
  unfold ixN
  rw [if_pos (by omega), if_pos (by omega)]
  simp
/-! ### sizes -/
theorem mul64 {i j : Int} (h1 : -18446744073709551616 < i) (h2 : i < 18446744073709551616) (h3 : -18446744073709551616 < j) (h4 : j < 18446744073709551616) : CMulX i j :=
  mulx_ok (a := 64) (b := 64) (by omega) (by omega) (by decide)
theorem div_ok {i j : Int} (h : 0 < j) (h2 : j < 18446744073709551616) : CDivW i j := wide_div h (b := 64) (by omega) (by decide) (by decide)
end Pl

set_option maxHeartbeats 4000000
/-! Whole numbers in lists of lists: what == says of them. -/
namespace Pl
open PySem L2
/-- data of whole numbers alone, nested -/
def Iv : Nat → D → Prop
  | 0, d => ∃ i, d = .int i
  | n + 1, d => ∃ ds : List D, (d = .lst ds ∨ d = .tup ds) ∧ ∀ e ∈ ds, Iv n e
theorem toPys_map : ∀ ds : List D, toPys ds = ds.map toPy
  | [] => by unfold toPys; rfl
  | d :: ds => by unfold toPys; rw [toPys_map ds]; rfl
theorem Iv.isPys {n : Nat} (h : ∀ d, Iv n d → isPy d = true) : ∀ ds : List D, (∀ e ∈ ds, Iv n e) → isPys ds = true
  | [], _ => by unfold Pl.isPys; rfl
  | d :: ds, k => by unfold Pl.isPys; rw [h d (k d (by simp)), Iv.isPys h ds fun e he => k e (by simp [he])]; rfl
theorem Iv.isPy : ∀ (n : Nat) (d : D), Iv n d → isPy d = true
  | 0, d, ⟨i, e⟩ => by subst e; unfold Pl.isPy; rfl
  | n + 1, d, ⟨ds, e, h⟩ => by
    have := Iv.isPys (Iv.isPy n) ds h
    rcases e with rfl | rfl <;> (unfold Pl.isPy; exact this)
theorem Iv.lays {n : Nat} (h : ∀ d, Iv n d → (toPy d).canLay0 = true ∧ (toPy d).depth ≤ n) : ∀ ds : List D, (∀ e ∈ ds, Iv n e) → PyData.canLayAll0 (toPys ds) = true ∧ PyData.depthAll (toPys ds) ≤ n
  | [], _ => by unfold toPys; exact ⟨by rw [PyData.canLayAll0], by rw [PyData.depthAll]; omega⟩
  | d :: ds, k => by
    obtain ⟨a1, a2⟩ := h d (k d (by simp))
    obtain ⟨b1, b2⟩ := Iv.lays h ds fun e he => k e (by simp [he])
    unfold toPys
    exact ⟨by rw [PyData.canLayAll0, a1, b1]; rfl, by rw [PyData.depthAll]; omega⟩
theorem Iv.lay : ∀ (n : Nat) (d : D), Iv n d → (toPy d).canLay0 = true ∧ (toPy d).depth ≤ n
  | 0, d, ⟨i, e⟩ => by subst e; unfold toPy; exact ⟨by rw [PyData.canLay0], by rw [PyData.depth]; omega⟩
  | n + 1, d, ⟨ds, e, h⟩ => by
    obtain ⟨a, b⟩ := Iv.lays (Iv.lay n) ds h
    rcases e with rfl | rfl <;> (unfold toPy; exact ⟨by rw [PyData.canLay0]; exact a, by rw [PyData.depth]; omega⟩)
theorem Iv.eqOk {n : Nat} {d : D} (h : Iv n d) (hn : n ≤ 64) : EqOk d := ⟨Iv.isPy n d h, by
  obtain ⟨a, b⟩ := Iv.lay n d h
  show (_ && decide _) = true
  rw [a, decide_eq_true (by omega)]; rfl⟩
theorem Iv.eqvs {n : Nat} (h : ∀ d e, Iv n d → Iv n e → (PyData.eqv (toPy d) (toPy e) = true ↔ d = e)) : ∀ ds es : List D, (∀ e ∈ ds, Iv n e) → (∀ e ∈ es, Iv n e) → (PyData.eqvAll (toPys ds) (toPys es) = true ↔ ds = es)
  | [], [], _, _ => by unfold toPys; rw [PyData.eqvAll]; simp
  | [], e :: es, _, _ => by unfold toPys; rw [PyData.eqvAll]; simp
  | d :: ds, [], _, _ => by unfold toPys; rw [PyData.eqvAll]; simp
  | d :: ds, e :: es, k, l => by
    unfold toPys
    rw [PyData.eqvAll, Bool.and_eq_true, h d e (k d (by simp)) (l e (by simp)), Iv.eqvs h ds es (fun x hx => k x (by simp [hx])) (fun x hx => l x (by simp [hx]))]
    simp
theorem Iv.eqv : ∀ (n : Nat) (d e : D), Iv n d → Iv n e → (PyData.eqv (toPy d) (toPy e) = true ↔ d = e)
  | 0, d, e, ⟨i, h⟩, ⟨j, k⟩ => by subst h k; unfold toPy; rw [PyData.eqv]; simp
  | n + 1, d, e, ⟨ds, h, hd⟩, ⟨es, k, he⟩ => by
    have := Iv.eqvs (Iv.eqv n) ds es hd he
    rcases h with rfl | rfl <;> rcases k with rfl | rfl <;> (unfold toPy; rw [PyData.eqv]; first | (rw [this]; simp) | simp)
/-- == of such data: what it says -/
theorem eqF_lst {n : Nat} {k : Bool} {ds es : List D} {Q : Res → Prop} (hd : ∀ e ∈ ds, Iv n e) (he : ∀ e ∈ es, Iv n e) (hn : n < 64) (h : ∀ b : Bool, (b = true ↔ ds = es) → Q (.fr (.bl (k ^^ b)))) : eqF k (.lst ds) (.lst es) Q :=
  ⟨Iv.eqOk (n := n + 1) ⟨ds, .inl rfl, hd⟩ hn, Iv.eqOk (n := n + 1) ⟨es, .inl rfl, he⟩ hn, h _ (by
    rw [Iv.eqv (n + 1) _ _ ⟨ds, .inl rfl, hd⟩ ⟨es, .inl rfl, he⟩]; simp)⟩
theorem eqF_tup {n : Nat} {k : Bool} {ds es : List D} {Q : Res → Prop} (hd : ∀ e ∈ ds, Iv n e) (he : ∀ e ∈ es, Iv n e) (hn : n < 64) (h : ∀ b : Bool, (b = true ↔ ds = es) → Q (.fr (.bl (k ^^ b)))) : eqF k (.tup ds) (.tup es) Q :=
  ⟨Iv.eqOk (n := n + 1) ⟨ds, .inr rfl, hd⟩ hn, Iv.eqOk (n := n + 1) ⟨es, .inr rfl, he⟩ hn, h _ (by
    rw [Iv.eqv (n + 1) _ _ ⟨ds, .inr rfl, hd⟩ ⟨es, .inr rfl, he⟩]; simp)⟩

/-! ### rows of whole numbers -/
/-- numbers as data -/
abbrev I (xs : List Int) : List D := xs.map D.int
/-- a tuple or a list -/
def sq : Bool → List D → D
  | true, ds => .tup ds
  | false, ds => .lst ds
theorem I_inj {xs ys : List Int} : I xs = I ys ↔ xs = ys := ⟨fun h => by
  have := congrArg (List.map fun d : D => match d with | .int i => i | _ => 0) h
  simpa [I, List.map_map, Function.comp_def] using this, fun h => by rw [h]⟩
theorem I_snoc {xs : List Int} {x : Int} : I (xs ++ [x]) = I xs ++ [D.int x] := by simp [I]
theorem I_iv {xs : List Int} : ∀ e ∈ I xs, Iv 0 e := fun e h => by
  obtain ⟨i, _, rfl⟩ := List.mem_map.mp h
  exact ⟨i, rfl⟩
/-- a table: rows -/
abbrev T (i : Bool) (rows : List (List Int)) : List D := rows.map fun r => sq i (I r)
theorem T_iv {i : Bool} {rows : List (List Int)} : ∀ e ∈ T i rows, Iv 1 e := fun e h => by
  obtain ⟨r, _, rfl⟩ := List.mem_map.mp h
  exact ⟨I r, by cases i <;> simp [sq], I_iv⟩
theorem sq_inj {i : Bool} {xs ys : List D} : sq i xs = sq i ys ↔ xs = ys := by cases i <;> simp [sq]
theorem T_inj {i : Bool} {xs ys : List (List Int)} : T i xs = T i ys ↔ xs = ys := by
  constructor
  · intro h
    induction xs generalizing ys with
    | nil => cases ys with
      | nil => rfl
      | cons y ys => cases h
    | cons x xs ih => cases ys with
      | nil => cases h
      | cons y ys =>
        simp only [T, List.map_cons, List.cons.injEq, sq_inj, I_inj] at h
        rw [h.1, ih h.2]
  · intro h; rw [h]
theorem eq_rows {xs ys : List Int} {k : Bool} {Q : Res → Prop} (h : ∀ b : Bool, (b = true ↔ xs = ys) → Q (.fr (.bl (k ^^ b)))) : eqF k (.lst (I xs)) (.lst (I ys)) Q :=
  eqF_lst I_iv I_iv (by decide) fun b hb => h b (by rw [hb, I_inj])
theorem eq_tabs {xs ys : List (List Int)} {k : Bool} {Q : Res → Prop} (h : ∀ b : Bool, (b = true ↔ xs = ys) → Q (.fr (.bl (k ^^ b)))) : eqF k (.lst (T false xs)) (.lst (T false ys)) Q :=
  eqF_lst T_iv T_iv (by decide) fun b hb => h b (by rw [hb, T_inj])
theorem eqOk_I {t : Bool} {xs : List Int} : EqOk (sq t (I xs)) := Iv.eqOk (n := 1) ⟨I xs, by cases t <;> simp [sq], I_iv⟩ (by decide)
theorem eqOk_T {o i : Bool} {xs : List (List Int)} : EqOk (sq o (T i xs)) := Iv.eqOk (n := 2) ⟨T i xs, by cases o <;> simp [sq], T_iv⟩ (by decide)
theorem eqv_I {t : Bool} {xs ys : List Int} : PyData.eqv (toPy (sq t (I xs))) (toPy (sq t (I ys))) = decide (xs = ys) := by
  rw [Bool.eq_iff_iff, Iv.eqv 1 _ _ ⟨I xs, by cases t <;> simp [sq], I_iv⟩ ⟨I ys, by cases t <;> simp [sq], I_iv⟩, sq_inj, I_inj, decide_eq_true_iff]
theorem eqv_T {o i : Bool} {xs ys : List (List Int)} : PyData.eqv (toPy (sq o (T i xs))) (toPy (sq o (T i ys))) = decide (xs = ys) := by
  rw [Bool.eq_iff_iff, Iv.eqv 2 _ _ ⟨T i xs, by cases o <;> simp [sq], T_iv⟩ ⟨T i ys, by cases o <;> simp [sq], T_iv⟩, sq_inj, T_inj, decide_eq_true_iff]
theorem row_self {xs : List Int} {C : Prop} (z : (true ^^ PyData.eqv (toPy (sq false (I xs))) (toPy (sq false (I xs)))) = true) : C := by
  rw [eqv_I] at z; simp at z
theorem tab_self {xs : List (List Int)} {C : Prop} (z : (true ^^ PyData.eqv (toPy (sq false (T false xs))) (toPy (sq false (T false xs)))) = true) : C := by
  rw [eqv_T] at z; simp at z
/-! ### slices -/
theorem cutD_of {α : Type} {xs : List α} {lo hi : Int} {a b : Nat} (ea : lo = (a : Int)) (eb : hi = (b : Int)) (hab : a ≤ b) (hb : b ≤ xs.length) : cutD xs (some lo) (some hi) = (xs.drop a).take (b - a) := by
  subst ea eb
  unfold cutD
  rw [HT.sIx_nat, HT.sIx_nat, show min a xs.length = a from Nat.min_eq_left (by omega), show min b xs.length = b from Nat.min_eq_left hb]
theorem cutD_to {α : Type} {xs : List α} {hi : Int} {b : Nat} (eb : hi = (b : Int)) (hb : b ≤ xs.length) : cutD xs none (some hi) = xs.take b := by
  subst eb
  unfold cutD
  rw [HT.sIx_none, HT.sIx_nat, Nat.min_eq_left hb]; rfl
theorem cutD_from {α : Type} {xs : List α} {lo : Int} {a : Nat} (ea : lo = (a : Int)) (hb : a ≤ xs.length) : cutD xs (some lo) none = xs.drop a := by
  subst ea
  unfold cutD
  rw [HT.sIx_none, HT.sIx_nat, Nat.min_eq_left hb, List.take_of_length_le (by simp)]
end Pl

set_option maxHeartbeats 1000000
namespace Law
open PySem L2 Pl
local macro_rules | `(tactic| walk_at "s") => `(tactic| (conv => whnf))
/-- digits below their sizes -/
def Dg : List Int → List Int → Prop
  | [], ds => ds = []
  | s :: ss, ds => ∃ d r, ds = d :: r ∧ 0 ≤ d ∧ d < s ∧ Dg ss r
theorem Dg.len : ∀ {ss ds : List Int}, Dg ss ds → ds.length = ss.length
  | [], _, h => by cases h; rfl
  | s :: ss, _, h => by obtain ⟨d, r, rfl, _, _, h⟩ := h; simp [Dg.len h]
theorem Dg.get : ∀ {ss ds : List Int} {i : Nat} {s : Int}, Dg ss ds → ss[i]? = some s → ∃ d, ds[i]? = some d ∧ 0 ≤ d ∧ d < s
  | [], _, _, _, _, e => by simp at e
  | s :: ss, _, 0, _, h, e => by obtain ⟨d, r, rfl, h1, h2, h⟩ := h; simp at e; subst e; exact ⟨d, rfl, h1, h2⟩
  | s :: ss, _, i + 1, _, h, e => by obtain ⟨d, r, rfl, h1, h2, h⟩ := h; simp at e; exact Dg.get (i := i) h e
theorem Dg.snoc : ∀ {ss ds : List Int} {s d : Int}, Dg ss ds → 0 ≤ d → d < s → Dg (ss ++ [s]) (ds ++ [d])
  | [], _, s, d, h, h1, h2 => by cases h; exact ⟨d, [], rfl, h1, h2, rfl⟩
  | t :: ss, _, s, d, h, h1, h2 => by obtain ⟨e, r, rfl, h3, h4, h⟩ := h; exact ⟨e, r ++ [d], rfl, h3, h4, Dg.snoc h h1 h2⟩
theorem Dg.append : ∀ {ss ds ss' ds' : List Int}, Dg ss ds → Dg ss' ds' → Dg (ss ++ ss') (ds ++ ds')
  | [], _, _, _, h, h' => by cases h; exact h'
  | t :: ss, _, _, _, h, h' => by obtain ⟨e, r, rfl, h3, h4, h⟩ := h; exact ⟨e, r ++ _, rfl, h3, h4, Dg.append h h'⟩
theorem Dg.split : ∀ {ss ss' ds : List Int}, Dg (ss ++ ss') ds → ∃ a b, ds = a ++ b ∧ Dg ss a ∧ Dg ss' b
  | [], _, ds, h => ⟨[], ds, rfl, rfl, h⟩
  | t :: ss, _, _, h => by
    obtain ⟨e, r, rfl, h3, h4, h⟩ := h
    obtain ⟨a, b, rfl, h5, h6⟩ := Dg.split (ss := ss) h
    exact ⟨e :: a, b, rfl, ⟨e, a, rfl, h3, h4, h5⟩, h6⟩
theorem take_snoc {α : Type} {xs : List α} {i : Nat} {x : α} (h : xs[i]? = some x) : xs.take (i + 1) = xs.take i ++ [x] := by
  rw [List.take_add_one, h]; rfl
/-! a cell, its digits -/
def p__law_cell : PSp := fun ss R => ∃ ns k, ss = [.frz (.scr ns), .frz (.int k)] ∧ 0 ≤ k ∧ k ≤ 1000 ∧ ∀ z, R (.fr (.int z))
theorem l__law_cell : ∀ ss R, p__law_cell ss R → ss.length = 2 := by rintro ss R ⟨ns, k, rfl, _⟩; rfl
def b0__law_cell : WS := (wSet 2 (w2 modF (rE (wCB intF1 (wLc (rE (w2 addF (rE (w2 mulF (rNm 2) (rE (wC (.int 31))))) (rE (w2 modF (rE (wCB intF1 (wLc (rNm 3) wNil))) (rE (wC (.int 1000003))))))) wNil))) (rE (wC (.int 1000003)))))
def w__law_cell : WS := (wSeq (wIfS (tB' (w2 ltF (rNm 1) (rE (wCB lenF (wLc (rNm 0) wNil)))))
      (wRet (w2 ixF (rNm 0) (rNm 1)))
      wSkip)
      (wSeq (wSet 2 (wC (.int 17)))
      (wSeq (wFor (wWQB 0) (gN 3)
      b0__law_cell)
      (wRet (w2 modF (rE (wCB intF1 (wLc (rE (w2 mulF (rE (w2 mulF (rE (w2 addF (rNm 2) (rE (wC (.int 7))))) (rE (w2 addF (rNm 1) (rE (wC (.int 3))))))) (rE (wC (.int 69621))))) wNil))) (rE (wC (.int 2147483647))))))))
theorem h__law_cell : ∀ ss R, p__law_cell ss R → w__law_cell { nx := fun _ => R (.fr .non), rt := fun r _ => R r } (startS 4 ss) := by
  rintro ss R ⟨ns, k, rfl, h0, h1, h⟩
  walk_at "s"
  refine ⟨fun hk => ?_, fun hk => ?_⟩
  · have hk := of_decide_eq_true hk
    walk_at "s"
    exact ⟨_, atI_int h0 hk, h _⟩
  · walk_at "s"
    refine forM_inv (fun i τ => ∃ (seed : Int) (c : Option Sl), τ = [some (.frz (.scr ns)), some (.frz (.int k)), some (.frz (.int seed)), c] ∧ 0 ≤ seed ∧ seed < 1000003) ⟨17, _, rfl, by decide, by decide⟩ ?_ ?_
    · rintro i n τ K hn ⟨seed, c, rfl, hs0, hs1⟩ hK
      walk_at "s"
      refine ⟨mul64 (by omega) (by omega) (by omega) (by omega), ?_⟩
      walk_at "s"
      refine ⟨by decide, ?_⟩
      walk_at "s"
      refine ⟨by decide, ?_⟩
      walk_at "s"
      exact hK _ ⟨_, _, rfl, Int.emod_nonneg _ (by decide), Int.emod_lt_of_pos _ (by decide)⟩
    · rintro τ ⟨seed, c, rfl, hs0, hs1⟩
      walk_at "s"
      refine ⟨mul64 (by omega) (by omega) (by omega) (by omega), ?_⟩
      walk_at "s"
      refine ⟨mulx_ok (a := 60) (b := 60) (wide_lt (a := 30) (b := 30) (by omega) (by omega)) (by omega) (by decide), ?_⟩
      walk_at "s"
      refine ⟨by decide, ?_⟩
      exact h _
def p__law_digits : PSp := fun ss R => ∃ c szs, ss = [.frz (.int c), .frz (.lst (szs.map D.int))] ∧ (∀ s ∈ szs, 0 < s ∧ s < 18446744073709551616) ∧ szs.length ≤ 1000 ∧ ∀ ds, Dg szs ds → R (.nw (.lst (ds.map D.int)))
theorem l__law_digits : ∀ ss R, p__law_digits ss R → ss.length = 2 := by rintro ss R ⟨ns, k, rfl, _⟩; rfl
def b0__law_digits : WS := (wSeq (wSet 5 (w2 modF (rE (wCB intF1 (wLc (rE (w2 addF (rE (w2 addF (rE (w2 mulF (rNm 5) (rE (wC (.int 48271))))) (rE (w2 mulF (rE (wC (.int 974711))) (rNm 6))))) (rE (wC (.int 12345))))) wNil))) (rE (wC (.int 2147483647)))))
      (wSeq (wSet 7 (w2 modF (rE (wCB intF1 (wLc (rE (w2 mulF (rNm 5) (rE (w2 addF (rE (w2 fdivF (rNm 5) (rE (wC (.int 65537))))) (rE (wC (.int 3))))))) wNil))) (rE (wC (.int 2147483629)))))
      (wApp 2 (w2 modF (rE (w2 fdivF (rNm 7) (rE (wC (.int 19))))) (rE (w2 ixF (rNm 1) (rNm 6)))))))
def b1__law_digits : WS := (wSeq (wApp 2 (w2 modF (rE (wCB intF1 (wLc (rNm 3) wNil))) (rNm 4)))
      (wSeq (wSet 3 (w2 fdivF (rE (wCB intF1 (wLc (rNm 3) wNil))) (rNm 4)))
      (wFrz 3 wSkip)))
def w__law_digits : WS := (wSeq (wSet 2 (wLst wNil))
      (wSeq (wSet 3 (wCB intF1 (wLc (rNm 0) wNil)))
      (wFrz 3 (wSeq (wIfS (tB' (w2 geF (rNm 3) (rE (w2 powF (rE (wC (.int 10))) (rE (wC (.int 18)))))))
      (wSeq (wSet 3 (w2 subF (rNm 3) (rE (w2 powF (rE (wC (.int 10))) (rE (wC (.int 18)))))))
      (wFrz 3 (wSeq (wFor (wWQB 1) (gN 4)
      b1__law_digits)
      (wRetN 2))))
      wSkip)
      (wSeq (wSet 5 (w2 modF (rE (wCB intF1 (wLc (rNm 3) wNil))) (rE (wC (.int 2147483629)))))
      (wSeq (wFor (wWR1 (rE (wCB lenF (wLc (rNm 1) wNil)))) (gN 6)
      b0__law_digits)
      (wRetN 2)))))))
theorem h__law_digits : ∀ ss R, p__law_digits ss R → w__law_digits { nx := fun _ => R (.fr .non), rt := fun r _ => R r } (startS 8 ss) := by
  rintro ss R ⟨c, szs, rfl, hz, hl, h⟩
  walk_at "s"
  refine ⟨by decide, ?_⟩
  walk_at "s"
  refine ⟨⟨by decide, by decide, by decide⟩, ?_⟩
  walk_at "s"
  refine ⟨fun hk => ?_, fun hk => ?_⟩
  · walk_at "s"
    refine ⟨⟨by decide, by decide, by decide⟩, ?_⟩
    walk_at "s"
    refine forM_inv (fun i τ => ∃ (ds : List Int) (r : Int) (x : Option Sl), τ = [some (.frz (.int c)), some (.frz (.lst (szs.map D.int))), some (.own (.lst (ds.map D.int))), some (.frz (.int r)), x, none, none, none] ∧ Dg (szs.take i) ds) ⟨[], _, _, rfl, rfl⟩ ?_ ?_
    · rintro i s τ K hs ⟨ds, r, x, rfl, hd⟩ hK
      have hs2 := hz s (List.mem_of_getElem? hs)
      walk_at "s"
      refine ⟨hs2.1, ?_⟩
      walk_at "s"
      refine ⟨by rw [List.length_map, hd.len, List.length_take]; omega, ?_⟩
      walk_at "s"
      refine ⟨div_ok hs2.1 hs2.2, ?_⟩
      walk_at "s"
      refine hK _ ⟨ds ++ [r % s], r / s, some (.frz (.int s)), ?_, ?_⟩
      · rw [List.map_append]; rfl
      · rw [take_snoc hs]
        exact hd.snoc (Int.emod_nonneg _ (by omega)) (Int.emod_lt_of_pos _ hs2.1)
    · rintro τ ⟨ds, r, x, rfl, hd⟩
      rw [List.take_length] at hd
      exact h _ hd
  · walk_at "s"
    refine ⟨by decide, ?_⟩
    walk_at "s"
    rw [List.length_map]
    refine ⟨⟨by omega, by omega⟩, ?_⟩
    refine forR0_inv (fun i τ => ∃ (ds : List Int) (seed : Int) (x y : Option Sl), τ = [some (.frz (.int c)), some (.frz (.lst (szs.map D.int))), some (.own (.lst (ds.map D.int))), some (.frz (.int c)), none, some (.frz (.int seed)), x, y] ∧ 0 ≤ seed ∧ seed < 2147483647 ∧ Dg (szs.take i) ds) ⟨[], _, _, _, rfl, Int.emod_nonneg _ (by decide), Int.lt_of_lt_of_le (Int.emod_lt_of_pos _ (by decide)) (by decide), rfl⟩ ?_ ?_
    · rintro i τ K hi ⟨ds, seed, x, y, rfl, hs0, hs1, hd⟩ hK
      walk_at "s"
      refine ⟨mul64 (by omega) (by omega) (by omega) (by omega), ?_⟩
      walk_at "s"
      refine ⟨mul64 (by omega) (by omega) (by omega) (by omega), ?_⟩
      walk_at "s"
      refine ⟨by decide, ?_⟩
      generalize hs' : (seed * 48271 + 974711 * (i : Int) + 12345) % 2147483647 = seed'
      have hs0' : 0 ≤ seed' := hs' ▸ Int.emod_nonneg _ (by decide)
      have hs1' : seed' < 2147483647 := hs' ▸ Int.emod_lt_of_pos _ (by decide)
      walk_at "s"
      refine ⟨div_ok (by decide) (by decide), ?_⟩
      have hq0 : 0 ≤ seed' / 65537 := Int.ediv_nonneg hs0' (by decide)
      have hq1 : seed' / 65537 < 2147483647 := by omega
      walk_at "s"
      refine ⟨mul64 (by omega) (by omega) (by omega) (by omega), ?_⟩
      walk_at "s"
      refine ⟨by decide, ?_⟩
      walk_at "s"
      refine ⟨div_ok (by decide) (by decide), ?_⟩
      walk_at "s"
      obtain ⟨s, hs⟩ : ∃ s, szs[i]? = some s := ⟨_, List.getElem?_eq_getElem hi⟩
      have hs2 := hz s (List.mem_of_getElem? hs)
      refine ⟨_, atI_ints (atI_nat hs), ?_⟩
      walk_at "s"
      refine ⟨hs2.1, ?_⟩
      walk_at "s"
      refine ⟨by rw [List.length_map, hd.len, List.length_take]; omega, ?_⟩
      refine hK _ ⟨ds ++ [seed' * (seed' / 65537 + 3) % 2147483629 / 19 % s], seed', some (.frz (.int (i : Int))), some (.frz (.int (seed' * (seed' / 65537 + 3) % 2147483629))), ?_, hs0', hs1', ?_⟩
      · rw [List.map_append]; rfl
      · rw [take_snoc hs]
        exact hd.snoc (Int.emod_nonneg _ (by omega)) (Int.emod_lt_of_pos _ hs2.1)
    · rintro τ ⟨ds, seed, x, y, rfl, hs0, hs1, hd⟩
      rw [List.take_length] at hd
      exact h _ hd


/-! elimination by a basis in echelon form: plain facts -/
def vsub (xs ys : List Int) : List Int := List.zipWith (fun a b => a - b) xs ys
def vmul (f : Int) (xs : List Int) : List Int := xs.map fun x => x * f
def gt (xs : List Int) (j : Nat) : Int := xs.getD j 0
def piv : List Int → Nat
  | [] => 0
  | x :: xs => if x = 0 then piv xs + 1 else 0
def zer (xs : List Int) : Bool := xs.all fun x => decide (x = 0)
def elim : List Int → List (List Int) → Option (List Int)
  | r, [] => if zer r = true then some [] else none
  | r, l :: ls => if gt r (piv l) / gt l (piv l) * gt l (piv l) = gt r (piv l) then (elim (vsub r (vmul (gt r (piv l) / gt l (piv l)) l)) ls).map (gt r (piv l) / gt l (piv l) :: ·) else none
def mixV : List (List Int) → List Int → Nat → Int
  | l :: ls, f :: fs, j => f * gt l j + mixV ls fs j
  | _, _, _ => 0
/-- rows of a width, ascending pivots that are not below p, positive pivot items -/
def Ech (w : Nat) : Nat → List (List Int) → Prop
  | _, [] => True
  | p, l :: ls => l.length = w ∧ ∃ q, p ≤ q ∧ q < w ∧ (∀ j, j < q → gt l j = 0) ∧ 0 < gt l q ∧ Ech w (q + 1) ls
theorem gt_get {xs : List Int} {j : Nat} (h : j < xs.length) : xs[j]? = some (gt xs j) := by
  unfold gt; rw [List.getD_eq_getElem?_getD, List.getElem?_eq_getElem h]; rfl
theorem gt_ext {xs ys : List Int} (hl : xs.length = ys.length) (h : ∀ j, j < xs.length → gt xs j = gt ys j) : xs = ys := by
  apply List.ext_getElem? 
  intro j
  by_cases hj : j < xs.length
  · rw [gt_get hj, gt_get (by omega), h j hj]
  · rw [List.getElem?_eq_none (by omega), List.getElem?_eq_none (by omega)]
theorem piv_le : ∀ xs : List Int, piv xs ≤ xs.length
  | [] => by simp [piv]
  | x :: xs => by
    unfold piv
    split
    · have := piv_le xs; simp; omega
    · omega
theorem piv_zero : ∀ (xs : List Int) (j : Nat), j < piv xs → gt xs j = 0
  | [], j, h => by simp [piv] at h
  | x :: xs, j, h => by
    unfold piv at h
    split at h
    · rename_i hx
      cases j with
      | zero => simpa [gt] using hx
      | succ j => have := piv_zero xs j (by omega); simpa [gt] using this
    · omega
theorem piv_nz : ∀ (xs : List Int), piv xs < xs.length → gt xs (piv xs) ≠ 0
  | [], h => by simp [piv] at h
  | x :: xs, h => by
    unfold piv at h ⊢
    split
    · rename_i hx
      rw [if_pos hx] at h
      have := piv_nz xs (by simpa using h)
      simpa [gt] using this
    · rename_i hx
      simpa [gt] using hx
theorem piv_eq {xs : List Int} {q : Nat} (h1 : ∀ j, j < q → gt xs j = 0) (h2 : gt xs q ≠ 0) : piv xs = q := by
  have hq : q < xs.length := by
    by_cases h : q < xs.length
    · exact h
    · exact absurd (by unfold gt; rw [List.getD_eq_getElem?_getD, List.getElem?_eq_none (by omega)]; rfl) h2
  by_cases h : piv xs < q
  · have hl : piv xs < xs.length := by omega
    exact absurd (h1 _ h) (piv_nz xs hl)
  · by_cases h' : q < piv xs
    · exact absurd (piv_zero xs q h') h2
    · omega
theorem zer_iff {xs : List Int} : zer xs = true ↔ ∀ j, j < xs.length → gt xs j = 0 := by
  unfold zer
  rw [List.all_eq_true]
  constructor
  · intro h j hj
    have := h (gt xs j) (List.mem_of_getElem? (gt_get hj))
    simpa using this
  · intro h x hx
    obtain ⟨j, hj, e⟩ := List.getElem_of_mem hx
    have := h j hj
    have e2 : gt xs j = x := by
      have := gt_get hj
      rw [List.getElem?_eq_getElem hj, e] at this
      exact (Option.some.inj this).symm
    rw [e2] at this
    simpa using this
theorem zer_piv {xs : List Int} : zer xs = true ↔ ¬ piv xs < xs.length := by
  rw [zer_iff]
  constructor
  · intro h hp; exact piv_nz xs hp (h _ hp)
  · intro h j hj; exact piv_zero xs j (by have := piv_le xs; omega)
theorem gt_vsub {xs ys : List Int} (hl : xs.length = ys.length) (j : Nat) : gt (vsub xs ys) j = gt xs j - gt ys j := by
  unfold gt vsub
  simp only [List.getD_eq_getElem?_getD]
  by_cases hj : j < xs.length
  · rw [List.getElem?_zipWith, List.getElem?_eq_getElem hj, List.getElem?_eq_getElem (by omega)]; rfl
  · rw [List.getElem?_eq_none (by simp; omega), List.getElem?_eq_none (by omega), List.getElem?_eq_none (by omega)]; rfl
theorem gt_vmul (f : Int) (xs : List Int) (j : Nat) : gt (vmul f xs) j = gt xs j * f := by
  unfold gt vmul
  simp only [List.getD_eq_getElem?_getD, List.getElem?_map]
  cases xs[j]? <;> simp
theorem len_vmul {f : Int} {xs : List Int} : (vmul f xs).length = xs.length := by simp [vmul]
theorem len_vsub {xs ys : List Int} (hl : xs.length = ys.length) : (vsub xs ys).length = xs.length := by simp [vsub, hl]
theorem Ech.piv {w p : Nat} {l : List Int} {ls : List (List Int)} (h : Ech w p (l :: ls)) : l.length = w ∧ p ≤ piv l ∧ piv l < w ∧ (∀ j, j < Law.piv l → gt l j = 0) ∧ 0 < gt l (Law.piv l) ∧ Ech w (Law.piv l + 1) ls := by
  obtain ⟨h1, q, h2, h3, h4, h5, h6⟩ := h
  have : Law.piv l = q := piv_eq h4 (by omega)
  rw [this]
  exact ⟨h1, h2, h3, h4, h5, h6⟩
theorem Ech.mono {w : Nat} : ∀ {p p' : Nat} {ls : List (List Int)}, Ech w p ls → p' ≤ p → Ech w p' ls
  | _, _, [], _, _ => trivial
  | _, _, _ :: _, ⟨h1, q, h2, h⟩, hp => ⟨h1, q, by omega, h⟩
theorem mixV_below {w : Nat} : ∀ {p : Nat} {ls : List (List Int)} {fs : List Int} {j : Nat}, Ech w p ls → j < p → mixV ls fs j = 0
  | _, [], _, _, _, _ => by simp [mixV]
  | _, l :: ls, [], _, _, _ => by simp [mixV]
  | p, l :: ls, f :: fs, j, h, hj => by
    obtain ⟨_, h2, h3, h4, h5, h6⟩ := h.piv
    unfold mixV
    rw [h4 j (by omega), mixV_below h6 (by omega)]; simp
/-- sums of multiples have their factors -/
theorem elim_mix {w : Nat} : ∀ {p : Nat} {ls : List (List Int)} {fs r : List Int}, Ech w p ls → fs.length = ls.length → r.length = w → (∀ j, j < w → gt r j = mixV ls fs j) → elim r ls = some fs
  | _, [], fs, r, _, hf, hr, h => by
    have : fs = [] := by cases fs with | nil => rfl | cons _ _ => cases hf
    subst this
    unfold elim
    rw [if_pos]
    rw [zer_iff]
    intro j hj
    rw [h j (by omega)]
    simp [mixV]
  | p, l :: ls, [], r, _, hf, _, _ => by cases hf
  | p, l :: ls, f :: fs, r, he, hf, hr, h => by
    obtain ⟨h1, h2, h3, h4, h5, h6⟩ := he.piv
    have e : gt r (piv l) = f * gt l (piv l) := by
      rw [h _ h3]
      unfold mixV
      rw [mixV_below h6 (by omega)]; simp
    have ed : gt r (piv l) / gt l (piv l) = f := by
      rw [e]; exact Int.mul_ediv_cancel _ (by omega)
    unfold elim
    rw [ed, if_pos e.symm]
    rw [elim_mix h6 (by simpa using hf) (by rw [len_vsub (by rw [len_vmul]; omega)]; exact hr) fun j hj => by
      rw [gt_vsub (by rw [len_vmul]; omega), gt_vmul, h j hj]
      show f * gt l j + mixV ls fs j - gt l j * f = mixV ls fs j
      rw [Int.mul_comm]
      omega]
    rfl
/-- .. and what has factors is their sum -/
theorem elim_sound {w : Nat} : ∀ {p : Nat} {ls : List (List Int)} {fs r : List Int}, Ech w p ls → r.length = w → elim r ls = some fs → fs.length = ls.length ∧ ∀ j, j < w → gt r j = mixV ls fs j
  | _, [], fs, r, _, hr, h => by
    unfold elim at h
    split at h
    · rename_i hz
      cases h
      refine ⟨rfl, fun j hj => ?_⟩
      rw [zer_iff.mp hz j (by omega)]
      simp [mixV]
    · cases h
  | p, l :: ls, fs, r, he, hr, h => by
    obtain ⟨h1, h2, h3, h4, h5, h6⟩ := he.piv
    unfold elim at h
    split at h
    · rename_i hd
      generalize gt r (piv l) / gt l (piv l) = f at h hd
      cases e : elim (vsub r (vmul f l)) ls with
      | none => rw [e] at h; cases h
      | some gs =>
        rw [e] at h
        cases h
        obtain ⟨k1, k2⟩ := elim_sound h6 (by rw [len_vsub (by rw [len_vmul]; omega)]; exact hr) e
        refine ⟨by simp [k1], fun j hj => ?_⟩
        have := k2 j hj
        rw [gt_vsub (by rw [len_vmul]; omega), gt_vmul] at this
        unfold mixV
        rw [Int.mul_comm f]
        omega
    · cases h
/-- the sums of multiples by differences -/
theorem mixV_sub : ∀ {ls : List (List Int)} {fs gs : List Int} {j : Nat}, fs.length = ls.length → gs.length = ls.length → mixV ls (vsub gs fs) j = mixV ls gs j - mixV ls fs j
  | [], _, _, _, _, _ => by simp [mixV]
  | l :: ls, f :: fs, g :: gs, j, h1, h2 => by
    show mixV (l :: ls) ((g - f) :: vsub gs fs) j = _
    unfold mixV
    rw [mixV_sub (by simpa using h1) (by simpa using h2), Int.sub_mul]
    omega
  | l :: ls, [], _, _, h, _ => by cases h
  | l :: ls, _ :: _, [], _, _, h => by cases h
/-- a sum of multiples that is zero but at one place: this place is a pivot, whose item divides -/
theorem mixV_one {w : Nat} : ∀ {p : Nat} {ls : List (List Int)} {fs : List Int} {at_ : Nat} {s : Int}, Ech w p ls → fs.length = ls.length → at_ < w → s ≠ 0 → (∀ j, j < w → mixV ls fs j = if j = at_ then s else 0) → ∃ l ∈ ls, piv l = at_ ∧ ∃ f, s = f * gt l at_
  | _, [], _, at_, s, _, _, ha, hs, h => by
    have := h at_ ha
    simp [mixV] at this
    exact absurd this.symm hs
  | p, l :: ls, [], _, _, _, hf, _, _, _ => by cases hf
  | p, l :: ls, f :: fs, at_, s, he, hf, ha, hs, h => by
    obtain ⟨h1, h2, h3, h4, h5, h6⟩ := he.piv
    have e := h _ h3
    unfold mixV at e
    rw [mixV_below h6 (by omega), Int.add_zero] at e
    by_cases hp : piv l = at_
    · rw [if_pos hp] at e
      exact ⟨l, by simp, hp, f, by rw [← e, hp]⟩
    · rw [if_neg hp] at e
      have hf0 : f = 0 := by
        rcases Int.mul_eq_zero.mp e with e | e
        · exact e
        · omega
      subst hf0
      obtain ⟨l', hl', q⟩ := mixV_one h6 (by simpa using hf) ha hs fun j hj => by
        have := h j hj
        unfold mixV at this
        simpa using this
      exact ⟨l', by simp [hl'], q⟩
/-- a sum of multiples with one item shifted where it must not: no factors -/
theorem elim_shift {w p : Nat} {ls : List (List Int)} {fs r : List Int} {at_ : Nat} {s : Int} (he : Ech w p ls) (hf : fs.length = ls.length) (hr : r.length = w) (ha : at_ < w) (hs : s ≠ 0) (h : ∀ j, j < w → gt r j = mixV ls fs j + if j = at_ then s else 0)
    (hn : ∀ l ∈ ls, piv l = at_ → ∀ f, s ≠ f * gt l at_) : elim r ls = none := by
  cases e : elim r ls with
  | none => rfl
  | some gs =>
    obtain ⟨k1, k2⟩ := elim_sound he hr e
    obtain ⟨l, hl, hp, f, hq⟩ := mixV_one (fs := vsub gs fs) he (by rw [len_vsub (by omega)]; exact k1) ha hs fun j hj => by
      rw [mixV_sub hf k1, ← k2 j hj, h j hj]
      omega
    exact absurd hq (hn l hl hp f)
theorem mixV_scale {c : Int} : ∀ {ls : List (List Int)} {fs : List Int} {j : Nat}, mixV (ls.map fun l => l.map fun x => c * x) fs j = c * mixV ls fs j
  | [], _, _ => by simp [mixV]
  | l :: ls, [], _ => by simp [mixV]
  | l :: ls, f :: fs, j => by
    have e : gt (l.map fun x => c * x) j = c * gt l j := by
      unfold gt
      simp only [List.getD_eq_getElem?_getD, List.getElem?_map]
      cases l[j]? <;> simp
    rw [List.map_cons]
    unfold mixV
    rw [mixV_scale, e, Int.mul_add, Int.mul_left_comm]
theorem gt_scale {c : Int} {l : List Int} {j : Nat} : gt (l.map fun x => c * x) j = c * gt l j := by
  unfold gt
  simp only [List.getD_eq_getElem?_getD, List.getElem?_map]
  cases l[j]? <;> simp
theorem Ech.scale {w : Nat} {c : Int} (hc : 0 < c) : ∀ {p : Nat} {ls : List (List Int)}, Ech w p ls → Ech w p (ls.map fun l => l.map fun x => c * x)
  | _, [], _ => trivial
  | p, l :: ls, ⟨h1, q, h2, h3, h4, h5, h6⟩ => ⟨by simpa using h1, q, h2, h3, fun j hj => by rw [gt_scale, h4 j hj]; simp, by rw [gt_scale]; exact Int.mul_pos hc h5, Ech.scale hc h6⟩
theorem mixV_mul {c : Int} : ∀ {ls : List (List Int)} {fs : List Int} {j : Nat}, mixV ls (fs.map fun f => c * f) j = c * mixV ls fs j
  | [], _, _ => by simp [mixV]
  | l :: ls, [], _ => by simp [mixV]
  | l :: ls, f :: fs, j => by
    rw [List.map_cons]
    unfold mixV
    rw [mixV_mul, Int.mul_add, Int.mul_assoc]
/-- in the basis times a number -/
theorem elim_scaled {w p : Nat} {ls : List (List Int)} {fs r : List Int} {c : Int} (he : Ech w p ls) (hf : fs.length = ls.length) (hr : r.length = w) (hc : 0 < c) (h : ∀ j, j < w → gt r j = mixV ls fs j) :
    elim r (ls.map fun l => l.map fun x => c * x) = if fs.all (fun f => decide (f / c * c = f)) = true then some (fs.map fun f => f / c) else none := by
  have hes := he.scale hc
  split
  · rename_i hd
    refine elim_mix hes (by simp [hf]) hr fun j hj => ?_
    rw [h j hj, mixV_scale, ← mixV_mul, List.map_map]
    congr 1
    conv => lhs; rw [← List.map_id fs]
    apply List.map_congr_left
    intro f hf'
    have := of_decide_eq_true (List.all_eq_true.mp hd f hf')
    simp only [Function.comp_apply, id]
    rw [Int.mul_comm]; exact this.symm
  · rename_i hd
    cases e : elim r (ls.map fun l => l.map fun x => c * x) with
    | none => rfl
    | some gs =>
      exfalso
      obtain ⟨k1, k2⟩ := elim_sound hes hr e
      rw [List.length_map] at k1
      apply hd
      have e1 := elim_mix he hf hr h
      have e2 := elim_mix (fs := gs.map fun g => c * g) he (by simp [k1]) hr fun j hj => by rw [k2 j hj, mixV_scale, mixV_mul]
      rw [e1] at e2
      rw [Option.some.inj e2, List.all_eq_true]
      intro f hf'
      obtain ⟨g, _, rfl⟩ := List.mem_map.mp hf'
      rw [decide_eq_true_iff, Int.mul_ediv_cancel_left _ (by omega), Int.mul_comm]


/-! rows less multiples of rows -/
theorem zipD_I : ∀ xs ys : List Int, zipD (I xs) (I ys) = (xs.zip ys).map fun q => D.tup [.int q.1, .int q.2]
  | [], _ => rfl
  | x :: xs, [] => rfl
  | x :: xs, y :: ys => by
    show D.tup [.int x, .int y] :: zipD (I xs) (I ys) = _
    rw [zipD_I xs ys]; rfl
theorem vsub_zip : ∀ xs ys : List Int, ((xs.zip ys).map fun q => D.int (q.1 - q.2)) = I (vsub xs ys)
  | [], _ => rfl
  | x :: xs, [] => rfl
  | x :: xs, y :: ys => by
    show D.int (x - y) :: ((xs.zip ys).map fun q => D.int (q.1 - q.2)) = D.int (x - y) :: I (vsub xs ys)
    rw [vsub_zip xs ys]
def p_row_difference : PSp := fun ss R => ∃ xs ys : List Int, ss = [.frz (.tup (I xs)), .frz (.tup (I ys))] ∧ xs.length = ys.length ∧ xs.length ≤ 1000000 ∧ R (.fr (.tup (I (vsub xs ys))))
theorem l_row_difference : ∀ ss R, p_row_difference ss R → ss.length = 2 := by rintro ss R ⟨xs, ys, rfl, _⟩; rfl
def w_row_difference : WS := (wRet (wCB tupF (wLc (rE (wLC (wWZ (wNm 0) (wNm 1)) (gNt 2 (gNc (gN 2) (gNc (gN 3) gN0))) wYes (w2 subF (rNm 2) (rNm 3)) [2, 3])) wNil)))
theorem h_row_difference : ∀ ss R, p_row_difference ss R → w_row_difference { nx := fun _ => R (.fr .non), rt := fun r _ => R r } (startS 4 ss) := by
  rintro ss R ⟨xs, ys, rfl, hl, hm, h⟩
  walk_at "s"
  rw [zipD_I]
  refine comp_map (L := xs.zip ys) (fun q => .int (q.1 - q.2)) (fun q hq K k => ?_) (by simp; omega) ?_
  · walk_at "s"
    refine ⟨rfl, ?_⟩
    walk_at "s"
    exact ⟨fun _ => k, fun z => by cases z⟩
  · walk_at "s"
    rw [vsub_zip]
    exact h
def p_scaled_row : PSp := fun ss R => ∃ (t : Bool) (xs : List Int) (f : Int), ss = [.frz (sq t (I xs)), .frz (.int f)] ∧ xs.length ≤ 1000000 ∧ (∀ x ∈ xs, CMulX x f) ∧ R (.fr (.tup (I (vmul f xs))))
theorem l_scaled_row : ∀ ss R, p_scaled_row ss R → ss.length = 2 := by rintro ss R ⟨t, xs, f, rfl, _⟩; rfl
def w_scaled_row : WS := (wRet (wCB tupF (wLc (rE (wLC (wWQB 0) (gN 2) wYes (w2 mulF (rNm 2) (rNm 1)) [2])) wNil)))
theorem h_scaled_row : ∀ ss R, p_scaled_row ss R → w_scaled_row { nx := fun _ => R (.fr .non), rt := fun r _ => R r } (startS 3 ss) := by
  rintro ss R ⟨t, xs, f, rfl, hl, hc, h⟩
  cases t <;> walk_at "s" <;> (
    refine comp_map (L := xs) (fun x => .int (x * f)) (fun x hx K k => ?_) (by omega) ?_
    · walk_at "s"
      exact ⟨fun _ => ⟨hc x hx, k⟩, fun z => by cases z⟩
    · walk_at "s"
      rw [show (xs.map fun x => D.int (x * f)) = I (vmul f xs) from by simp [I, vmul]]
      exact h)
/-! the place of the first item that is not zero -/
def p_is_zero_row : PSp := fun ss R => ∃ (t : Bool) (xs : List Int), ss = [.frz (sq t (I xs))] ∧ R (.fr (.bl (zer xs)))
theorem l_is_zero_row : ∀ ss R, p_is_zero_row ss R → ss.length = 1 := by rintro ss R ⟨t, xs, rfl, _⟩; rfl
def b0_is_zero_row : WS := (wIfS (tB' (w2 (eqF true) (rNm 1) (rE (wC (.int 0)))))
      (wRet (wC (.bl false)))
      wSkip)
def w_is_zero_row : WS := (wSeq (wFor (wWQB 0) (gN 1)
      b0_is_zero_row)
      (wRet (wC (.bl true))))
theorem h_is_zero_row : ∀ ss R, p_is_zero_row ss R → w_is_zero_row { nx := fun _ => R (.fr .non), rt := fun r _ => R r } (startS 2 ss) := by
  rintro ss R ⟨t, xs, rfl, h⟩
  cases t <;> walk_at "s" <;> (
    refine forM_inv (L := xs) (fun i τ => (∃ c : Option Sl, ∃ s, τ = [s, c]) ∧ zer (xs.take i) = true) ⟨⟨_, _, rfl⟩, rfl⟩ ?_ ?_
    · rintro i x τ K hx ⟨⟨c, s, rfl⟩, hz⟩ hK
      walk_at "s"
      refine ⟨fun hb => ?_, fun hb => ?_⟩
      · walk_at "s"
        rw [show zer xs = false from ?_] at h
        · exact h
        · cases e : zer xs with
          | false => rfl
          | true =>
            have := List.all_eq_true.mp e x (List.mem_of_getElem? hx)
            simp at hb this
            exact absurd this hb
      · walk_at "s"
        refine hK _ ⟨⟨_, _, rfl⟩, ?_⟩
        rw [take_snoc hx]
        unfold zer at hz ⊢
        rw [List.all_append, hz]
        simpa using hb
    · rintro τ ⟨⟨c, s, rfl⟩, hz⟩
      rw [List.take_length] at hz
      rw [hz] at h
      exact h)
def p_pivot_of : PSp := fun ss R => ∃ (t : Bool) (xs : List Int), ss = [.frz (sq t (I xs))] ∧ xs.length ≤ 1000000 ∧ R (.fr (.int (piv xs)))
theorem l_pivot_of : ∀ ss R, p_pivot_of ss R → ss.length = 1 := by rintro ss R ⟨t, xs, rfl, _⟩; rfl
def b0_pivot_of : WS := (wIfS (tB' (w2 (eqF true) (rE (w2 ixF (rNm 0) (rNm 1))) (rE (wC (.int 0)))))
      (wRetN 1)
      wSkip)
def w_pivot_of : WS := (wSeq (wFor (wWR1 (rE (wCB lenF (wLc (rNm 0) wNil)))) (gN 1)
      b0_pivot_of)
      (wRet (wCB lenF (wLc (rNm 0) wNil))))
theorem h_pivot_of : ∀ ss R, p_pivot_of ss R → w_pivot_of { nx := fun _ => R (.fr .non), rt := fun r _ => R r } (startS 2 ss) := by
  rintro ss R ⟨t, xs, rfl, hl, h⟩
  cases t <;> walk_at "s" <;> (
    rw [List.length_map]
    refine ⟨⟨by omega, by omega⟩, ?_⟩
    refine forR0_inv (fun i τ => ∃ c : Option Sl, τ = [some (.frz (sq _ (I xs))), c] ∧ i ≤ piv xs) ⟨_, rfl, by omega⟩ ?_ ?_
    · rintro i τ K hi ⟨c, rfl, hp⟩ hK
      walk_at "s"
      refine ⟨_, atI_ints (atI_nat (gt_get hi)), ?_⟩
      walk_at "s"
      refine ⟨fun hb => ?_, fun hb => ?_⟩
      · walk_at "s"
        have : piv xs = i := piv_eq (fun j hj => piv_zero xs j (by omega)) (by simpa using hb)
        rw [this] at h
        exact h
      · walk_at "s"
        refine hK _ ⟨_, rfl, ?_⟩
        have hz : gt xs i = 0 := by simpa using hb
        by_cases e : i = piv xs
        · subst e
          exact absurd hz (piv_nz xs hi)
        · omega
    · rintro τ ⟨c, rfl, hp⟩
      walk_at "s"
      rw [List.length_map]
      have := piv_le xs
      rw [show piv xs = xs.length from by omega] at h
      exact h)



/-! sizes along an elimination -/
def Bd (b : Nat) (xs : List Int) : Prop := ∀ x ∈ xs, x.natAbs < 2 ^ b
theorem Bd.gt {b : Nat} {xs : List Int} (h : Bd b xs) (j : Nat) : (gt xs j).natAbs < 2 ^ b := by
  by_cases hj : j < xs.length
  · exact h _ (List.mem_of_getElem? (gt_get hj))
  · unfold Law.gt; rw [List.getD_eq_getElem?_getD, List.getElem?_eq_none (by omega)]
    exact Nat.two_pow_pos b
theorem Bd.mono {b c : Nat} {xs : List Int} (h : Bd b xs) (hb : b ≤ c) : Bd c xs := fun x hx => Nat.lt_of_lt_of_le (h x hx) (Nat.pow_le_pow_right (by decide) hb)
theorem abs_ediv {a d : Int} (hd : 0 < d) : (a / d).natAbs ≤ a.natAbs := by
  have h1 := Int.emod_add_mul_ediv a d
  have h2 := Int.emod_nonneg a (b := d) (by omega)
  have h3 := Int.emod_lt_of_pos a hd
  by_cases ha : 0 ≤ a
  · have := Int.ediv_nonneg ha (Int.le_of_lt hd)
    have := Int.ediv_le_self d ha
    omega
  · have h4 : a / d < 0 := Int.ediv_neg_of_neg_of_pos (by omega) hd
    have h5 : a ≤ a / d := Int.le_ediv_of_mul_le hd (by
      have := Int.mul_le_mul_of_nonpos_left (a := a) (b := d) (c := 1) (by omega) (by omega)
      omega)
    omega
theorem vsub_mem {xs ys : List Int} {z : Int} (h : z ∈ vsub xs ys) : ∃ x ∈ xs, ∃ y ∈ ys, z = x - y := by
  obtain ⟨j, hj, e⟩ := List.getElem_of_mem h
  unfold vsub at hj e
  rw [List.getElem_zipWith] at e
  simp at hj
  exact ⟨xs[j], List.getElem_mem _, ys[j], List.getElem_mem _, e.symm⟩
theorem Bd.step {b c : Nat} {r l : List Int} {f : Int} (hr : Bd b r) (hl : Bd c l) (hf : f.natAbs < 2 ^ b) : Bd (b + (c + 1)) (vsub r (vmul f l)) := fun z hz => by
  obtain ⟨x, hx, y, hy, rfl⟩ := vsub_mem hz
  obtain ⟨u, hu, rfl⟩ := List.mem_map.mp hy
  have h1 := hr x hx
  have h2 := hl u hu
  have h3 : (u * f).natAbs < 2 ^ (b + c) := by rw [Int.mul_comm]; exact wide_lt hf h2
  have h4 : 2 ^ b ≤ 2 ^ (b + c) := Nat.pow_le_pow_right (by decide) (by omega)
  have h5 : 2 ^ (b + (c + 1)) = 2 ^ (b + c) * 2 := by rw [← Nat.add_assoc, Nat.pow_succ]
  omega
theorem Bd.mulx {b c : Nat} {l : List Int} {f : Int} (hl : Bd c l) (hf : f.natAbs < 2 ^ b) (h : c + b ≤ 134217728) : ∀ x ∈ l, CMulX x f := fun x hx => mulx_ok (hl x hx) hf h
theorem elim_yes {r l : List Int} {ls : List (List Int)} {f : Int} (e : gt r (piv l) / gt l (piv l) = f) (h : f * gt l (piv l) = gt r (piv l)) : elim r (l :: ls) = (elim (vsub r (vmul f l)) ls).map (f :: ·) := by
  subst e; rw [elim, if_pos h]
theorem elim_no {r l : List Int} {ls : List (List Int)} {f : Int} (e : gt r (piv l) / gt l (piv l) = f) (h : ¬ f * gt l (piv l) = gt r (piv l)) : elim r (l :: ls) = none := by
  subst e; rw [elim, if_neg h]
theorem Ech.drop {w : Nat} : ∀ {p : Nat} {ls : List (List Int)} (k : Nat), Ech w p ls → ∃ p', Ech w p' (ls.drop k)
  | p, ls, 0, h => ⟨p, h⟩
  | p, [], k + 1, h => ⟨p, h⟩
  | p, l :: ls, k + 1, h => Ech.drop k h.piv.2.2.2.2.2
/-- what an elimination of a row is asked for -/
def Elm (xs : List Int) (rows : List (List Int)) : Prop := ∃ w b c, xs.length = w ∧ w ≤ 1000000 ∧ Ech w 0 rows ∧ rows.length ≤ 1000000 ∧ Bd b xs ∧ (∀ l ∈ rows, Bd c l) ∧ 0 < b ∧ 0 < c ∧ b + (c + 1) * rows.length ≤ 8000
theorem drop_cons {α : Type} {xs : List α} {k : Nat} {x : α} (h : xs[k]? = some x) : xs.drop k = x :: xs.drop (k + 1) := by
  obtain ⟨h1, h2⟩ := List.getElem?_eq_some_iff.mp h
  rw [List.drop_eq_getElem_cons h1, h2]
/-- one step of the elimination: its facts -/
theorem Elm.at {w b c k : Nat} {rows : List (List Int)} {rest l : List Int} (hE : Ech w 0 rows) (hB : ∀ l ∈ rows, Bd c l) (hc : 0 < c) (hb : 0 < b) (hs : b + (c + 1) * rows.length ≤ 8000) (hk : rows[k]? = some l) (hw : rest.length = w) (hr : Bd (b + (c + 1) * k) rest) :
    l.length = w ∧ piv l < w ∧ 0 < gt l (piv l) ∧ CDivW (gt rest (piv l)) (gt l (piv l)) ∧ (gt rest (piv l) / gt l (piv l)).natAbs < 2 ^ (b + (c + 1) * k) ∧ (∀ x ∈ l, CMulX x (gt rest (piv l) / gt l (piv l))) ∧ CMulX (gt rest (piv l) / gt l (piv l)) (gt l (piv l)) ∧
      (∀ x ∈ l, CMulX (gt rest (piv l) / gt l (piv l)) x) ∧ Bd (b + (c + 1) * (k + 1)) (vsub rest (vmul (gt rest (piv l) / gt l (piv l)) l)) ∧ (vsub rest (vmul (gt rest (piv l) / gt l (piv l)) l)).length = w := by
  obtain ⟨p, hp⟩ := hE.drop k
  rw [drop_cons hk] at hp
  obtain ⟨h1, h2, h3, h4, h5, h6⟩ := hp.piv
  have hkl : k < rows.length := (List.getElem?_eq_some_iff.mp hk).1
  have hle : (c + 1) * k + (c + 1) ≤ (c + 1) * rows.length := by
    rw [← Nat.mul_succ]; exact Nat.mul_le_mul_left _ hkl
  have hm := hB l (List.mem_of_getElem? hk)
  have hf : (gt rest (piv l) / gt l (piv l)).natAbs < 2 ^ (b + (c + 1) * k) := Nat.lt_of_le_of_lt (abs_ediv h5) (hr.gt _)
  refine ⟨h1, h3, h5, wide_div h5 (hm.gt _) hc (by omega), hf, hm.mulx hf (by omega), mulx_ok hf (hm.gt _) (by omega), fun x hx => mulx_ok hf (hm x hx) (by omega), ?_, ?_⟩
  · have := Bd.step hr hm hf
    rw [Nat.mul_succ, ← Nat.add_assoc]
    exact this
  · rw [len_vsub (by rw [len_vmul]; omega)]; exact hw
/-! the coordinates of a row -/
def p_coordinates : PSp := fun ss R => ∃ (t o i : Bool) (xs : List Int) (rows : List (List Int)), ss = [.frz (sq t (I xs)), .frz (sq o (T i rows))] ∧ Elm xs rows ∧ R (.fr (match elim xs rows with | none => .non | some fs => .tup (I fs)))
theorem l_coordinates : ∀ ss R, p_coordinates ss R → ss.length = 2 := by rintro ss R ⟨t, o, i, xs, rows, rfl, _⟩; rfl
def b0_coordinates : WS := (wSeq (wSet 5 (wCall p_pivot_of (wAn 4 wNil)))
      (wFrz 5 (wSeq (wSet 6 (w2 fdivF (rE (w2 ixF (rNm 2) (rNm 5))) (rE (w2 ixF (rNm 4) (rNm 5)))))
      (wSeq (wFrz 2 (wSet 2 (wCall p_row_difference (wAn 2 (wAe (wCall p_scaled_row (wAn 4 (wAn 6 wNil))) wNil)))))
      (wFrz 2 (wSeq (wIfS (tB' (w2 (eqF true) (rE (w2 ixF (rNm 2) (rNm 5))) (rE (wC (.int 0)))))
      (wRet (wC .non))
      wSkip)
      (wApp 3 (wNm 6))))))))
def w_coordinates : WS := (wSeq (wSet 2 (wCB tupF (wLc (rNm 0) wNil)))
      (wFrz 2 (wSeq (wSet 3 (wLst wNil))
      (wSeq (wFor (wWQB 1) (gN 4)
      b0_coordinates)
      (wSeq (wFrz 2 (wIfS (wNot (tB' (wCall p_is_zero_row (wAn 2 wNil))))
      (wRet (wC .non))
      wSkip))
      (wRet (wCB tupF (wLc (rNm 3) wNil))))))))
theorem h_coordinates : ∀ ss R, p_coordinates ss R → w_coordinates { nx := fun _ => R (.fr .non), rt := fun r _ => R r } (startS 7 ss) := by
  rintro ss R ⟨t, o, i, xs, rows, rfl, ⟨w, b, c, rfl, hw, hE, hn, hb, hc, hb0, hc0, hs⟩, h⟩
  cases t <;> cases o <;> walk_at "s" <;> (
    refine ⟨by decide, ?_⟩
    walk_at "s"
    refine forM_inv (L := rows) (fun k τ => ∃ (rest fs : List Int) (s0 s1 x y z : Option Sl), τ = [s0, s1, some (.frz (.tup (I rest))), some (.own (.lst (I fs))), x, y, z] ∧ rest.length = xs.length ∧ Bd (b + (c + 1) * k) rest ∧ fs.length = k ∧ elim xs rows = (elim rest (rows.drop k)).map (fs ++ ·))
      ⟨xs, [], _, _, _, _, _, rfl, rfl, hb, rfl, by rw [List.drop_zero]; cases elim xs rows <;> rfl⟩ ?_ ?_
    · rintro k l τ K hk ⟨rest, fs, s0, s1, x, y, z, rfl, hl, hr, hf, he⟩ hK
      obtain ⟨e1, e2, e3, e4, e5, e6, e7, e8, e9, e10⟩ := Elm.at hE hc hc0 hb0 hs hk hl hr
      have hkl : k < rows.length := (List.getElem?_eq_some_iff.mp hk).1
      walk_at "s"
      refine ⟨i, l, rfl, by omega, ?_⟩
      walk_at "s"
      refine ⟨_, atI_ints (atI_nat (gt_get (by omega))), ?_⟩
      cases i <;> walk_at "s" <;> (
        refine ⟨_, atI_ints (atI_nat (gt_get (by omega))), ?_⟩
        walk_at "s"
        refine ⟨e4, ?_⟩
        walk_at "s"
        first
          | refine ⟨false, l, _, rfl, by omega, e6, ?_⟩
          | refine ⟨true, l, _, rfl, by omega, e6, ?_⟩
        walk_at "s"
        refine ⟨rest, vmul (gt rest (piv l) / gt l (piv l)) l, rfl, by rw [len_vmul]; omega, by omega, ?_⟩
        walk_at "s"
        refine ⟨_, atI_ints (atI_nat (gt_get (by omega))), ?_⟩
        walk_at "s"
        have hg : gt (vsub rest (vmul (gt rest (piv l) / gt l (piv l)) l)) (piv l) = gt rest (piv l) - gt l (piv l) * (gt rest (piv l) / gt l (piv l)) := by
          rw [gt_vsub (by rw [len_vmul]; omega), gt_vmul]
        rw [drop_cons hk] at he
        refine ⟨fun hz => ?_, fun hz => ?_⟩
        · have hz' : ¬ gt (vsub rest (vmul (gt rest (piv l) / gt l (piv l)) l)) (piv l) = 0 := by simpa using hz
          rw [elim_no rfl (by rw [hg] at hz'; rw [Int.mul_comm]; omega)] at he
          rw [he] at h
          exact h
        · have hz' : gt (vsub rest (vmul (gt rest (piv l) / gt l (piv l)) l)) (piv l) = 0 := by simpa using hz
          walk_at "s"
          refine ⟨by rw [List.length_map]; omega, ?_⟩
          refine hK _ ⟨_, fs ++ [gt rest (piv l) / gt l (piv l)], _, _, _, _, _, by rw [I_snoc]; rfl, e10, e9, by simp [hf], ?_⟩
          rw [he, elim_yes rfl (by rw [hg] at hz'; rw [Int.mul_comm]; omega), Option.map_map]
          congr 1
          funext gs
          simp)
    · rintro τ ⟨rest, fs, s0, s1, x, y, z, rfl, hl, hr, hf, he⟩
      rw [List.drop_length, elim] at he
      walk_at "s"
      refine ⟨true, rest, rfl, ?_⟩
      walk_at "s"
      cases ez : zer rest with
      | false =>
        rw [ez] at he
        rw [he] at h
        exact ⟨fun _ => h, fun z => by cases z⟩
      | true =>
        rw [ez] at he
        refine ⟨fun z => (by cases z), fun _ => ?_⟩
        walk_at "s"
        rw [he] at h
        simp at h
        exact h)


theorem range_I {n : Nat} {g : Nat → Int} {xs : List Int} (hl : xs.length = n) (h : ∀ j, j < n → g j = gt xs j) : ((List.range n).map fun j => D.int (g j)) = I xs := by
  apply List.ext_getElem?
  intro j
  rw [List.getElem?_map, List.getElem?_map]
  by_cases hj : j < n
  · rw [List.getElem?_range hj, gt_get (by omega)]
    show some (D.int (g j)) = some (D.int (gt xs j))
    rw [h j hj]
  · rw [List.getElem?_eq_none (by simp; omega), List.getElem?_eq_none (by omega)]; rfl
def p__law_pivot : PSp := fun ss R => ∃ (t : Bool) (xs : List Int), ss = [.frz (sq t (I xs))] ∧ xs.length ≤ 1000000 ∧ R (.fr (.int (piv xs)))
theorem l__law_pivot : ∀ ss R, p__law_pivot ss R → ss.length = 1 := by rintro ss R ⟨t, xs, rfl, _⟩; rfl
def b0__law_pivot : WS := (wIfS (tB' (w2 (eqF true) (rE (w2 ixF (rNm 0) (rNm 1))) (rE (wC (.int 0)))))
      (wRetN 1)
      wSkip)
def w__law_pivot : WS := (wSeq (wFor (wWR1 (rE (wCB lenF (wLc (rNm 0) wNil)))) (gN 1)
      b0__law_pivot)
      (wRet (wCB lenF (wLc (rNm 0) wNil))))
theorem h__law_pivot : ∀ ss R, p__law_pivot ss R → w__law_pivot { nx := fun _ => R (.fr .non), rt := fun r _ => R r } (startS 2 ss) := by
  rintro ss R ⟨t, xs, rfl, hl, h⟩
  cases t <;> walk_at "s" <;> (
    rw [List.length_map]
    refine ⟨⟨by omega, by omega⟩, ?_⟩
    refine forR0_inv (fun i τ => ∃ c : Option Sl, τ = [some (.frz (sq _ (I xs))), c] ∧ i ≤ piv xs) ⟨_, rfl, by omega⟩ ?_ ?_
    · rintro i τ K hi ⟨c, rfl, hp⟩ hK
      walk_at "s"
      refine ⟨_, atI_ints (atI_nat (gt_get hi)), ?_⟩
      walk_at "s"
      refine ⟨fun hb => ?_, fun hb => ?_⟩
      · walk_at "s"
        have : piv xs = i := piv_eq (fun j hj => piv_zero xs j (by omega)) (by simpa using hb)
        rw [this] at h
        exact h
      · walk_at "s"
        refine hK _ ⟨_, rfl, ?_⟩
        have hz : gt xs i = 0 := by simpa using hb
        by_cases e : i = piv xs
        · subst e
          exact absurd hz (piv_nz xs hi)
        · omega
    · rintro τ ⟨c, rfl, hp⟩
      walk_at "s"
      rw [List.length_map]
      have := piv_le xs
      rw [show piv xs = xs.length from by omega] at h
      exact h)

def p__law_factors : PSp := fun ss R => ∃ (t o i : Bool) (xs : List Int) (rows : List (List Int)), ss = [.frz (sq t (I xs)), .frz (sq o (T i rows))] ∧ Elm xs rows ∧ R (match elim xs rows with | none => .fr .non | some fs => .nw (.lst (I fs)))
theorem l__law_factors : ∀ ss R, p__law_factors ss R → ss.length = 2 := by rintro ss R ⟨t, o, i, xs, rows, rfl, _⟩; rfl
def b0__law_factors : WS := (wSeq (wSet 5 (wCall p__law_pivot (wAn 4 wNil)))
      (wFrz 5 (wSeq (wSet 6 (w2 fdivF (rE (w2 ixF (rNm 2) (rNm 5))) (rE (w2 ixF (rNm 4) (rNm 5)))))
      (wSeq (wIfS (tB' (w2 (eqF true) (rE (w2 mulF (rNm 6) (rE (w2 ixF (rNm 4) (rNm 5))))) (rE (w2 ixF (rNm 2) (rNm 5)))))
      (wRet (wC .non))
      wSkip)
      (wSeq (wSet 2 (wLC (wWR1 (rE (wCB lenF (wLc (rNm 2) wNil)))) (gN 7) wYes (w2 subF (rE (w2 ixF (rNm 2) (rNm 7))) (rE (w2 mulF (rNm 6) (rE (w2 ixF (rNm 4) (rNm 7)))))) [7]))
      (wFrz 2 (wApp 3 (wNm 6))))))))
def w__law_factors : WS := (wSeq (wSet 2 (wCB listF (wLc (rNm 0) wNil)))
      (wFrz 2 (wSeq (wSet 3 (wLst wNil))
      (wSeq (wFor (wWQB 1) (gN 4)
      b0__law_factors)
      (wSeq (wFrz 2 (wIfS (tB' (w2 ltF (rE (wCall p__law_pivot (wAn 2 wNil))) (rE (wCB lenF (wLc (rNm 2) wNil)))))
      (wRet (wC .non))
      wSkip))
      (wRetN 3))))))
theorem h__law_factors : ∀ ss R, p__law_factors ss R → w__law_factors { nx := fun _ => R (.fr .non), rt := fun r _ => R r } (startS 8 ss) := by
  rintro ss R ⟨t, o, i, xs, rows, rfl, ⟨w, b, c, rfl, hw, hE, hn, hb, hc, hb0, hc0, hs⟩, h⟩
  cases t <;> cases o <;> walk_at "s" <;> (
    refine ⟨by decide, ?_⟩
    walk_at "s"
    refine forM_inv (L := rows) (fun k τ => ∃ (rest fs : List Int) (s0 s1 x y z u : Option Sl), τ = [s0, s1, some (.frz (.lst (I rest))), some (.own (.lst (I fs))), x, y, z, u] ∧ rest.length = xs.length ∧ Bd (b + (c + 1) * k) rest ∧ fs.length = k ∧ elim xs rows = (elim rest (rows.drop k)).map (fs ++ ·))
      ⟨xs, [], _, _, _, _, _, _, rfl, rfl, hb, rfl, by rw [List.drop_zero]; cases elim xs rows <;> rfl⟩ ?_ ?_
    · rintro k l τ K hk ⟨rest, fs, s0, s1, x, y, z, u, rfl, hl, hr, hf, he⟩ hK
      obtain ⟨e1, e2, e3, e4, e5, e6, e7, e8, e9, e10⟩ := Elm.at hE hc hc0 hb0 hs hk hl hr
      have hkl : k < rows.length := (List.getElem?_eq_some_iff.mp hk).1
      walk_at "s"
      refine ⟨i, l, rfl, by omega, ?_⟩
      walk_at "s"
      refine ⟨_, atI_ints (atI_nat (gt_get (by omega))), ?_⟩
      cases i <;> walk_at "s" <;> (
        refine ⟨_, atI_ints (atI_nat (gt_get (by omega))), ?_⟩
        walk_at "s"
        refine ⟨e4, ?_⟩
        walk_at "s"
        refine ⟨_, atI_ints (atI_nat (gt_get (by omega))), ?_⟩
        walk_at "s"
        refine ⟨e7, ?_⟩
        walk_at "s"
        refine ⟨_, atI_ints (atI_nat (gt_get (by omega))), ?_⟩
        walk_at "s"
        rw [drop_cons hk] at he
        refine ⟨fun hz => ?_, fun hz => ?_⟩
        · rw [elim_no rfl (by simpa using hz)] at he
          rw [he] at h
          exact h
        · have hz' : gt rest (piv l) / gt l (piv l) * gt l (piv l) = gt rest (piv l) := by simpa using hz
          walk_at "s"
          rw [List.length_map]
          refine ⟨⟨by omega, by omega⟩, ?_⟩
          refine comp_range0 (fun j => .int (gt rest j - gt rest (piv l) / gt l (piv l) * gt l j)) (fun j hj K k => ?_) (by omega) ?_
          · walk_at "s"
            refine ⟨fun _ => ?_, fun z => (by cases z)⟩
            walk_at "s"
            refine ⟨_, atI_ints (atI_nat (gt_get hj)), ?_⟩
            walk_at "s"
            refine ⟨_, atI_ints (atI_nat (gt_get (by omega))), ?_⟩
            walk_at "s"
            refine ⟨e8 _ (List.mem_of_getElem? (gt_get (by omega))), ?_⟩
            exact k
          · rw [range_I (xs := vsub rest (vmul (gt rest (piv l) / gt l (piv l)) l)) (by omega) fun j hj => by rw [gt_vsub (by rw [len_vmul]; omega), gt_vmul, Int.mul_comm]]
            walk_at "s"
            refine ⟨by rw [List.length_map]; omega, ?_⟩
            refine hK _ ⟨_, fs ++ [gt rest (piv l) / gt l (piv l)], _, _, _, _, _, _, by rw [I_snoc]; rfl, e10, e9, by simp [hf], ?_⟩
            rw [he, elim_yes rfl hz', Option.map_map]
            congr 1
            funext gs
            simp)
    · rintro τ ⟨rest, fs, s0, s1, x, y, z, u, rfl, hl, hr, hf, he⟩
      rw [List.drop_length, elim] at he
      walk_at "s"
      refine ⟨false, rest, rfl, by omega, ?_⟩
      walk_at "s"
      rw [List.length_map]
      cases ez : zer rest with
      | false =>
        rw [ez] at he
        rw [he] at h
        refine ⟨fun _ => h, fun z => ?_⟩
        have hp : ¬ piv rest < rest.length := by simpa using z
        rw [zer_piv.mpr hp] at ez
        cases ez
      | true =>
        have hp := zer_piv.mp ez
        rw [ez] at he
        refine ⟨fun z => ?_, fun _ => ?_⟩
        · have : piv rest < rest.length := by simpa using z
          exact absurd this hp
        · walk_at "s"
          rw [he] at h
          simp at h
          exact h)


/-! tables in their dress -/
theorem sq_len {i : Bool} {r : List Int} : lenF [sq i (I r)] = fun Q => Q (.fr (.int r.length)) := by
  funext Q
  cases i <;> (show Q _ = _; rw [List.length_map])
def p__law_dressed : PSp := fun ss R => ∃ (rows : List (List Int)) (w : Int), ss = [.frz (.lst (T false rows)), .frz (.int w)] ∧ rows.length ≤ 1000000 ∧ ∀ o i, R (.fr (sq o (T i rows)))
theorem l__law_dressed : ∀ ss R, p__law_dressed ss R → ss.length = 2 := by rintro ss R ⟨rows, w, rfl, _⟩; rfl
def w__law_dressed : WS := (wSeq (wSet 2 (wLC (wWQB 0) (gN 3) wYes (wCB listF (wLc (rNm 3) wNil)) [3]))
      (wFrz 2 (wSeq (wIfS (tB' (w2 (eqF false) (rE (w2 modF (rE (wCB intF1 (wLc (rNm 1) wNil))) (rE (wC (.int 2))))) (rE (wC (.int 1)))))
      (wSeq (wSet 2 (wLC (wWQB 0) (gN 3) wYes (wCB tupF (wLc (rNm 3) wNil)) [3]))
      (wFrz 2 wSkip))
      wSkip)
      (wSeq (wIfS (tB' (w2 geF (rNm 1) (rE (wC (.int 2)))))
      (wRet (wCB tupF (wLc (rNm 2) wNil)))
      wSkip)
      (wRetN 2)))))
theorem h__law_dressed : ∀ ss R, p__law_dressed ss R → w__law_dressed { nx := fun _ => R (.fr .non), rt := fun r _ => R r } (startS 4 ss) := by
  rintro ss R ⟨rows, w, rfl, hl, h⟩
  walk_at "s"
  refine comp_map (L := rows) (fun r => sq false (I r)) (fun r hr K k => ?_) (by omega) ?_
  · walk_at "s"
    exact ⟨fun _ => k, fun z => (by cases z)⟩
  · walk_at "s"
    refine ⟨by decide, ?_⟩
    walk_at "s"
    refine ⟨fun _ => ?_, fun _ => ?_⟩
    · walk_at "s"
      refine comp_map (L := rows) (fun r => sq true (I r)) (fun r hr K k => ?_) (by omega) ?_
      · walk_at "s"
        exact ⟨fun _ => k, fun z => (by cases z)⟩
      · walk_at "s"
        exact ⟨fun _ => h true true, fun _ => h false true⟩
    · walk_at "s"
      exact ⟨fun _ => h true false, fun _ => h false false⟩
def p__law_plain : PSp := fun ss R => ∃ (o i : Bool) (rows : List (List Int)), ss = [.frz (sq o (T i rows))] ∧ rows.length ≤ 1000000 ∧ R (.nw (.lst (T false rows)))
theorem l__law_plain : ∀ ss R, p__law_plain ss R → ss.length = 1 := by rintro ss R ⟨o, i, rows, rfl, _⟩; rfl
def w__law_plain : WS := (wRet (wLC (wWQB 0) (gN 1) wYes (wCB listF (wLc (rNm 1) wNil)) [1]))
theorem h__law_plain : ∀ ss R, p__law_plain ss R → w__law_plain { nx := fun _ => R (.fr .non), rt := fun r _ => R r } (startS 2 ss) := by
  rintro ss R ⟨o, i, rows, rfl, hl, h⟩
  cases o <;> walk_at "s" <;> (
    refine comp_map (L := rows) (fun r => sq false (I r)) (fun r hr K k => ?_) (by omega) ?_
    · cases i <;> walk_at "s" <;> exact ⟨fun _ => k, fun z => (by cases z)⟩
    · walk_at "s"
      exact h)
/-! a row is what is due -/
def p__law_whole : PSp := fun ss R => ∃ i : Int, ss = [.frz (.int i)] ∧ R (.fr (.bl true))
theorem l__law_whole : ∀ ss R, p__law_whole ss R → ss.length = 1 := by rintro ss R ⟨i, rfl, _⟩; rfl
def w__law_whole : WS := (wRet (wAndV (wIsi .int (rNm 0)) (wNotV (wIsi .bool (rNm 0)))))
theorem h__law_whole : ∀ ss R, p__law_whole ss R → w__law_whole { nx := fun _ => R (.fr .non), rt := fun r _ => R r } (startS 1 ss) := by
  rintro ss R ⟨i, rfl, h⟩
  walk_at "s"
  refine ⟨rfl, ?_⟩
  walk_at "s"
  refine ⟨fun _ => ?_, fun z => (by cases z)⟩
  walk_at "s"
  refine ⟨rfl, ?_⟩
  exact h
def p__law_same_row : PSp := fun ss R => ∃ xs : List Int, ss = [.frz (.tup (I xs)), .frz (.lst (I xs))] ∧ xs.length ≤ 1000000 ∧ R (.fr (.bl true))
theorem l__law_same_row : ∀ ss R, p__law_same_row ss R → ss.length = 2 := by rintro ss R ⟨xs, rfl, _⟩; rfl
def b0__law_same_row : WS := (wIfS (wOr (wNot (tB' (wCall p__law_whole (wAe (w2 ixF (rNm 0) (rNm 2)) wNil)))) (tB' (w2 (eqF true) (rE (w2 ixF (rNm 0) (rNm 2))) (rE (w2 ixF (rNm 1) (rNm 2))))))
      (wRet (wC (.bl false)))
      wSkip)
def w__law_same_row : WS := (wSeq (wIfS (wOr (wNot (tB' (wIsi .tuple (rNm 0)))) (tB' (w2 (eqF true) (rE (wCB lenF (wLc (rNm 0) wNil))) (rE (wCB lenF (wLc (rNm 1) wNil))))))
      (wRet (wC (.bl false)))
      wSkip)
      (wSeq (wFor (wWR1 (rE (wCB lenF (wLc (rNm 1) wNil)))) (gN 2)
      b0__law_same_row)
      (wRet (wC (.bl true)))))
theorem h__law_same_row : ∀ ss R, p__law_same_row ss R → w__law_same_row { nx := fun _ => R (.fr .non), rt := fun r _ => R r } (startS 3 ss) := by
  rintro ss R ⟨xs, rfl, hl, h⟩
  walk_at "s"
  refine ⟨rfl, ?_⟩
  walk_at "s"
  refine ⟨fun z => (by cases z), fun _ => ?_⟩
  walk_at "s"
  refine ⟨fun z => ?_, fun _ => ?_⟩
  · simp at z
  walk_at "s"
  rw [List.length_map]
  refine ⟨⟨by omega, by omega⟩, ?_⟩
  refine forR0_inv (fun k τ => ∃ c : Option Sl, τ = [some (.frz (.tup (I xs))), some (.frz (.lst (I xs))), c]) ⟨_, rfl⟩ ?_ ?_
  · rintro k τ K hk ⟨c, rfl⟩ hK
    walk_at "s"
    refine ⟨_, atI_ints (atI_nat (gt_get hk)), ?_⟩
    refine ⟨_, rfl, ?_⟩
    walk_at "s"
    refine ⟨fun z => (by cases z), fun _ => ?_⟩
    walk_at "s"
    refine ⟨_, atI_ints (atI_nat (gt_get hk)), ?_⟩
    walk_at "s"
    refine ⟨_, atI_ints (atI_nat (gt_get hk)), ?_⟩
    walk_at "s"
    refine ⟨fun z => ?_, fun _ => hK _ ⟨_, rfl⟩⟩
    simp at z
  · rintro τ ⟨c, rfl⟩
    exact h
/-! the question -/
def p__law_asked : PSp := fun ss R => ∃ (xs : List Int) (rows : List (List Int)) (way : Int) (due : D), ss = [.frz (.lst (I xs)), .frz (.lst (T false rows)), .frz due, .frz (.int way)] ∧ Elm xs rows ∧ (due = match elim xs rows with | none => .non | some fs => .lst (I fs)) ∧ R (.fr (.bl true))
theorem l__law_asked : ∀ ss R, p__law_asked ss R → ss.length = 4 := by rintro ss R ⟨xs, rows, way, due, rfl, _⟩; rfl
def w__law_asked : WS := (wSeq (wSet 4 (wCall p__law_dressed (wAn 1 (wAe (w2 modF (rE (wCB intF1 (wLc (rNm 3) wNil))) (rE (wC (.int 4)))) wNil))))
      (wFrz 4 (wSeq (wSet 5 (wCB listF (wLc (rNm 0) wNil)))
      (wFrz 5 (wSeq (wIfS (tB' (w2 geF (rNm 3) (rE (wC (.int 4)))))
      (wSeq (wSet 5 (wCB tupF (wLc (rNm 0) wNil)))
      (wFrz 5 wSkip))
      wSkip)
      (wSeq (wFrz 4 (wFrz 5 (wSet 6 (wCall p_coordinates (wAn 5 (wAn 4 wNil))))))
      (wFrz 6 (wSeq (wFrz 4 (wIfS (wOr (tB' (w2 (eqF true) (rE (wCB listF (wLc (rNm 5) wNil))) (rNm 0))) (tB' (w2 (eqF true) (rE (wCall p__law_plain (wAn 4 wNil))) (rNm 1))))
      (wRet (wC (.bl false)))
      wSkip))
      (wSeq (wIfS (tB' (w2 (isF false) (rNm 2) (rE (wC .non))))
      (wRet (w2 (isF false) (rNm 6) (rE (wC .non))))
      wSkip)
      (wFrz 6 (wRet (wCall p__law_same_row (wAn 6 (wAn 2 wNil))))))))))))))
theorem elim_len : ∀ {ls : List (List Int)} {r fs : List Int}, elim r ls = some fs → fs.length = ls.length
  | [], r, fs, h => by
    unfold elim at h
    split at h
    · cases h; rfl
    · cases h
  | l :: ls, r, fs, h => by
    unfold elim at h
    split at h
    · cases e : elim (vsub r (vmul (gt r (piv l) / gt l (piv l)) l)) ls with
      | none => rw [e] at h; cases h
      | some gs => rw [e] at h; cases h; simp [elim_len e]
    · cases h
theorem h__law_asked : ∀ ss R, p__law_asked ss R → w__law_asked { nx := fun _ => R (.fr .non), rt := fun r _ => R r } (startS 7 ss) := by
  rintro ss R ⟨xs, rows, way, due, rfl, hE, hd, h⟩
  have hE' := hE
  obtain ⟨w, b, c, hw, hw2, _, hn, _⟩ := hE'
  walk_at "s"
  refine ⟨by decide, ?_⟩
  walk_at "s"
  refine ⟨rows, _, rfl, by omega, fun o i => ?_⟩
  walk_at "s"
  have go : ∀ t : Bool, (wSeq (wFrz 4 (wFrz 5 (wSet 6 (wCall p_coordinates (wAn 5 (wAn 4 wNil))))))
      (wFrz 6 (wSeq (wFrz 4 (wIfS (wOr (tB' (w2 (eqF true) (rE (wCB listF (wLc (rNm 5) wNil))) (rNm 0))) (tB' (w2 (eqF true) (rE (wCall p__law_plain (wAn 4 wNil))) (rNm 1))))
      (wRet (wC (.bl false)))
      wSkip))
      (wSeq (wIfS (tB' (w2 (isF false) (rNm 2) (rE (wC .non))))
      (wRet (w2 (isF false) (rNm 6) (rE (wC .non))))
      wSkip)
      (wFrz 6 (wRet (wCall p__law_same_row (wAn 6 (wAn 2 wNil)))))))))
      { nx := fun _ => R (.fr .non), rt := fun r _ => R r } [some (.frz (.lst (I xs))), some (.frz (.lst (T false rows))), some (.frz due), some (.frz (.int way)), some (.frz (sq o (T i rows))), some (.frz (sq t (I xs))), none] := fun t => by
    walk_at "s"
    refine ⟨t, o, i, xs, rows, rfl, hE, ?_⟩
    have tail : ∀ s6 : D, (s6 = match elim xs rows with | none => .non | some fs => .tup (I fs)) → (wSeq (wIfS (tB' (w2 (isF false) (rNm 2) (rE (wC .non))))
      (wRet (w2 (isF false) (rNm 6) (rE (wC .non))))
      wSkip)
      (wFrz 6 (wRet (wCall p__law_same_row (wAn 6 (wAn 2 wNil)))))) { nx := fun _ => R (.fr .non), rt := fun r _ => R r } [some (.frz (.lst (I xs))), some (.frz (.lst (T false rows))), some (.frz due), some (.frz (.int way)), some (.frz (sq o (T i rows))), some (.frz (sq t (I xs))), some (.frz s6)] := fun s6 h6 => by
      cases e : elim xs rows with
      | none =>
        rw [e] at hd h6
        subst hd h6
        walk_at "s"
        exact ⟨fun _ => h, fun z => (by cases z)⟩
      | some fs =>
        rw [e] at hd h6
        subst hd h6
        have := elim_len e
        walk_at "s"
        refine ⟨fun z => (by cases z), fun _ => ?_⟩
        exact ⟨fs, rfl, by omega, h⟩
    cases t <;> walk_at "s" <;> (
      refine ⟨eqOk_I (t := false), eqOk_I (t := false), ?_⟩
      walk_at "s"
      refine ⟨fun z => row_self z, fun _ => ?_⟩
      walk_at "s"
      refine ⟨o, i, rows, rfl, by omega, ?_⟩
      walk_at "s"
      refine ⟨eqOk_T (o := false) (i := false), eqOk_T (o := false) (i := false), ?_⟩
      walk_at "s"
      refine ⟨fun z => tab_self z, fun _ => ?_⟩
      exact tail _ rfl)
  refine ⟨fun _ => ?_, fun _ => ?_⟩
  · exact go true
  · exact go false


/-- a basis: its form, its sizes -/
def Bas (w c : Nat) (rows : List (List Int)) : Prop := Ech w 0 rows ∧ w ≤ 1000 ∧ rows.length ≤ 1000 ∧ (∀ l ∈ rows, Bd c l) ∧ 0 < c ∧ 1000 + (c + 4) * (rows.length + 1) ≤ 8000
theorem Bas.elm {w c b : Nat} {rows : List (List Int)} {xs : List Int} (h : Bas w c rows) (hl : xs.length = w) (hb : Bd b xs) (h0 : 0 < b) (h1 : b ≤ 1000) : Elm xs rows := by
  obtain ⟨a1, a2, a3, a4, a5, a6⟩ := h
  refine ⟨w, b, c, hl, by omega, a1, by omega, hb, a4, h0, a5, ?_⟩
  have : (c + 1) * rows.length ≤ (c + 4) * (rows.length + 1) := Nat.mul_le_mul (by omega) (by omega)
  omega
theorem zeros_bd {n : Nat} : Bd 1 (List.replicate n 0) := fun x hx => by rw [(List.mem_replicate.mp hx).2]; decide
theorem gt_zeros {n j : Nat} : gt (List.replicate n (0 : Int)) j = 0 := by
  unfold gt
  rw [List.getD_eq_getElem?_getD, List.getElem?_replicate]
  split <;> rfl
theorem mem_len {w : Nat} : ∀ {p : Nat} {rows : List (List Int)}, Ech w p rows → ∀ l ∈ rows, l.length = w
  | _, [], _, l, h => by cases h
  | p, x :: rows, h, l, hl => by
    rcases List.mem_cons.mp hl with rfl | hl
    · exact h.1
    · exact mem_len h.piv.2.2.2.2.2 l hl
theorem zer_zeros {xs : List Int} : xs = List.replicate xs.length 0 ↔ zer xs = true := by
  rw [zer_iff]
  constructor
  · intro h j hj; rw [h, gt_zeros]
  · intro h
    refine gt_ext (by simp) fun j hj => ?_
    rw [h j hj, gt_zeros]
theorem I_zeros {α : Type} {xs : List α} : (xs.map fun _ => D.int 0) = I (List.replicate xs.length 0) := by
  rw [I, List.map_replicate, List.map_const']
theorem range_zeros {n : Nat} : ((List.range n).map fun _ => D.int 0) = I (List.replicate n 0) := by
  rw [I_zeros, List.length_range]
/-! nothing -/
def p__law_asked_nothing : PSp := fun ss R => ∃ (xs : List Int) (way : Int), ss = [.frz (.lst (I xs)), .frz (.int way)] ∧ xs.length ≤ 1000 ∧ Bd 100 xs ∧ R (.fr (.bl true))
theorem l__law_asked_nothing : ∀ ss R, p__law_asked_nothing ss R → ss.length = 2 := by rintro ss R ⟨xs, way, rfl, _⟩; rfl
def w__law_asked_nothing : WS := (wSeq (wSet 2 (wLC (wWQB 0) (gN 3) wYes (wC (.int 0)) [3]))
      (wFrz 2 (wSeq (wFrz 2 (wIfS (wOr (wNot (tB' (wCall p__law_asked (wAn 2 (wAe (wLst wNil) (wAe (wLst wNil) (wAn 1 wNil))))))) (wNot (tB' (wCall p__law_asked (wAe (wLst wNil) (wAe (wLst wNil) (wAe (wLst wNil) (wAn 1 wNil))))))))
      (wRet (wC (.bl false)))
      wSkip))
      (wRet (wOrV (w2 (eqF false) (rNm 0) (rNm 2)) (wCall p__law_asked (wAn 0 (wAe (wLst wNil) (wAe (wC .non) (wAn 1 wNil))))))))))
theorem bas_nil {w : Nat} (h : w ≤ 1000) : Bas w 1 [] := ⟨trivial, h, by simp, by simp, by decide, by simp⟩
theorem h__law_asked_nothing : ∀ ss R, p__law_asked_nothing ss R → w__law_asked_nothing { nx := fun _ => R (.fr .non), rt := fun r _ => R r } (startS 4 ss) := by
  rintro ss R ⟨xs, way, rfl, hl, hb, h⟩
  walk_at "s"
  refine comp_map (L := xs) (fun _ => .int 0) (fun x hx K k => ?_) (by omega) ?_
  · walk_at "s"
    exact ⟨fun _ => k, fun z => (by cases z)⟩
  rw [I_zeros]
  walk_at "s"
  refine ⟨by decide, ?_⟩
  walk_at "s"
  refine ⟨by decide, ?_⟩
  refine ⟨List.replicate xs.length 0, [], way, .lst (I []), rfl, (bas_nil (by simpa using hl)).elm rfl zeros_bd (by decide) (by decide), ?_, ?_⟩
  · rw [elim, if_pos (zer_iff.mpr fun j hj => gt_zeros)]
  walk_at "s"
  refine ⟨fun z => (by cases z), fun _ => ?_⟩
  walk_at "s"
  refine ⟨by decide, ?_⟩
  walk_at "s"
  refine ⟨by decide, ?_⟩
  walk_at "s"
  refine ⟨by decide, ?_⟩
  refine ⟨[], [], way, .lst (I []), rfl, (bas_nil (w := 0) (by decide)).elm rfl (b := 1) (fun x hx => by cases hx) (by decide) (by decide), rfl, ?_⟩
  walk_at "s"
  refine ⟨fun z => (by cases z), fun _ => ?_⟩
  walk_at "s"
  refine ⟨eqOk_I (t := false), eqOk_I (t := false), ?_⟩
  walk_at "s"
  refine ⟨fun _ => h, fun z => ?_⟩
  have z' : (false ^^ PyData.eqv (toPy (sq false (I xs))) (toPy (sq false (I (List.replicate xs.length 0))))) = false := z
  rw [eqv_I] at z'
  have z'' : ¬ xs = List.replicate xs.length 0 := by simpa using z'
  rw [zer_zeros] at z''
  walk_at "s"
  refine ⟨by decide, ?_⟩
  refine ⟨xs, [], way, .non, rfl, (bas_nil hl).elm rfl hb (by decide) (by decide), ?_, ?_⟩
  · rw [elim, if_neg z'']
  · exact h


/-! each row of the basis -/
def unit (n k : Nat) : List Int := (List.range n).map fun j => if j = k then 1 else 0
theorem gt_range {n j : Nat} {g : Nat → Int} (h : j < n) : gt ((List.range n).map g) j = g j := by
  unfold gt
  rw [List.getD_eq_getElem?_getD, List.getElem?_map, List.getElem?_range h]; rfl
theorem gt_out {xs : List Int} {j : Nat} (h : xs.length ≤ j) : gt xs j = 0 := by
  unfold gt; rw [List.getD_eq_getElem?_getD, List.getElem?_eq_none h]; rfl
/-- the sum by its places -/
theorem mixV_zero : ∀ {ls : List (List Int)} {fs : List Int} {j : Nat}, (∀ k, gt fs k = 0) → mixV ls fs j = 0
  | [], _, _, _ => by simp [mixV]
  | l :: ls, [], _, _ => by simp [mixV]
  | l :: ls, f :: fs, j, h => by
    have h0 : f = 0 := h 0
    unfold mixV
    rw [h0, mixV_zero fun k => h (k + 1)]; simp
theorem mixV_unit : ∀ {ls : List (List Int)} {fs : List Int} {j k : Nat} {l : List Int}, fs.length = ls.length → ls[k]? = some l → gt fs k = 1 → (∀ m, m ≠ k → gt fs m = 0) → mixV ls fs j = gt l j
  | [], _, _, _, _, _, h, _, _ => by simp at h
  | x :: ls, [], _, _, _, h, _, _, _ => by cases h
  | x :: ls, f :: fs, j, 0, l, hl, h, h1, h2 => by
    simp at h; subst h
    have h0 : f = 1 := h1
    unfold mixV
    rw [h0, mixV_zero fun k => h2 (k + 1) (by omega)]; simp
  | x :: ls, f :: fs, j, k + 1, l, hl, h, h1, h2 => by
    have h0 : f = 0 := h2 0 (by omega)
    unfold mixV
    rw [h0, mixV_unit (k := k) (by simpa using hl) (by simpa using h) h1 fun m hm => h2 (m + 1) (by omega)]; simp
theorem gt_unit {n k : Nat} (h : k < n) (m : Nat) : gt (unit n k) m = if m = k then 1 else 0 := by
  by_cases hm : m < n
  · exact gt_range hm
  · rw [gt_out (by simp [unit]; omega), if_neg (by omega)]
def p__law_asked_rows : PSp := fun ss R => ∃ (rows : List (List Int)) (w c : Nat) (way : Int), ss = [.frz (.lst (T false rows)), .frz (.int w), .frz (.int way)] ∧ Bas w c rows ∧ c ≤ 1000 ∧ R (.fr (.bl true))
theorem l__law_asked_rows : ∀ ss R, p__law_asked_rows ss R → ss.length = 3 := by rintro ss R ⟨rows, w, c, way, rfl, _⟩; rfl
def b0__law_asked_rows : WS := (wIfS (wAnd (tB' (w2 ltF (rE (wCB lenF (wLc (rNm 0) wNil))) (rE (wC (.int 7))))) (wNot (tB' (wCall p__law_asked (wAe (w2 ixF (rNm 0) (rNm 3)) (wAn 0 (wAe (wLC (wWR1 (rE (wCB lenF (wLc (rNm 0) wNil)))) (gN 4) wYes (wCB intF1 (wLc (rE (w2 (eqF false) (rNm 4) (rNm 3))) wNil)) [4]) (wAn 2 wNil))))))))
      (wRet (wC (.bl false)))
      wSkip)
def w__law_asked_rows : WS := (wSeq (wFor (wWR1 (rE (wCB lenF (wLc (rNm 0) wNil)))) (gN 3)
      b0__law_asked_rows)
      (wRet (wCall p__law_asked (wAe (wLC (wWR1 (rNm 1)) (gN 4) wYes (wC (.int 0)) [4]) (wAn 0 (wAe (wLC (wWQB 0) (gN 5) wYes (wC (.int 0)) [5]) (wAn 2 wNil)))))))
theorem atI_rows {i : Bool} {rows : List (List Int)} {k : Nat} {l : List Int} (h : rows[k]? = some l) : atI (T i rows) (k : Int) = some (sq i (I l)) := by
  refine atI_nat ?_
  rw [List.getElem?_map, h]; rfl
theorem h__law_asked_rows : ∀ ss R, p__law_asked_rows ss R → w__law_asked_rows { nx := fun _ => R (.fr .non), rt := fun r _ => R r } (startS 6 ss) := by
  rintro ss R ⟨rows, w, c, way, rfl, hB, hc, h⟩
  have hB' := hB
  obtain ⟨hE, hw, hn, hb, hc0, hs⟩ := hB'
  walk_at "s"
  rw [List.length_map]
  refine ⟨⟨by omega, by omega⟩, ?_⟩
  refine forR0_inv (fun k τ => ∃ x y z : Option Sl, τ = [some (.frz (.lst (T false rows))), some (.frz (.int w)), some (.frz (.int way)), x, y, z]) ⟨_, _, _, rfl⟩ ?_ ?_
  · rintro k τ K hk ⟨x, y, z, rfl⟩ hK
    obtain ⟨l, hl⟩ : ∃ l, rows[k]? = some l := ⟨_, List.getElem?_eq_getElem hk⟩
    have hll := mem_len hE l (List.mem_of_getElem? hl)
    walk_at "s"
    refine ⟨fun _ => ?_, fun _ => ?_⟩
    · walk_at "s"
      refine ⟨_, atI_rows hl, ?_⟩
      walk_at "s"
      rw [List.length_map]
      refine ⟨⟨by omega, by omega⟩, ?_⟩
      refine comp_range0 (fun j => .int (if j = k then 1 else 0)) (fun j hj K k' => ?_) (by omega) ?_
      · walk_at "s"
        refine ⟨fun _ => ?_, fun z => (by cases z)⟩
        by_cases e : j = k
        · subst e
          rw [if_pos rfl] at k'
          have e2 : (false ^^ decide ((j : Int) = (j : Int))) = true := by simp
          walk_at "s"
          show K (some (D.int (if (false ^^ decide ((j : Int) = (j : Int))) = true then 1 else 0)))
          rw [if_pos e2]
          exact k'
        · rw [if_neg e] at k'
          have e2 : ¬ (false ^^ decide ((j : Int) = (k : Int))) = true := by simp; omega
          walk_at "s"
          show K (some (D.int (if (false ^^ decide ((j : Int) = (k : Int))) = true then 1 else 0)))
          rw [if_neg e2]
          exact k'
      · rw [range_I (xs := unit rows.length k) (by simp [unit]) fun j hj => by rw [gt_unit hk]]
        refine ⟨l, rows, way, .lst (I (unit rows.length k)), rfl, hB.elm hll (hb l (List.mem_of_getElem? hl)) hc0 hc, ?_, ?_⟩
        · rw [elim_mix hE (fs := unit rows.length k) (by simp [unit]) hll fun j hj => (mixV_unit (by simp [unit]) hl (by rw [gt_unit hk, if_pos rfl]) fun m hm => by rw [gt_unit hk, if_neg hm]).symm]
        · walk_at "s"
          refine ⟨fun z => (by cases z), fun _ => ?_⟩
          exact hK _ ⟨_, _, _, rfl⟩
    · walk_at "s"
      exact ⟨fun z => (by cases z), fun _ => hK _ ⟨_, _, _, rfl⟩⟩
  · rintro τ ⟨x, y, z, rfl⟩
    walk_at "s"
    refine ⟨⟨by omega, by omega⟩, ?_⟩
    refine comp_range0 (fun j => .int 0) (fun j hj K k' => ?_) (by omega) ?_
    · walk_at "s"
      exact ⟨fun _ => k', fun z => (by cases z)⟩
    rw [range_zeros]
    walk_at "s"
    refine comp_map (L := rows) (fun _ => .int 0) (fun x hx K k => ?_) (by omega) ?_
    · walk_at "s"
      exact ⟨fun _ => k, fun z => (by cases z)⟩
    rw [I_zeros]
    refine ⟨List.replicate w 0, rows, way, .lst (I (List.replicate rows.length 0)), rfl, hB.elm (by simp) zeros_bd (by decide) (by decide), ?_, h⟩
    rw [elim_mix hE (fs := List.replicate rows.length 0) (by simp) (by simp) fun j hj => by rw [gt_zeros, mixV_zero fun k => gt_zeros]]
/-! the basis times a number -/
def p__law_asked_scaled : PSp := fun ss R => ∃ (xs : List Int) (rows : List (List Int)) (fs : List Int) (w c b : Nat) (s way : Int), ss = [.frz (.lst (I xs)), .frz (.lst (T false rows)), .frz (.lst (I fs)), .frz (.int s), .frz (.int way)] ∧ Bas w c rows ∧ xs.length = w ∧ Bd b xs ∧ 0 < b ∧ b ≤ 1000 ∧ c ≤ 1000 ∧
  fs.length = rows.length ∧ Bd 1000 fs ∧ (∀ j, j < w → gt xs j = mixV rows fs j) ∧ 0 < s ∧ s < 8 ∧ R (.fr (.bl true))
theorem l__law_asked_scaled : ∀ ss R, p__law_asked_scaled ss R → ss.length = 5 := by rintro ss R ⟨xs, rows, fs, w, c, b, s, way, rfl, _⟩; rfl
def b0__law_asked_scaled : WS := (wIfS (tB' (w2 (eqF true) (rE (w2 mulF (rE (w2 fdivF (rNm 5) (rNm 3))) (rNm 3))) (rNm 5)))
      (wSeq (wSet 6 (wC .non))
      (wFrz 6 wSkip))
      wSkip)
def w__law_asked_scaled : WS := (wSeq (wSet 6 (wLC (wWQB 2) (gN 5) wYes (w2 fdivF (rNm 5) (rNm 3)) [5]))
      (wFrz 6 (wSeq (wFor (wWQB 2) (gN 5)
      b0__law_asked_scaled)
      (wFrz 6 (wRet (wCall p__law_asked (wAn 0 (wAe (wLC (wWQB 1) (gN 7) wYes (wLC (wWQB 7) (gN 8) wYes (w2 mulF (rNm 3) (rNm 8)) [8]) [7]) (wAn 6 (wAn 4 wNil))))))))))
def dueS (s : Int) (fs all : List Int) : D := if fs.all (fun f => decide (f / s * s = f)) = true then .lst (I (all.map fun f => f / s)) else .non
theorem h__law_asked_scaled : ∀ ss R, p__law_asked_scaled ss R → w__law_asked_scaled { nx := fun _ => R (.fr .non), rt := fun r _ => R r } (startS 9 ss) := by
  rintro ss R ⟨xs, rows, fs, w, c, b, s, way, rfl, hB, hx, hb, hb0, hb1, hc1, hf, hfb, hm, hs0, hs1, h⟩
  have hB' := hB
  obtain ⟨hE, hw, hn, hbb, hc0, hs⟩ := hB'
  walk_at "s"
  refine comp_map (L := fs) (fun f => .int (f / s)) (fun f hf' K k => ?_) (by omega) ?_
  · walk_at "s"
    refine ⟨fun _ => ?_, fun z => (by cases z)⟩
    exact ⟨div_ok hs0 (by omega), k⟩
  rw [show (fs.map fun f => D.int (f / s)) = I (fs.map fun f => f / s) from by simp [I]]
  walk_at "s"
  have tail : ∀ (v x : Option Sl), (wFrz 6 (wRet (wCall p__law_asked (wAn 0 (wAe (wLC (wWQB 1) (gN 7) wYes (wLC (wWQB 7) (gN 8) wYes (w2 mulF (rNm 3) (rNm 8)) [8]) [7]) (wAn 6 (wAn 4 wNil))))))) { nx := fun _ => R (.fr .non), rt := fun r _ => R r }
      [some (.frz (.lst (I xs))), some (.frz (.lst (T false rows))), some (.frz (.lst (I fs))), some (.frz (.int s)), some (.frz (.int way)), v, some (.frz (dueS s fs fs)), x, none] := fun v x => by
    walk_at "s"
    refine comp_map (L := rows) (fun l => sq false (I (l.map fun x => s * x))) (fun l hl K k => ?_) (by omega) ?_
    · walk_at "s"
      refine ⟨fun _ => ?_, fun z => (by cases z)⟩
      walk_at "s"
      refine comp_map (L := l) (fun x => .int (s * x)) (fun x hx K k => ?_) (by have := mem_len hE l hl; omega) ?_
      · walk_at "s"
        refine ⟨fun _ => ?_, fun z => (by cases z)⟩
        exact ⟨mulx_ok (a := 4) (b := c) (by omega) (hbb l hl x hx) (by omega), k⟩
      · rw [show (l.map fun x => D.int (s * x)) = I (l.map fun x => s * x) from by simp [I]]
        exact k
    · rw [show (rows.map fun l => sq false (I (l.map fun x => s * x))) = T false (rows.map fun l => l.map fun x => s * x) from by simp [T, Function.comp_def]]
      refine ⟨xs, rows.map fun l => l.map fun x => s * x, way, dueS s fs fs, ?_, ?_, ?_, h⟩
      · unfold dueS
        split <;> rfl
      · refine ⟨w, b, c + 3, hx, by omega, hE.scale hs0, by simp; omega, hb, ?_, hb0, by omega, ?_⟩
        · intro l hl
          obtain ⟨l', hl', rfl⟩ := List.mem_map.mp hl
          intro x hx
          obtain ⟨x', hx', rfl⟩ := List.mem_map.mp hx
          have := wide_lt (i := x') (j := s) (a := c) (b := 3) (hbb l' hl' x' hx') (by omega)
          rw [Int.mul_comm]; exact this
        · rw [List.length_map]
          have : (c + 3 + 1) * rows.length ≤ (c + 4) * (rows.length + 1) := Nat.mul_le_mul (by omega) (by omega)
          omega
      · rw [elim_scaled hE hf hx hs0 hm]
        unfold dueS
        split <;> rfl
  refine forM_inv (L := fs) (fun k τ => ∃ v x : Option Sl, τ = [some (.frz (.lst (I xs))), some (.frz (.lst (T false rows))), some (.frz (.lst (I fs))), some (.frz (.int s)), some (.frz (.int way)), v, some (.frz (dueS s (fs.take k) fs)), x, none]) ⟨_, _, rfl⟩ ?_ ?_
  · rintro k f τ K hk ⟨v, x, rfl⟩ hK
    have hfm := List.mem_of_getElem? hk
    walk_at "s"
    refine ⟨div_ok hs0 (by omega), ?_⟩
    walk_at "s"
    refine ⟨mulx_ok (a := 1000) (b := 4) (Nat.lt_of_le_of_lt (abs_ediv hs0) (hfb f hfm)) (by omega) (by decide), ?_⟩
    walk_at "s"
    have ht : dueS s (fs.take (k + 1)) fs = if f / s * s = f then dueS s (fs.take k) fs else .non := by
      unfold dueS
      rw [take_snoc hk, List.all_append]
      by_cases e : f / s * s = f
      · simp [e]
      · simp [e]
    refine ⟨fun z => ?_, fun z => ?_⟩
    · have z' : ¬ f / s * s = f := by simpa using z
      rw [if_neg z'] at ht
      exact hK _ ⟨_, _, by rw [ht]; rfl⟩
    · have z' : f / s * s = f := by simpa using z
      rw [if_pos z'] at ht
      exact hK _ ⟨_, _, by rw [ht]; rfl⟩
  · rintro τ ⟨v, x, rfl⟩
    rw [List.take_length]
    exact tail v x


/-! one item shifted -/
theorem Ech.uniq {w : Nat} : ∀ {p : Nat} {rows : List (List Int)} {l l' : List Int}, Ech w p rows → l ∈ rows → l' ∈ rows → Law.piv l = Law.piv l' → l = l'
  | _, [], _, _, _, h, _, _ => by cases h
  | p, x :: rows, l, l', h, h1, h2, e => by
    have low : ∀ {q : Nat} {rs : List (List Int)} {m : List Int}, Ech w q rs → m ∈ rs → q ≤ Law.piv m := by
      intro q rs
      induction rs generalizing q with
      | nil => intro m _ hm; cases hm
      | cons r rs ih =>
        intro m hE hm
        have hp := hE.piv
        rcases List.mem_cons.mp hm with rfl | hm
        · exact hp.2.1
        · have := ih hp.2.2.2.2.2 hm
          have := hp.2.1
          omega
    have hp := h.piv
    rcases List.mem_cons.mp h1 with q1 | h1'
    · subst q1
      rcases List.mem_cons.mp h2 with q2 | h2'
      · exact q2.symm
      · have := low hp.2.2.2.2.2 h2'; omega
    · rcases List.mem_cons.mp h2 with q2 | h2'
      · subst q2
        have := low hp.2.2.2.2.2 h1'; omega
      · exact Ech.uniq hp.2.2.2.2.2 h1' h2' e
theorem Ech.pos {w : Nat} : ∀ {p : Nat} {rows : List (List Int)} {l : List Int}, Ech w p rows → l ∈ rows → 0 < gt l (Law.piv l) ∧ Law.piv l < w
  | _, [], _, _, h => by cases h
  | p, x :: rows, l, h, h1 => by
    have hp := h.piv
    rcases List.mem_cons.mp h1 with rfl | h1
    · exact ⟨hp.2.2.2.2.1, hp.2.2.1⟩
    · exact Ech.pos hp.2.2.2.2.2 h1
def p__law_shift : PSp := fun ss R => ∃ (rows : List (List Int)) (w p a : Nat) (st : Int), ss = [.frz (.lst (T false rows)), .frz (.int a), .frz (.int st)] ∧ Ech w p rows ∧ w ≤ 1000 ∧ a < w ∧ 0 ≤ st ∧
  ∀ (s : Int) (b : Bool), 1 ≤ s → s ≤ 1 + st → (b = true → ∀ l ∈ rows, piv l = a → s < gt l a) → R (.nw (.lst [.int s, .bl b]))
theorem l__law_shift : ∀ ss R, p__law_shift ss R → ss.length = 3 := by rintro ss R ⟨rows, w, p, a, st, rfl, _⟩; rfl
def b0__law_shift : WS := (wSeq (wIfS (wAnd (tB' (w2 (eqF false) (rE (wCall p__law_pivot (wAn 3 wNil))) (rNm 1))) (tB' (w2 gtF (rE (w2 ixF (rNm 3) (rNm 1))) (rE (wC (.int 1))))))
      (wRet (wLst (wIc (w2 addF (rE (wC (.int 1))) (rE (w2 modF (rE (wCB intF1 (wLc (rNm 2) wNil))) (rE (w2 subF (rE (w2 ixF (rNm 3) (rNm 1))) (rE (wC (.int 1)))))))) (wIc (wC (.bl true)) wNil))))
      wSkip)
      (wIfS (tB' (w2 (eqF false) (rE (wCall p__law_pivot (wAn 3 wNil))) (rNm 1)))
      (wRet (wLst (wIc (w2 addF (rE (wC (.int 1))) (rNm 2)) (wIc (wC (.bl false)) wNil))))
      wSkip))
def w__law_shift : WS := (wSeq (wFor (wWQB 0) (gN 3)
      b0__law_shift)
      (wRet (wLst (wIc (w2 addF (rE (wC (.int 1))) (rNm 2)) (wIc (wC (.bl true)) wNil)))))
theorem h__law_shift : ∀ ss R, p__law_shift ss R → w__law_shift { nx := fun _ => R (.fr .non), rt := fun r _ => R r } (startS 4 ss) := by
  rintro ss R ⟨rows, w, p, a, st, rfl, hE, hw, ha, hst, h⟩
  walk_at "s"
  refine forM_inv (L := rows) (fun k τ => (∃ x : Option Sl, τ = [some (.frz (.lst (T false rows))), some (.frz (.int a)), some (.frz (.int st)), x]) ∧ ∀ l ∈ rows.take k, piv l ≠ a) ⟨⟨_, rfl⟩, by simp⟩ ?_ ?_
  · rintro k l τ K hk ⟨⟨x, rfl⟩, hn⟩ hK
    have hm := List.mem_of_getElem? hk
    have hl := mem_len hE l hm
    obtain ⟨hp, _⟩ := hE.pos hm
    walk_at "s"
    refine ⟨false, l, rfl, by omega, ?_⟩
    walk_at "s"
    refine ⟨fun z => ?_, fun z => ?_⟩
    · have z' : piv l = a := by
        have : (piv l : Int) = (a : Int) := by simpa using z
        omega
      have hp' : 0 < gt l a := z' ▸ hp
      walk_at "s"
      refine ⟨_, atI_ints (atI_nat (gt_get (by omega))), ?_⟩
      walk_at "s"
      refine ⟨fun z2 => ?_, fun z2 => ?_⟩
      · have z2' : 1 < gt l a := of_decide_eq_true z2
        walk_at "s"
        refine ⟨_, atI_ints (atI_nat (gt_get (by omega))), ?_⟩
        walk_at "s"
        refine ⟨by omega, ?_⟩
        have m0 := Int.emod_nonneg st (b := gt l a - 1) (by omega)
        have m1 := Int.emod_lt_of_pos st (b := gt l a - 1) (by omega)
        have m2 : st % (gt l a - 1) ≤ st := by
          have := Int.emod_add_mul_ediv st (gt l a - 1)
          have q := Int.ediv_nonneg hst (b := gt l a - 1) (by omega)
          have := Int.mul_nonneg (show 0 ≤ gt l a - 1 by omega) q
          omega
        walk_at "s"
        refine ⟨Nat.le_of_ble_eq_true rfl, ?_⟩
        refine h (1 + st % (gt l a - 1)) true (by omega) (by omega) fun _ l' hl' e => ?_
        have := hE.uniq hl' hm (e.trans z'.symm)
        subst this
        omega
      · have z2' : ¬ 1 < gt l a := of_decide_eq_false z2
        walk_at "s"
        refine ⟨false, l, rfl, by omega, ?_⟩
        walk_at "s"
        refine ⟨fun _ => ?_, fun z3 => ?_⟩
        · walk_at "s"
          refine ⟨Nat.le_of_ble_eq_true rfl, ?_⟩
          exact h (1 + st) false (by omega) (by omega) fun e => by cases e
        · have : ¬ (piv l : Int) = (a : Int) := by simpa using z3
          omega
    · have z' : ¬ piv l = a := by
        have : ¬ (piv l : Int) = (a : Int) := by simpa using z
        omega
      walk_at "s"
      refine ⟨fun z => (by cases z), fun _ => ?_⟩
      walk_at "s"
      refine ⟨false, l, rfl, by omega, ?_⟩
      walk_at "s"
      refine ⟨fun z3 => ?_, fun z3 => ?_⟩
      · have : (piv l : Int) = (a : Int) := by simpa using z3
        omega
      · refine hK _ ⟨⟨_, rfl⟩, fun m hm => ?_⟩
        rw [take_snoc hk] at hm
        rcases List.mem_append.mp hm with hm | hm
        · exact hn m hm
        · simp at hm; subst hm; exact z'
  · rintro τ ⟨⟨x, rfl⟩, hn⟩
    rw [List.take_length] at hn
    walk_at "s"
    refine ⟨Nat.le_of_ble_eq_true rfl, ?_⟩
    exact h (1 + st) true (by omega) (by omega) fun _ l hl e => absurd e (hn l hl)
theorem gt_set {xs : List Int} {a j : Nat} {v : Int} (ha : a < xs.length) : gt (xs.set a v) j = if j = a then v else gt xs j := by
  unfold gt
  rw [List.getD_eq_getElem?_getD, List.getD_eq_getElem?_getD]
  by_cases e : j = a
  · subst e; rw [List.getElem?_set_self ha, if_pos rfl]; rfl
  · rw [List.getElem?_set_ne (Ne.symm e), if_neg e]
def p__law_asked_shifted : PSp := fun ss R => ∃ (xs : List Int) (rows : List (List Int)) (fs ds : List Int) (w c b : Nat) (st : Int), ss = [.frz (.lst (I xs)), .frz (.lst (T false rows)), .frz (.lst (I ds)), .frz (.int st)] ∧ Bas w c rows ∧ xs.length = w ∧ Bd b xs ∧ 100 ≤ b ∧ b ≤ 900 ∧
  fs.length = rows.length ∧ (∀ j, j < w → gt xs j = mixV rows fs j) ∧ ds.length = 13 ∧ (gt ds 9 = 0 ∨ gt ds 9 = 1) ∧ 0 ≤ gt ds 4 ∧ 0 ≤ st ∧ st < 18446744073709551616 ∧ R (.fr (.bl true))
theorem l__law_asked_shifted : ∀ ss R, p__law_asked_shifted ss R → ss.length = 4 := by rintro ss R ⟨xs, rows, fs, ds, w, c, b, st, rfl, _⟩; rfl
def w__law_asked_shifted : WS := (wSeq (wIfS (tB' (w2 (eqF false) (rE (wCB lenF (wLc (rNm 0) wNil))) (rE (wC (.int 0)))))
      (wRet (wC (.bl true)))
      wSkip)
      (wSeq (wSet 4 (w2 modF (rE (wCB intF1 (wLc (rE (w2 ixF (rNm 2) (rE (wC (.int 4))))) wNil))) (rE (wCB lenF (wLc (rNm 0) wNil)))))
      (wSeq (wSet 5 (wCall p__law_shift (wAn 1 (wAn 4 (wAn 3 wNil)))))
      (wFrz 5 (wSeq (wSet 6 (wCB listF (wLc (rNm 0) wNil)))
      (wSeq (wSub 6 (rNm 4) (w2 addF (rE (w2 ixF (rNm 6) (rNm 4))) (rE (w2 mulF (rE (w2 ixF (rE (wLst (wIc (wC (.int 1)) (wIc (w1 negF (rE (wC (.int 1)))) wNil)))) (rE (w2 ixF (rNm 2) (rE (wC (.int 9))))))) (rE (w2 ixF (rNm 5) (rE (wC (.int 0)))))))))
      (wSeq (wSet 7 (wC .non))
      (wFrz 7 (wSeq (wIfS (wNot (tB' (w2 ixF (rNm 5) (rE (wC (.int 1))))))
      (wSeq (wFrz 6 (wSet 7 (wCall p__law_factors (wAn 6 (wAn 1 wNil)))))
      (wFrz 7 wSkip))
      wSkip)
      (wFrz 7 (wFrz 6 (wRet (wCall p__law_asked (wAn 6 (wAn 1 (wAn 7 (wAe (w2 ixF (rNm 2) (rE (wC (.int 3)))) wNil)))))))))))))))))
theorem h__law_asked_shifted : ∀ ss R, p__law_asked_shifted ss R → w__law_asked_shifted { nx := fun _ => R (.fr .non), rt := fun r _ => R r } (startS 8 ss) := by
  rintro ss R ⟨xs, rows, fs, ds, w, c, b, st, rfl, hB, hx, hb, hb0, hb1, hf, hm, hds, hd9, hd4, hst, hst1, h⟩
  have hB' := hB
  obtain ⟨hE, hw, hn, hbb, hc0, hs⟩ := hB'
  walk_at "s"
  rw [List.length_map]
  refine ⟨fun _ => h, fun z => ?_⟩
  have hx0 : 0 < xs.length := by
    have : ¬ (xs.length : Int) = 0 := by simpa using z
    omega
  walk_at "s"
  refine ⟨_, atI_ints (atI_nat (j := 4) (gt_get (by omega))), ?_⟩
  walk_at "s"
  rw [List.length_map]
  refine ⟨by omega, ?_⟩
  have a0 := Int.emod_nonneg (gt ds 4) (b := (xs.length : Int)) (by omega)
  have a1 := Int.emod_lt_of_pos (gt ds 4) (b := (xs.length : Int)) (by omega)
  obtain ⟨a, ha⟩ : ∃ a : Nat, gt ds 4 % (xs.length : Int) = (a : Int) := ⟨(gt ds 4 % (xs.length : Int)).toNat, by omega⟩
  rw [ha]
  have hal : a < xs.length := by omega
  walk_at "s"
  refine ⟨rows, w, 0, a, st, rfl, hE, hw, by omega, hst, fun s bb hs1 hs2 hsb => ?_⟩
  walk_at "s"
  refine ⟨_, atI_ints (atI_nat (gt_get hal)), ?_⟩
  walk_at "s"
  refine ⟨by decide, ?_⟩
  walk_at "s"
  refine ⟨_, atI_ints (atI_nat (j := 9) (gt_get (by omega))), ?_⟩
  have go : ∀ sg : Int, (sg = 1 ∨ sg = -1) → ∀ x : Option Sl, (wSeq (wSet 7 (wC .non))
      (wFrz 7 (wSeq (wIfS (wNot (tB' (w2 ixF (rNm 5) (rE (wC (.int 1))))))
      (wSeq (wFrz 6 (wSet 7 (wCall p__law_factors (wAn 6 (wAn 1 wNil)))))
      (wFrz 7 wSkip))
      wSkip)
      (wFrz 7 (wFrz 6 (wRet (wCall p__law_asked (wAn 6 (wAn 1 (wAn 7 (wAe (w2 ixF (rNm 2) (rE (wC (.int 3)))) wNil)))))))))))
      { nx := fun _ => R (.fr .non), rt := fun r _ => R r } [some (.frz (.lst (I xs))), some (.frz (.lst (T false rows))), some (.frz (.lst (I ds))), some (.frz (.int st)), some (.frz (.int a)), some (.frz (.lst [.int s, .bl bb])), some (.own (.lst (I (xs.set a (gt xs a + sg * s))))), x] := fun sg hsg x => by
    have hsn : (sg * s).natAbs < 2 ^ 65 := by rcases hsg with rfl | rfl <;> omega
    have hbd : Bd (b + 1) (xs.set a (gt xs a + sg * s)) := fun y hy => by
      have h65 : 2 ^ 65 ≤ 2 ^ b := Nat.pow_le_pow_right (by decide) (by omega)
      have hpb : 2 ^ (b + 1) = 2 ^ b * 2 := Nat.pow_succ ..
      rcases List.mem_or_eq_of_mem_set hy with hy | rfl
      · have := hb y hy; omega
      · have := hb.gt a; omega
    have hE2 : Elm (xs.set a (gt xs a + sg * s)) rows := hB.elm (by simpa using hx) hbd (by omega) (by omega)
    have fin : ∀ due : D, (due = match elim (xs.set a (gt xs a + sg * s)) rows with | none => .non | some fs => .lst (I fs)) → (wFrz 7 (wFrz 6 (wRet (wCall p__law_asked (wAn 6 (wAn 1 (wAn 7 (wAe (w2 ixF (rNm 2) (rE (wC (.int 3)))) wNil))))))))
      { nx := fun _ => R (.fr .non), rt := fun r _ => R r } [some (.frz (.lst (I xs))), some (.frz (.lst (T false rows))), some (.frz (.lst (I ds))), some (.frz (.int st)), some (.frz (.int a)), some (.frz (.lst [.int s, .bl bb])), some (.own (.lst (I (xs.set a (gt xs a + sg * s))))), some (.frz due)] := fun due hdue => by
      walk_at "s"
      refine ⟨_, atI_ints (atI_nat (j := 3) (gt_get (by omega))), ?_⟩
      exact ⟨_, rows, _, due, rfl, hE2, hdue, h⟩
    have fin2 : ∀ due : D, (due = match elim (xs.set a (gt xs a + sg * s)) rows with | none => .non | some fs => .lst (I fs)) → (wFrz 7 (wFrz 6 (wRet (wCall p__law_asked (wAn 6 (wAn 1 (wAn 7 (wAe (w2 ixF (rNm 2) (rE (wC (.int 3)))) wNil))))))))
      { nx := fun _ => R (.fr .non), rt := fun r _ => R r } [some (.frz (.lst (I xs))), some (.frz (.lst (T false rows))), some (.frz (.lst (I ds))), some (.frz (.int st)), some (.frz (.int a)), some (.frz (.lst [.int s, .bl bb])), some (.frz (.lst (I (xs.set a (gt xs a + sg * s))))), some (.frz due)] := fun due hdue => by
      walk_at "s"
      refine ⟨_, atI_ints (atI_nat (j := 3) (gt_get (by omega))), ?_⟩
      exact ⟨_, rows, _, due, rfl, hE2, hdue, h⟩
    walk_at "s"
    refine ⟨_, rfl, ?_⟩
    cases bb with
    | true =>
      walk_at "s"
      refine ⟨fun z => (by cases z), fun _ => ?_⟩
      refine fin .non ?_
      rw [elim_shift (fs := fs) (at_ := a) (s := sg * s) hE hf (by simpa using hx) (by omega) (by rcases hsg with rfl | rfl <;> omega) (fun j hj => by
        rw [gt_set hal]
        by_cases e : j = a
        · subst e; rw [if_pos rfl, if_pos rfl, hm _ hj]
        · rw [if_neg e, if_neg e, hm j hj]; omega) fun l hl hp f e => ?_]
      have h1 := hsb rfl l hl hp
      have h2 := (hE.pos hl).1
      rw [hp] at h2
      have h3 : f = 0 ∨ 1 ≤ f ∨ f ≤ -1 := by omega
      rcases h3 with rfl | h3 | h3
      · rcases hsg with rfl | rfl <;> omega
      · have := Int.mul_le_mul_of_nonneg_right h3 (Int.le_of_lt h2)
        rcases hsg with rfl | rfl <;> omega
      · have := Int.mul_le_mul_of_nonneg_right h3 (Int.le_of_lt h2)
        rcases hsg with rfl | rfl <;> omega
    | false =>
      walk_at "s"
      refine ⟨fun _ => ?_, fun z => (by cases z)⟩
      walk_at "s"
      refine ⟨false, false, false, _, rows, rfl, hE2, ?_⟩
      cases e : elim (xs.set a (gt xs a + sg * s)) rows with
      | none => exact fin2 .non (by rw [e])
      | some gs => exact fin2 (.lst (I gs)) (by rw [e])
  have hset : ∀ sg : Int, List.set (I xs) a (D.int (gt xs a + sg * s)) = I (xs.set a (gt xs a + sg * s)) := fun sg => by rw [I, I, List.map_set]
  rcases hd9 with hd9 | hd9 <;> rw [hd9]
  · refine ⟨_, rfl, ?_⟩
    walk_at "s"
    refine ⟨_, rfl, ?_⟩
    refine ⟨mulx_ok (a := 2) (b := 66) (by decide) (by omega) (by decide), ?_⟩
    walk_at "s"
    refine ⟨a, by rw [List.length_map]; exact ixN_nat' hal, ?_⟩
    have := go 1 (.inl rfl) none
    rw [← hset] at this
    exact this
  · refine ⟨_, rfl, ?_⟩
    walk_at "s"
    refine ⟨_, rfl, ?_⟩
    refine ⟨mulx_ok (a := 2) (b := 66) (by decide) (by omega) (by decide), ?_⟩
    walk_at "s"
    refine ⟨a, by rw [List.length_map]; exact ixN_nat' hal, ?_⟩
    have := go (-1) (.inr rfl) none
    rw [← hset] at this
    exact this


/-! sums of multiples, factors -/
theorem mixV_snoc : ∀ {ls : List (List Int)} {fs : List Int} {l : List Int} {f : Int} {j : Nat}, fs.length = ls.length → mixV (ls ++ [l]) (fs ++ [f]) j = mixV ls fs j + f * gt l j
  | [], [], l, f, j, _ => by simp [mixV]
  | [], _ :: _, _, _, _, h => by cases h
  | _ :: _, [], _, _, _, h => by cases h
  | x :: ls, g :: fs, l, f, j, h => by
    show g * gt x j + mixV (ls ++ [l]) (fs ++ [f]) j = g * gt x j + mixV ls fs j + f * gt l j
    rw [mixV_snoc (by simpa using h)]; omega
def p__law_mixture : PSp := fun ss R => ∃ (rows : List (List Int)) (fs : List Int) (w c cf : Nat), ss = [.frz (.lst (T false rows)), .frz (.lst (I fs)), .frz (.int w)] ∧ w ≤ 1000 ∧ rows.length ≤ 1000 ∧ fs.length = rows.length ∧ (∀ l ∈ rows, l.length = w) ∧ (∀ l ∈ rows, Bd c l) ∧ Bd cf fs ∧ 0 < c ∧ c ≤ 1000 ∧ cf ≤ 1000 ∧
  ∀ xs : List Int, xs.length = w → (∀ j, j < w → gt xs j = mixV rows fs j) → Bd (cf + c + rows.length) xs → R (.fr (.lst (I xs)))
theorem l__law_mixture : ∀ ss R, p__law_mixture ss R → ss.length = 3 := by rintro ss R ⟨rows, fs, w, c, cf, rfl, _⟩; rfl
def b0__law_mixture : WS := (wSeq (wSet 3 (wLC (wWR1 (rNm 2)) (gN 5) wYes (w2 addF (rE (w2 ixF (rNm 3) (rNm 5))) (rE (w2 mulF (rE (w2 ixF (rNm 1) (rNm 4))) (rE (w2 ixF (rE (w2 ixF (rNm 0) (rNm 4))) (rNm 5)))))) [5]))
      (wFrz 3 wSkip))
def w__law_mixture : WS := (wSeq (wSet 3 (wLC (wWR1 (rNm 2)) (gN 5) wYes (wC (.int 0)) [5]))
      (wFrz 3 (wSeq (wFor (wWR1 (rE (wCB lenF (wLc (rNm 0) wNil)))) (gN 4)
      b0__law_mixture)
      (wRetN 3))))
theorem h__law_mixture : ∀ ss R, p__law_mixture ss R → w__law_mixture { nx := fun _ => R (.fr .non), rt := fun r _ => R r } (startS 6 ss) := by
  rintro ss R ⟨rows, fs, w, c, cf, rfl, hw, hn, hf, hl, hb, hfb, hc0, hc1, hc2, h⟩
  walk_at "s"
  refine ⟨⟨by omega, by omega⟩, ?_⟩
  refine comp_range0 (fun j => .int 0) (fun j hj K k' => ?_) (by omega) ?_
  · walk_at "s"
    exact ⟨fun _ => k', fun z => (by cases z)⟩
  rw [range_zeros]
  walk_at "s"
  rw [List.length_map]
  refine ⟨⟨by omega, by omega⟩, ?_⟩
  refine forR0_inv (fun k τ => ∃ (xs : List Int) (x y : Option Sl), τ = [some (.frz (.lst (T false rows))), some (.frz (.lst (I fs))), some (.frz (.int w)), some (.frz (.lst (I xs))), x, y] ∧ xs.length = w ∧ (∀ j, j < w → gt xs j = mixV (rows.take k) (fs.take k) j) ∧ Bd (cf + c + k) xs)
    ⟨_, _, _, rfl, by simp, fun j hj => by rw [gt_zeros]; simp [mixV], zeros_bd.mono (by omega)⟩ ?_ ?_
  · rintro k τ K hk ⟨xs, x, y, rfl, hx, hm, hbx⟩ hK
    obtain ⟨l, hkl⟩ : ∃ l, rows[k]? = some l := ⟨_, List.getElem?_eq_getElem hk⟩
    have hlm := List.mem_of_getElem? hkl
    have hll := hl l hlm
    have hfk := gt_get (xs := fs) (j := k) (by omega)
    have hfm := List.mem_of_getElem? hfk
    walk_at "s"
    refine ⟨⟨by omega, by omega⟩, ?_⟩
    refine comp_range0 (fun j => .int (gt xs j + gt fs k * gt l j)) (fun j hj K k' => ?_) (by omega) ?_
    · walk_at "s"
      refine ⟨fun _ => ?_, fun z => (by cases z)⟩
      walk_at "s"
      refine ⟨_, atI_ints (atI_nat (gt_get (by omega))), ?_⟩
      walk_at "s"
      refine ⟨_, atI_ints (atI_nat hfk), ?_⟩
      walk_at "s"
      refine ⟨_, atI_rows hkl, ?_⟩
      walk_at "s"
      refine ⟨_, atI_ints (atI_nat (gt_get (by omega))), ?_⟩
      walk_at "s"
      exact ⟨mulx_ok (hfb _ hfm) ((hb l hlm).gt j) (by omega), k'⟩
    · rw [show ((List.range w).map fun j => D.int (gt xs j + gt fs k * gt l j)) = I ((List.range w).map fun j => gt xs j + gt fs k * gt l j) from by simp [I, Function.comp_def]]
      refine hK _ ⟨_, _, _, rfl, by simp, fun j hj => ?_, fun z hz => ?_⟩
      · rw [gt_range hj, hm j hj, take_snoc hkl, take_snoc hfk, mixV_snoc (by simp [hf])]
      · obtain ⟨j, hj, rfl⟩ := List.mem_map.mp hz
        have h1 := hbx.gt j
        have h2 : (gt fs k * gt l j).natAbs < 2 ^ (cf + c) := wide_lt (hfb _ hfm) ((hb l hlm).gt j)
        have h3 : 2 ^ (cf + c) ≤ 2 ^ (cf + c + k) := Nat.pow_le_pow_right (by decide) (by omega)
        have h4 : 2 ^ (cf + c + (k + 1)) = 2 ^ (cf + c + k) * 2 := by rw [← Nat.add_assoc, Nat.pow_succ]
        omega
  · rintro τ ⟨xs, x, y, rfl, hx, hm, hbx⟩
    rw [List.take_length, List.take_of_length_le (by omega)] at hm
    exact h xs hx hm hbx
def p__law_drawn_factors : PSp := fun ss R => ∃ (c : Int) (n : Nat) (pool : List Int), ss = [.frz (.int c), .frz (.int n), .frz (.lst (I pool))] ∧ n ≤ 1000 ∧ pool.length = 11 ∧ Bd 4 pool ∧ ∀ fs : List Int, fs.length = n → Bd 84 fs → R (.nw (.lst (I fs)))
theorem l__law_drawn_factors : ∀ ss R, p__law_drawn_factors ss R → ss.length = 3 := by rintro ss R ⟨c, n, pool, rfl, _⟩; rfl
def b0__law_drawn_factors : WS := (wSeq (wSet 6 (wSl (rNm 4) (wPart (rE (w2 mulF (rE (wC (.int 5))) (rNm 3)))) (wPart (rE (w2 addF (rE (w2 mulF (rE (wC (.int 5))) (rNm 3))) (rE (wC (.int 5))))))))
      (wFrz 6 (wSeq (wSet 7 (w2 addF (rE (w2 addF (rE (w2 mulF (rE (w2 ixF (rNm 6) (rE (wC (.int 2))))) (rE (w2 powF (rE (wC (.int 10))) (rE (wC (.int 16))))))) (rE (w2 mulF (rE (w2 ixF (rNm 6) (rE (wC (.int 3))))) (rE (w2 powF (rE (wC (.int 10))) (rE (wC (.int 8))))))))) (rE (w2 ixF (rNm 6) (rE (wC (.int 4)))))))
      (wApp 5 (w2 ixF (rE (wLst (wIc (w2 subF (rE (w2 ixF (rNm 6) (rE (wC (.int 0))))) (rE (wC (.int 9)))) (wIc (w2 subF (rE (w2 ixF (rNm 6) (rE (wC (.int 0))))) (rE (wC (.int 9)))) (wIc (w2 subF (rE (w2 ixF (rNm 6) (rE (wC (.int 0))))) (rE (wC (.int 9)))) (wIc (w2 subF (rE (w2 ixF (rNm 6) (rE (wC (.int 0))))) (rE (wC (.int 9)))) (wIc (wNm 7) (wIc (w1 negF (rNm 7)) wNil)))))))) (rE (w2 ixF (rNm 6) (rE (wC (.int 1))))))))))
def w__law_drawn_factors : WS := (wSeq (wIfS (tB' (w2 gtF (rNm 1) (rE (wC (.int 6)))))
      (wRet (wLC (wWR1 (rNm 1)) (gN 3) wYes (w2 ixF (rNm 2) (rE (w2 modF (rE (wCB intF1 (wLc (rE (w2 addF (rE (w2 mulF (rE (wC (.int 3))) (rNm 3))) (rE (w2 mulF (rNm 3) (rNm 3))))) wNil))) (rE (wC (.int 11)))))) [3]))
      wSkip)
      (wSeq (wSet 4 (wCall p__law_digits (wAn 0 (wAe (w2 mulF (rE (wLst (wIc (wC (.int 19)) (wIc (wC (.int 6)) (wIc (w2 powF (rE (wC (.int 10))) (rE (wC (.int 8)))) (wIc (w2 powF (rE (wC (.int 10))) (rE (wC (.int 8)))) (wIc (w2 powF (rE (wC (.int 10))) (rE (wC (.int 8)))) wNil))))))) (rE (wC (.int 6)))) wNil))))
      (wFrz 4 (wSeq (wSet 5 (wLst wNil))
      (wSeq (wFor (wWR1 (rNm 1)) (gN 3)
      b0__law_drawn_factors)
      (wRetN 5))))))
def facSz : List Int := (List.replicate 6 [19, 6, 100000000, 100000000, 100000000]).flatten
theorem Dg.at {ss ds : List Int} (h : Dg ss ds) {i : Nat} {s : Int} (e : ss[i]? = some s) : 0 ≤ gt ds i ∧ gt ds i < s ∧ ds[i]? = some (gt ds i) := by
  obtain ⟨d, h1, h2, h3⟩ := h.get e
  have hi : i < ds.length := (List.getElem?_eq_some_iff.mp h1).1
  have := gt_get hi
  rw [h1] at this
  cases this
  exact ⟨h2, h3, h1⟩
theorem h__law_drawn_factors : ∀ ss R, p__law_drawn_factors ss R → w__law_drawn_factors { nx := fun _ => R (.fr .non), rt := fun r _ => R r } (startS 8 ss) := by
  rintro ss R ⟨c, n, pool, rfl, hn, hp, hpb, h⟩
  walk_at "s"
  refine ⟨fun hz => ?_, fun hz => ?_⟩
  · walk_at "s"
    refine ⟨⟨by omega, by omega⟩, ?_⟩
    refine comp_range0 (fun k => .int (gt pool ((3 * (k : Int) + k * k) % 11).toNat)) (fun k hk K k' => ?_) (by omega) ?_
    · walk_at "s"
      refine ⟨fun _ => ?_, fun z => (by cases z)⟩
      walk_at "s"
      refine ⟨mul64 (by omega) (by omega) (by omega) (by omega), ?_⟩
      walk_at "s"
      refine ⟨mul64 (by omega) (by omega) (by omega) (by omega), ?_⟩
      walk_at "s"
      refine ⟨by decide, ?_⟩
      have m0 := Int.emod_nonneg (3 * (k : Int) + k * k) (b := 11) (by decide)
      have m1 := Int.emod_lt_of_pos (3 * (k : Int) + k * k) (b := 11) (by decide)
      obtain ⟨m, hm⟩ : ∃ m : Nat, (3 * (k : Int) + k * k) % 11 = (m : Int) := ⟨((3 * (k : Int) + k * k) % 11).toNat, by omega⟩
      rw [hm] at k'
      rw [hm]
      refine ⟨_, atI_ints (atI_nat (gt_get (by omega))), ?_⟩
      exact k'
    · rw [show ((List.range n).map fun (k : Nat) => D.int (gt pool ((3 * (k : Int) + k * k) % 11).toNat)) = I ((List.range n).map fun (k : Nat) => gt pool ((3 * (k : Int) + k * k) % 11).toNat) from by simp [I, Function.comp_def]]
      refine h _ (by simp) fun x hx => ?_
      obtain ⟨k, hk, rfl⟩ := List.mem_map.mp hx
      exact (hpb.mono (by decide : 4 ≤ 84)).gt _
  · have hz' : n ≤ 6 := by
      have : ¬ (6 : Int) < (n : Int) := of_decide_eq_false hz
      omega
    walk_at "s"
    refine ⟨⟨by decide, by decide, by decide⟩, ?_⟩
    walk_at "s"
    refine ⟨⟨by decide, by decide, by decide⟩, ?_⟩
    walk_at "s"
    refine ⟨⟨by decide, by decide, by decide⟩, ?_⟩
    walk_at "s"
    refine ⟨by decide, ?_⟩
    walk_at "s"
    refine ⟨by decide, ?_⟩
    refine ⟨c, facSz, rfl, by decide, by decide, fun ds hd => ?_⟩
    have hdl := hd.len
    walk_at "s"
    refine ⟨by decide, ?_⟩
    walk_at "s"
    refine ⟨⟨by omega, by omega⟩, ?_⟩
    refine forR0_inv (fun k τ => ∃ (fs : List Int) (x y z : Option Sl), τ = [some (.frz (.int c)), some (.frz (.int n)), some (.frz (.lst (I pool))), x, some (.frz (.lst (I ds))), some (.own (.lst (I fs))), y, z] ∧ fs.length = k ∧ Bd 84 fs) ⟨[], _, _, _, rfl, rfl, fun x hx => by cases hx⟩ ?_ ?_
    · rintro k τ K hk ⟨fs, x, y, z, rfl, hf, hb⟩ hK
      have hk6 : k < 6 := by omega
      walk_at "s"
      refine ⟨mul64 (by omega) (by omega) (by omega) (by omega), ?_⟩
      walk_at "s"
      refine ⟨mul64 (by omega) (by omega) (by omega) (by omega), ?_⟩
      obtain ⟨P, hP, hPl, hPg⟩ : ∃ P : List Int, (ds.drop (5 * k)).take 5 = P ∧ P.length = 5 ∧ ∀ m, m < 5 → gt P m = gt ds (5 * k + m) := ⟨_, rfl, by rw [List.length_take, List.length_drop, hdl, show facSz.length = 30 from rfl]; omega, fun m hm => by
        unfold gt
        rw [List.getD_eq_getElem?_getD, List.getD_eq_getElem?_getD, List.getElem?_take, if_pos hm, List.getElem?_drop]⟩
      walk_at "s"
      have ec : cutD (I ds) (some (5 * (k : Int))) (some (5 * (k : Int) + 5)) = I P := by
        rw [cutD_of (a := 5 * k) (b := 5 * k + 5) (by omega) (by omega) (by omega) (by rw [List.length_map, hdl, show facSz.length = 30 from rfl]; omega), ← hP, I, I, ← List.map_drop, ← List.map_take]
        congr 2
        omega
      rw [ec]
      have dg : ∀ m s, m < 5 → facSz[5 * k + m]? = some s → 0 ≤ gt P m ∧ gt P m < s := fun m s hm e => by
        rw [hPg m hm]
        exact ⟨(hd.at e).1, (hd.at e).2.1⟩
      have d1 : 0 ≤ gt P 1 ∧ gt P 1 < 6 := by
        refine dg 1 6 (by omega) ?_
        have : k = 0 ∨ k = 1 ∨ k = 2 ∨ k = 3 ∨ k = 4 ∨ k = 5 := by omega
        rcases this with rfl | rfl | rfl | rfl | rfl | rfl <;> rfl
      have d0 : 0 ≤ gt P 0 ∧ gt P 0 < 19 := by
        refine dg 0 19 (by omega) ?_
        have : k = 0 ∨ k = 1 ∨ k = 2 ∨ k = 3 ∨ k = 4 ∨ k = 5 := by omega
        rcases this with rfl | rfl | rfl | rfl | rfl | rfl <;> rfl
      have d2 : ∀ m, 2 ≤ m → m < 5 → 0 ≤ gt P m ∧ gt P m < 100000000 := fun m h2 hm => by
        refine dg m _ hm ?_
        have : k = 0 ∨ k = 1 ∨ k = 2 ∨ k = 3 ∨ k = 4 ∨ k = 5 := by omega
        have : m = 2 ∨ m = 3 ∨ m = 4 := by omega
        rcases this with rfl | rfl | rfl <;> rcases ‹k = 0 ∨ _› with rfl | rfl | rfl | rfl | rfl | rfl <;> rfl
      have c2 := d2 2 (by omega) (by omega)
      have c3 := d2 3 (by omega) (by omega)
      have c4 := d2 4 (by omega) (by omega)
      walk_at "s"
      refine ⟨_, atI_ints (atI_nat (j := 2) (gt_get (by omega))), ?_⟩
      walk_at "s"
      refine ⟨⟨by decide, by decide, by decide⟩, ?_⟩
      walk_at "s"
      refine ⟨mul64 (by omega) (by omega) (by decide) (by decide), ?_⟩
      walk_at "s"
      refine ⟨_, atI_ints (atI_nat (j := 3) (gt_get (by omega))), ?_⟩
      walk_at "s"
      refine ⟨⟨by decide, by decide, by decide⟩, ?_⟩
      walk_at "s"
      refine ⟨mul64 (by omega) (by omega) (by decide) (by decide), ?_⟩
      walk_at "s"
      refine ⟨_, atI_ints (atI_nat (j := 4) (gt_get (by omega))), ?_⟩
      generalize hgr : (gt P 2 * (10 : Int) ^ (16 : Int).toNat + gt P 3 * (10 : Int) ^ (8 : Int).toNat + gt P 4 : Int) = gr
      have hg : gr.natAbs < 2 ^ 84 := by
        have e1 : (10 : Int) ^ (16 : Int).toNat = 10000000000000000 := by decide
        have e2 : (10 : Int) ^ (8 : Int).toNat = 100000000 := by decide
        rw [e1, e2] at hgr
        omega
      walk_at "s"
      have p0 : atI (I P) 0 = some (D.int (gt P 0)) := atI_ints (atI_nat (j := 0) (gt_get (by omega)))
      refine ⟨_, p0, ?_⟩
      walk_at "s"
      refine ⟨_, p0, ?_⟩
      walk_at "s"
      refine ⟨_, p0, ?_⟩
      walk_at "s"
      refine ⟨_, p0, ?_⟩
      walk_at "s"
      refine ⟨Nat.le_of_ble_eq_true rfl, ?_⟩
      walk_at "s"
      refine ⟨_, atI_ints (atI_nat (j := 1) (gt_get (by omega))), ?_⟩
      have fin : ∀ x : Int, x.natAbs < 2 ^ 84 → ∀ z : Option Sl, fs.length < 16777216 ∧ K [some (.frz (.int c)), some (.frz (.int n)), some (.frz (.lst (I pool))), some (.frz (.int k)), some (.frz (.lst (I ds))), some (.own (.lst (I fs ++ [.int x]))), some (.frz (.lst (I P))), z] := fun x hx z => by
        refine ⟨by omega, hK _ ⟨fs ++ [x], _, _, _, by rw [I_snoc], by simp [hf], fun y hy => ?_⟩⟩
        rcases List.mem_append.mp hy with hy | hy
        · exact hb y hy
        · simp at hy; subst hy; exact hx
      have f9 : (gt P 0 - 9).natAbs < 2 ^ 84 := by omega
      have fl : (I fs).length = fs.length := by simp
      have hgm : (-gr).natAbs < 2 ^ 84 := by omega
      have cs : gt P 1 = 0 ∨ gt P 1 = 1 ∨ gt P 1 = 2 ∨ gt P 1 = 3 ∨ gt P 1 = 4 ∨ gt P 1 = 5 := by omega
      rcases cs with e | e | e | e | e | e <;> rw [e] <;> refine ⟨_, rfl, ?_⟩ <;> walk_at "s" <;> rw [fl]
      · exact fin _ f9 _
      · exact fin _ f9 _
      · exact fin _ f9 _
      · exact fin _ f9 _
      · subst hgr; exact fin _ hg _
      · subst hgr; exact fin _ hgm _
    · rintro τ ⟨fs, x, y, z, rfl, hf, hb⟩
      exact h fs hf hb


/-! a small basis -/
abbrev Cr (rows : List (List Int)) : List Ch := rows.map fun r => Ch.ls (I r)
def Pl' (pl : List Nat) : List D := pl.map fun (k : Nat) => D.int (k : Int)
/-- a row whose pivot is at q -/
def RowP (c w q : Nat) (r : List Int) : Prop := r.length = w ∧ (∀ j, j < q → gt r j = 0) ∧ 0 < gt r q ∧ Bd c r
/-- places in ascending order -/
def Asc (w : Nat) (pl : List Nat) : Prop := ∀ (i j a b : Nat), i < j → pl[i]? = some a → pl[j]? = some b → a < b ∧ b < w
def RowsP (c w : Nat) (pl : List Nat) (rows : List (List Int)) : Prop := ∀ (k q : Nat) (r : List Int), pl[k]? = some q → rows[k]? = some r → q < w ∧ RowP c w q r
theorem ech_of {c w : Nat} : ∀ {p : Nat} {pl : List Nat} {rows : List (List Int)}, pl.length = rows.length → (∀ q ∈ pl, p ≤ q) → pl.Pairwise (· < ·) → RowsP c w pl rows → Ech w p rows
  | _, [], [], _, _, _, _ => trivial
  | _, [], _ :: _, h, _, _, _ => by cases h
  | _, _ :: _, [], h, _, _, _ => by cases h
  | p, q :: pl, r :: rows, h, hp, ho, hR => by
    obtain ⟨h1, h2, h3, h4, h5⟩ := hR 0 q r rfl rfl
    rw [List.pairwise_cons] at ho
    exact ⟨h2, q, hp q (by simp), h1, h3, h4, ech_of (by simpa using h) (fun a ha => ho.1 a ha) ho.2 fun k a b e1 e2 => hR (k + 1) a b (by simpa using e1) (by simpa using e2)⟩
theorem Pl_at {pl : List Nat} {k q : Nat} (h : pl[k]? = some q) : atI (Pl' pl) (k : Int) = some (D.int (q : Int)) := by
  refine atI_nat ?_
  rw [Pl', List.getElem?_map, h]; rfl
def basSz : List Int := List.replicate 6 4 ++ List.replicate 6 9 ++ List.replicate 36 19
theorem basSz_9 {k : Nat} (h : k < 6) : basSz[6 + k]? = some 9 := by
  have : k = 0 ∨ k = 1 ∨ k = 2 ∨ k = 3 ∨ k = 4 ∨ k = 5 := by omega
  rcases this with rfl | rfl | rfl | rfl | rfl | rfl <;> rfl
theorem basSz_19 {k : Nat} (h : k < 36) : basSz[12 + k]? = some 19 := by
  unfold basSz
  rw [List.getElem?_append_right (by simp)]
  rw [List.getElem?_replicate, if_pos (by simp; omega)]
def p__law_basis : PSp := fun ss R => ∃ (ds : List Int) (w : Nat) (g : Int), ss = [.frz (.lst (I ds)), .frz (.int w), .frz (.int g)] ∧ Dg basSz ds ∧ w ≤ 6 ∧ 1 ≤ g ∧ g.natAbs < 2 ^ 84 ∧ ∀ rows : List (List Int), Bas w 84 rows → rows.length ≤ 6 → R (.fr (.lst (T false rows)))
theorem l__law_basis : ∀ ss R, p__law_basis ss R → ss.length = 3 := by rintro ss R ⟨ds, w, g, rfl, _⟩; rfl
def b0__law_basis : WS := (wSeq (wAliN 5 7 (rNm 8))
      (wSub 7 (rE (w2 ixF (rNm 4) (rNm 3))) (w2 modF (rE (wCB intF1 (wLc (rE (w2 ixF (rNm 7) (rE (w2 ixF (rNm 4) (rNm 3))))) wNil))) (rE (w2 ixF (wRxN 5 (rNm 3)) (rE (w2 ixF (rNm 4) (rNm 3))))))))
def b1__law_basis : WS := (wFor (wWR1 (rNm 3)) (gN 8)
      b0__law_basis)
def b2__law_basis : WS := (wApp 7 (w2 subF (rE (w2 ixF (rNm 0) (rE (w2 addF (rE (w2 addF (rE (wC (.int 12))) (rE (w2 mulF (rE (wC (.int 6))) (rNm 3))))) (rNm 6))))) (rE (wC (.int 9)))))
def b3__law_basis : WS := (wSeq (wSet 7 (wLC (wWR1 (rE (w2 ixF (rNm 4) (rNm 3)))) (gN 6) wYes (wC (.int 0)) [6]))
      (wSeq (wApp 7 (w2 ixF (rE (wLst (wIc (wC (.int 1)) (wIc (wC (.int 1)) (wIc (wC (.int 1)) (wIc (wC (.int 2)) (wIc (wC (.int 3)) (wIc (wC (.int 4)) (wIc (wC (.int 6)) (wIc (wC (.int 30)) (wIc (wNm 2) wNil))))))))))) (rE (w2 ixF (rNm 0) (rE (w2 addF (rE (wC (.int 6))) (rNm 3)))))))
      (wSeq (wFor (wWR2 (rE (w2 addF (rE (w2 ixF (rNm 4) (rNm 3))) (rE (wC (.int 1))))) (rNm 1)) (gN 6)
      b2__law_basis)
      (wAppNm 5 7))))
def w__law_basis : WS := (wSeq (wSet 4 (wLC (wWR1 (rNm 1)) (gN 3) (tB' (w2 gtF (rE (w2 ixF (rNm 0) (rNm 3))) (rE (wC (.int 0))))) (wNm 3) [3]))
      (wFrz 4 (wSeq (wSet 5 (wLst wNil))
      (wNest 5 (wSeq (wFor (wWR1 (rE (wCB lenF (wLc (rNm 4) wNil)))) (gN 3)
      b3__law_basis)
      (wSeq (wFor (wWR1 (rE (wCB lenF (wLc (rNm 4) wNil)))) (gN 3)
      b1__law_basis)
      (wFrz 5 (wRetN 5))))))))
theorem Cr_d {rows : List (List Int)} : (Cr rows).map Ch.d = T false rows := by simp [Cr, T, Ch.d, sq]
theorem Cr_get {rows : List (List Int)} {k : Nat} {r : List Int} (h : rows[k]? = some r) : (Cr rows)[k]? = some (.ls (I r)) := by rw [Cr, List.getElem?_map, h]; rfl
theorem Cr_snoc {rows : List (List Int)} {r : List Int} : Cr rows ++ [.ls (I r)] = Cr (rows ++ [r]) := by simp [Cr]
theorem Cr_set {rows : List (List Int)} {k : Nat} {r : List Int} : (Cr rows).set k (.ls (I r)) = Cr (rows.set k r) := by simp [Cr, List.map_set]
theorem gt_snoc {xs : List Int} {x : Int} {j : Nat} : gt (xs ++ [x]) j = if j = xs.length then x else gt xs j := by
  unfold gt
  rw [List.getD_eq_getElem?_getD, List.getD_eq_getElem?_getD]
  by_cases h : j < xs.length
  · rw [List.getElem?_append_left h, if_neg (by omega)]
  · rw [List.getElem?_append_right (by omega)]
    by_cases e : j = xs.length
    · subst e; simp
    · rw [if_neg e, List.getElem?_eq_none (by simp; omega), List.getElem?_eq_none (by omega)]
theorem Bd.snoc {b : Nat} {xs : List Int} {x : Int} (h : Bd b xs) (hx : x.natAbs < 2 ^ b) : Bd b (xs ++ [x]) := fun y hy => by
  rcases List.mem_append.mp hy with hy | hy
  · exact h y hy
  · simp at hy; subst hy; exact hx
theorem h__law_basis : ∀ ss R, p__law_basis ss R → w__law_basis { nx := fun _ => R (.fr .non), rt := fun r _ => R r } (startS 9 ss) := by
  rintro ss R ⟨ds, w, g, rfl, hd, hw, hg1, hg2, h⟩
  have hdl := hd.len
  have h48 : basSz.length = 48 := rfl
  walk_at "s"
  refine ⟨⟨by omega, by omega⟩, ?_⟩
  refine comp_rangeF (fun k => if 0 < gt ds k then some (.int (k : Int)) else none) (fun k hk K k' => ?_) (by omega) ?_
  · walk_at "s"
    refine ⟨_, atI_ints (atI_nat (gt_get (by omega))), ?_⟩
    walk_at "s"
    refine ⟨fun z => ?_, fun z => ?_⟩
    · have z' : 0 < gt ds k := of_decide_eq_true z
      rw [if_pos z'] at k'
      exact k'
    · have z' : ¬ 0 < gt ds k := of_decide_eq_false z
      rw [if_neg z'] at k'
      exact k'
  obtain ⟨pl, hpl, hps, hpw, hpn⟩ : ∃ pl : List Nat, ((List.range w).filterMap fun k => if 0 < gt ds k then some (D.int (k : Int)) else none) = Pl' pl ∧ pl.Pairwise (· < ·) ∧ (∀ q ∈ pl, q < w) ∧ pl.length ≤ w := by
    refine ⟨(List.range w).filter fun k => decide (0 < gt ds k), ?_, List.Pairwise.filter _ List.pairwise_lt_range, fun q hq => by simpa using (List.mem_filter.mp hq).1, by
      have := List.length_filter_le (fun k => decide (0 < gt ds k)) (List.range w)
      simpa using this⟩
    unfold Pl'
    rw [← List.filterMap_eq_map, List.filterMap_filter]
    congr 1
    funext k
    by_cases e : 0 < gt ds k <;> simp [e]
  rw [hpl]
  walk_at "s"
  refine ⟨by decide, ?_⟩
  walk_at "s"
  have lenp : (Pl' pl).length = pl.length := by simp [Pl']
  rw [lenp]
  refine ⟨⟨by omega, by omega⟩, ?_⟩
  refine forR0_inv (fun k τ => ∃ (rows : List (List Int)) (als : List (Nat × Nat)) (x y z u : Option Sl), τ = [some (.frz (.lst (I ds))), some (.frz (.int w)), some (.frz (.int g)), x, some (.frz (.lst (Pl' pl))), some (.nst none .lst (Cr rows) als), y, z, u] ∧ rows.length = k ∧ RowsP 84 w pl rows)
    ⟨[], [], _, _, _, _, rfl, rfl, fun k q r _ e => by simp at e⟩ ?_ ?_
  · rintro k τ K hk ⟨rows, als, x, y, z, u, rfl, hrl, hR⟩ hK
    obtain ⟨q, hq⟩ : ∃ q, pl[k]? = some q := ⟨_, List.getElem?_eq_getElem hk⟩
    have hqw := hpw q (List.mem_of_getElem? hq)
    walk_at "s"
    refine ⟨_, Pl_at hq, ?_⟩
    walk_at "s"
    refine ⟨⟨by omega, by omega⟩, ?_⟩
    refine comp_range0 (fun j => .int 0) (fun j hj K k' => ?_) (by omega) ?_
    · walk_at "s"
      exact ⟨fun _ => k', fun z => (by cases z)⟩
    rw [range_zeros]
    walk_at "s"
    refine ⟨Nat.le_of_ble_eq_true rfl, ?_⟩
    walk_at "s"
    obtain ⟨i0, i1, i2⟩ := hd.at (basSz_9 (k := k) (by omega))
    have e6 : (6 + (k : Int)) = ((6 + k : Nat) : Int) := by omega
    rw [e6]
    refine ⟨_, atI_ints (atI_nat i2), ?_⟩
    -- behind the item
    have rest : ∀ E : PEnds, (∀ τ, K τ → E.nx τ) → ∀ v : Int, 0 < v → v.natAbs < 2 ^ 84 → (wSeq (wFor (wWR2 (rE (w2 addF (rE (w2 ixF (rNm 4) (rNm 3))) (rE (wC (.int 1))))) (rNm 1)) (gN 6) b2__law_basis) (wAppNm 5 7))
        E [some (.frz (.lst (I ds))), some (.frz (.int w)), some (.frz (.int g)), some (.frz (.int k)), some (.frz (.lst (Pl' pl))), some (.nst none .lst (Cr rows) als), y, some (.own (.lst (I (List.replicate q 0) ++ [.int v]))), u] := fun E hE v hv hvb => by
      rw [← I_snoc]
      walk_at "s"
      refine ⟨_, Pl_at hq, ?_⟩
      walk_at "s"
      refine ⟨⟨by omega, by omega, by omega, by omega⟩, ?_⟩
      refine forR_inv (fun i τ => ∃ (r : List Int) (y : Option Sl), τ = [some (.frz (.lst (I ds))), some (.frz (.int w)), some (.frz (.int g)), some (.frz (.int k)), some (.frz (.lst (Pl' pl))), some (.nst none .lst (Cr rows) als), y, some (.own (.lst (I r))), u] ∧ r.length = q + 1 + i ∧ (∀ j, j < q → gt r j = 0) ∧ 0 < gt r q ∧ Bd 84 r)
        ⟨_, _, rfl, by simp, fun j hj => by rw [gt_snoc, if_neg (by simp; omega), gt_zeros], by rw [gt_snoc, if_pos (by simp)]; exact hv, (zeros_bd.mono (by decide)).snoc hvb⟩ ?_ ?_
      · rintro i τ K2 hi ⟨r, y, rfl, hr1, hr2, hr3, hr4⟩ hK2
        walk_at "s"
        refine ⟨mul64 (by omega) (by omega) (by omega) (by omega), ?_⟩
        walk_at "s"
        have ej : (12 + 6 * (k : Int) + ((q : Int) + 1 + (i : Int))) = ((12 + (6 * k + (q + 1 + i)) : Nat) : Int) := by omega
        obtain ⟨j0, j1, j2⟩ := hd.at (basSz_19 (k := 6 * k + (q + 1 + i)) (by omega))
        rw [ej]
        refine ⟨_, atI_ints (atI_nat j2), ?_⟩
        walk_at "s"
        refine ⟨by rw [List.length_map]; omega, ?_⟩
        refine hK2 _ ⟨r ++ [gt ds (12 + (6 * k + (q + 1 + i))) - 9], _, by rw [I_snoc]; rfl, by simp [hr1]; omega, fun j hj => by rw [gt_snoc, if_neg (by omega)]; exact hr2 j hj, by rw [gt_snoc, if_neg (by omega)]; exact hr3, hr4.snoc (by omega)⟩
      · rintro τ ⟨r, y, rfl, hr1, hr2, hr3, hr4⟩
        walk_at "s"
        refine ⟨by rw [List.length_map]; omega, ?_⟩
        refine hE _ (hK _ ⟨rows ++ [r], _, _, _, _, _, by rw [← Cr_snoc]; rfl, by simp [hrl], fun m q' r' e1 e2 => ?_⟩)
        rw [List.getElem?_append] at e2
        split at e2
        · exact hR m q' r' e1 e2
        · rename_i hm
          have : m - rows.length = 0 := by
            have := (List.getElem?_eq_some_iff.mp e2).1
            simp at this; omega
          rw [this] at e2
          simp at e2
          subst e2
          have em : m = k := by omega
          subst em
          rw [hq] at e1
          cases e1
          exact ⟨hqw, by omega, hr2, hr3, hr4⟩
    have cs : gt ds (6 + k) = 0 ∨ gt ds (6 + k) = 1 ∨ gt ds (6 + k) = 2 ∨ gt ds (6 + k) = 3 ∨ gt ds (6 + k) = 4 ∨ gt ds (6 + k) = 5 ∨ gt ds (6 + k) = 6 ∨ gt ds (6 + k) = 7 ∨ gt ds (6 + k) = 8 := by omega
    have ll : (I (List.replicate q 0)).length < 16777216 := by simp; omega
    rcases cs with e | e | e | e | e | e | e | e | e <;> rw [e] <;> refine ⟨_, rfl, ll, ?_⟩
    · refine rest _ ?_ 1 (by decide) (by decide)
      exact fun τ k => k
    · refine rest _ ?_ 1 (by decide) (by decide)
      exact fun τ k => k
    · refine rest _ ?_ 1 (by decide) (by decide)
      exact fun τ k => k
    · refine rest _ ?_ 2 (by decide) (by decide)
      exact fun τ k => k
    · refine rest _ ?_ 3 (by decide) (by decide)
      exact fun τ k => k
    · refine rest _ ?_ 4 (by decide) (by decide)
      exact fun τ k => k
    · refine rest _ ?_ 6 (by decide) (by decide)
      exact fun τ k => k
    · refine rest _ ?_ 30 (by decide) (by decide)
      exact fun τ k => k
    · refine rest _ ?_ g (by omega) hg2
      exact fun τ k => k
  · rintro τ ⟨rows, als, x, y, z, u, rfl, hrl, hR⟩
    walk_at "s"
    rw [lenp]
    refine ⟨⟨by omega, by omega⟩, ?_⟩
    refine forR0_inv (fun k τ => ∃ (rows : List (List Int)) (als : List (Nat × Nat)) (x y z u : Option Sl), τ = [some (.frz (.lst (I ds))), some (.frz (.int w)), some (.frz (.int g)), x, some (.frz (.lst (Pl' pl))), some (.nst none .lst (Cr rows) als), y, z, u] ∧ rows.length = pl.length ∧ RowsP 84 w pl rows)
      ⟨rows, als, _, _, _, _, rfl, hrl, hR⟩ ?_ ?_
    · rintro k τ K hk ⟨rows, als, x, y, z, u, rfl, hrl, hR⟩ hK
      obtain ⟨q, hq⟩ : ∃ q, pl[k]? = some q := ⟨_, List.getElem?_eq_getElem hk⟩
      walk_at "s"
      refine ⟨⟨by omega, by omega⟩, ?_⟩
      refine forR0_inv (fun m τ => ∃ (rows : List (List Int)) (als : List (Nat × Nat)) (y z u : Option Sl), τ = [some (.frz (.lst (I ds))), some (.frz (.int w)), some (.frz (.int g)), some (.frz (.int k)), some (.frz (.lst (Pl' pl))), some (.nst none .lst (Cr rows) als), y, z, u] ∧ rows.length = pl.length ∧ RowsP 84 w pl rows)
        ⟨rows, als, _, _, _, rfl, hrl, hR⟩ ?_ ?_
      · rintro m τ K2 hm ⟨rows, als, y, z, u, rfl, hrl, hR⟩ hK2
        obtain ⟨qm, hqm⟩ : ∃ q, pl[m]? = some q := ⟨_, List.getElem?_eq_getElem (by omega)⟩
        obtain ⟨rm, hrm⟩ : ∃ r, rows[m]? = some r := ⟨_, List.getElem?_eq_getElem (by omega)⟩
        obtain ⟨rk, hrk⟩ : ∃ r, rows[k]? = some r := ⟨_, List.getElem?_eq_getElem (by omega)⟩
        obtain ⟨a1, a2, a3, a4, a5⟩ := hR m qm rm hqm hrm
        obtain ⟨b1, b2, b3, b4, b5⟩ := hR k q rk hq hrk
        have hlt : qm < q := by
          have h1 := List.pairwise_iff_getElem.mp hps m k (by omega) hk hm
          rw [(List.getElem?_eq_some_iff.mp hqm).2, (List.getElem?_eq_some_iff.mp hq).2] at h1
          exact h1
        have lc : (Cr rows).length = rows.length := by simp
        walk_at "s"
        refine ⟨m, I rm, by rw [lc]; exact ixN_nat' (by omega), Cr_get hrm, ?_⟩
        walk_at "s"
        refine ⟨I rm, Cr_get hrm, ?_⟩
        walk_at "s"
        refine ⟨I rm, Cr_get hrm, ?_⟩
        walk_at "s"
        refine ⟨_, Pl_at hq, ?_⟩
        walk_at "s"
        refine ⟨_, atI_ints (atI_nat (gt_get (by omega))), ?_⟩
        walk_at "s"
        refine ⟨I rk, atI_nat (Cr_get hrk), ?_⟩
        walk_at "s"
        refine ⟨_, Pl_at hq, ?_⟩
        walk_at "s"
        refine ⟨_, atI_ints (atI_nat (gt_get (by omega))), ?_⟩
        walk_at "s"
        refine ⟨b4, ?_⟩
        walk_at "s"
        refine ⟨_, Pl_at hq, ?_⟩
        walk_at "s"
        refine ⟨q, by rw [List.length_map]; exact ixN_nat' (by omega), ?_⟩
        have m0 := Int.emod_nonneg (gt rm q) (b := gt rk q) (by omega)
        have m1 := Int.emod_lt_of_pos (gt rm q) b4
        have hb := b5.gt q
        refine hK2 _ ⟨rows.set m (rm.set q (gt rm q % gt rk q)), _, _, _, _, by rw [← Cr_set, show I (rm.set q (gt rm q % gt rk q)) = (I rm).set q (D.int (gt rm q % gt rk q)) from by rw [I, I, List.map_set]]; rfl, by simp [hrl], fun j q' r' e1 e2 => ?_⟩
        by_cases hjm : m = j
        · subst hjm
          rw [List.getElem?_set_self (by omega)] at e2
          cases e2
          rw [hqm] at e1; cases e1
          refine ⟨a1, by simpa using a2, fun j hj => by rw [gt_set (by omega), if_neg (by omega)]; exact a3 j hj, by rw [gt_set (by omega), if_neg (by omega)]; exact a4, fun x hx => ?_⟩
          rcases List.mem_or_eq_of_mem_set hx with hx | rfl
          · exact a5 x hx
          · omega
        · rw [List.getElem?_set_ne hjm] at e2
          exact hR j q' r' e1 e2
      · rintro τ ⟨rows, als, y, z, u, rfl, hrl, hR⟩
        exact hK _ ⟨rows, als, _, _, _, _, rfl, hrl, hR⟩
    · rintro τ ⟨rows, als, x, y, z, u, rfl, hrl, hR⟩
      walk_at "s"
      show R (.fr (.lst ((Cr rows).map Ch.d)))
      rw [Cr_d]
      refine h rows ⟨ech_of hrl.symm (fun q _ => Nat.zero_le q) hps hR, by omega, by omega, fun l hl => ?_, by decide, by omega⟩ (by omega)
      obtain ⟨k, hk, e⟩ := List.getElem_of_mem hl
      exact (hR k _ l (List.getElem?_eq_getElem (by omega)) (by rw [List.getElem?_eq_getElem hk, e])).2.2.2.2


/-! a large basis -/
theorem len_sub : ∀ {S L : List Nat}, S.Nodup → (∀ x ∈ S, x ∈ L) → S.length ≤ L.length
  | [], _, _, _ => by simp
  | x :: S, L, h, hs => by
    rw [List.nodup_cons] at h
    have hx := hs x (by simp)
    have := len_sub (L := L.erase x) h.2 fun y hy => by
      have hne : y ≠ x := fun e => h.1 (e ▸ hy)
      exact (List.mem_erase_of_ne hne).mpr (hs y (by simp [hy]))
    rw [List.length_erase_of_mem hx] at this
    have hp := List.length_pos_of_mem hx
    simp only [List.length_cons]
    omega
def p__law_large_basis : PSp := fun ss R => ∃ (pool : List Int) (w s a : Nat), ss = [.frz (.lst (I pool)), .frz (.int w), .frz (.int s), .frz (.int a)] ∧ pool.length = 11 ∧ Bd 4 pool ∧ 151 ≤ w ∧ w ≤ 200 ∧ 1 ≤ s ∧ s ≤ 3 ∧ a ≤ 29 ∧ ∀ rows : List (List Int), Bas w 4 rows → 7 ≤ rows.length → rows.length ≤ 200 → R (.nw (.lst (T false rows)))
theorem l__law_large_basis : ∀ ss R, p__law_large_basis ss R → ss.length = 4 := by rintro ss R ⟨pool, w, s, a, rfl, _⟩; rfl
def b0__law_large_basis : WS := (wSeq (wSet 11 (w2 ixF (rNm 0) (rE (w2 modF (rE (wCB intF1 (wLc (rE (w2 addF (rE (w2 addF (rE (w2 mulF (rE (wC (.int 3))) (rNm 6))) (rE (w2 mulF (rE (wC (.int 5))) (rNm 4))))) (rE (w2 mulF (rNm 6) (rNm 4))))) wNil))) (rE (wC (.int 11)))))))
      (wSeq (wIfS (tB' (w2 gtF (rE (w2 ixF (rNm 8) (rNm 4))) (rE (wC (.int 0)))))
      (wSet 11 (w2 modF (rE (wCB intF1 (wLc (rNm 11) wNil))) (rE (w2 ixF (rNm 8) (rNm 4)))))
      wSkip)
      (wApp 10 (wNm 11))))
def b1__law_large_basis : WS := (wSeq (wSet 10 (w2 addF (rE (wLC (wWR1 (rE (w2 ixF (rNm 5) (rNm 6)))) (gN 4) wYes (wC (.int 0)) [4])) (rE (wLst (wIc (w2 ixF (rNm 7) (rNm 6)) wNil)))))
      (wSeq (wFor (wWR2 (rE (w2 addF (rE (w2 ixF (rNm 5) (rNm 6))) (rE (wC (.int 1))))) (rNm 1)) (gN 4)
      b0__law_large_basis)
      (wFrz 10 (wApp 9 (wNm 10)))))
def b2__law_large_basis : WS := (wSub 8 (rE (w2 ixF (rNm 5) (rNm 6))) (w2 ixF (rNm 7) (rNm 6)))
def w__law_large_basis : WS := (wSeq (wSet 5 (wLC (wWR2 (rNm 3) (rNm 1)) (gN 4) (tB' (w2 (eqF false) (rE (w2 modF (rE (wCB intF1 (wLc (rE (w2 subF (rNm 4) (rNm 3))) wNil))) (rNm 2))) (rE (wC (.int 0))))) (wNm 4) [4]))
      (wFrz 5 (wSeq (wSet 7 (wLC (wWR1 (rE (wCB lenF (wLc (rNm 5) wNil)))) (gN 6) wYes (w2 addF (rE (wC (.int 1))) (rE (w2 modF (rE (wCB intF1 (wLc (rE (w2 addF (rE (w2 mulF (rE (wC (.int 3))) (rNm 6))) (rE (w2 ixF (rNm 0) (rE (w2 modF (rE (wCB intF1 (wLc (rNm 6) wNil))) (rE (wC (.int 11))))))))) wNil))) (rE (wC (.int 7)))))) [6]))
      (wFrz 7 (wSeq (wSet 8 (wLC (wWR1 (rNm 1)) (gN 4) wYes (wC (.int 0)) [4]))
      (wSeq (wFor (wWR1 (rE (wCB lenF (wLc (rNm 5) wNil)))) (gN 6)
      b2__law_large_basis)
      (wSeq (wSet 9 (wLst wNil))
      (wSeq (wFor (wWR1 (rE (wCB lenF (wLc (rNm 5) wNil)))) (gN 6)
      b1__law_large_basis)
      (wRetN 9)))))))))
theorem h__law_large_basis : ∀ ss R, p__law_large_basis ss R → w__law_large_basis { nx := fun _ => R (.fr .non), rt := fun r _ => R r } (startS 12 ss) := by
  rintro ss R ⟨pool, w, s, a, rfl, hpl, hpb, hw1, hw2, hs1, hs2, ha, h⟩
  walk_at "s"
  refine ⟨⟨by omega, by omega, by omega, by omega⟩, ?_⟩
  unfold rgD
  have en : ((w : Int) - (a : Int)).toNat = w - a := by omega
  rw [en]
  refine comp_fm (L := List.range (w - a)) (fun i => if i % s = 0 then some (.int ((a : Int) + (i : Int))) else none) (fun i hi K k' => ?_) (by simp; omega) ?_
  · walk_at "s"
    refine ⟨by omega, ?_⟩
    have ei : ((a : Int) + (i : Int) - (a : Int)) % (s : Int) = ((i % s : Nat) : Int) := by
      rw [show (a : Int) + (i : Int) - (a : Int) = (i : Int) from by omega]; omega
    rw [ei]
    walk_at "s"
    refine ⟨fun z => ?_, fun z => ?_⟩
    · have z' : i % s = 0 := by
        have : (((i % s : Nat) : Int)) = 0 := by simpa using z
        omega
      rw [if_pos z'] at k'
      exact k'
    · have z' : ¬ i % s = 0 := by
        have : ¬ (((i % s : Nat) : Int)) = 0 := by
          intro e; rw [e] at z; simp at z
        omega
      rw [if_neg z'] at k'
      exact k'
  obtain ⟨pl, hpe, hps, hpw, hpn, hp7⟩ : ∃ pl : List Nat, ((List.range (w - a)).filterMap fun i => if i % s = 0 then some (D.int ((a : Int) + (i : Int))) else none) = Pl' pl ∧ pl.Pairwise (· < ·) ∧ (∀ q ∈ pl, q < w) ∧ pl.length ≤ w ∧ 7 ≤ pl.length := by
    refine ⟨((List.range (w - a)).filter fun i => decide (i % s = 0)).map fun i => a + i, ?_, ?_, fun q hq => ?_, ?_, ?_⟩
    · unfold Pl'
      rw [List.map_map, ← List.filterMap_eq_map, List.filterMap_filter]
      congr 1
      funext i
      by_cases e : i % s = 0 <;> simp [e]
    · refine List.Pairwise.map _ (fun x y hxy => ?_) (List.Pairwise.filter _ List.pairwise_lt_range)
      omega
    · obtain ⟨i, hi, rfl⟩ := List.mem_map.mp hq
      have := (List.mem_filter.mp hi).1
      simp at this
      omega
    · have := List.length_filter_le (fun i => decide (i % s = 0)) (List.range (w - a))
      simp at this ⊢
      omega
    · rw [List.length_map]
      have : [0, s, 2 * s, 3 * s, 4 * s, 5 * s, 6 * s].length ≤ ((List.range (w - a)).filter fun i => decide (i % s = 0)).length := by
        refine len_sub ?_ fun x hx => ?_
        · have : s = 1 ∨ s = 2 ∨ s = 3 := by omega
          rcases this with rfl | rfl | rfl <;> decide
        · rw [List.mem_filter]
          simp only [List.mem_cons, List.not_mem_nil, or_false] at hx
          have h0 : x < w - a ∧ x % s = 0 := by
            rcases hx with rfl | rfl | rfl | rfl | rfl | rfl | rfl
            · exact ⟨by omega, Nat.zero_mod _⟩
            · exact ⟨by omega, Nat.mod_self _⟩
            all_goals exact ⟨by omega, Nat.mul_mod_left _ _⟩
          exact ⟨by simpa using h0.1, by simpa using h0.2⟩
      simpa using this
  rw [hpe]
  have lenp : (Pl' pl).length = pl.length := by simp [Pl']
  walk_at "s"
  rw [lenp]
  refine ⟨⟨by omega, by omega⟩, ?_⟩
  have pm : ∀ m : Int, 0 ≤ m % 11 ∧ m % 11 < 11 := fun m => ⟨Int.emod_nonneg _ (by decide), Int.emod_lt_of_pos _ (by decide)⟩
  have pat : ∀ m : Int, atI (I pool) (m % 11) = some (.int (gt pool (m % 11).toNat)) := fun m => by
    obtain ⟨m0, m1⟩ := pm m
    obtain ⟨n, hn⟩ : ∃ n : Nat, m % 11 = (n : Int) := ⟨(m % 11).toNat, by omega⟩
    rw [hn]
    exact atI_ints (atI_nat (gt_get (by omega)))
  refine comp_range0 (fun k => .int (1 + (3 * (k : Int) + gt pool ((k : Int) % 11).toNat) % 7)) (fun k hk K k' => ?_) (by omega) ?_
  · walk_at "s"
    refine ⟨fun _ => ?_, fun z => (by cases z)⟩
    walk_at "s"
    refine ⟨mul64 (by omega) (by omega) (by omega) (by omega), ?_⟩
    walk_at "s"
    refine ⟨by decide, ?_⟩
    refine ⟨_, pat _, ?_⟩
    walk_at "s"
    refine ⟨by decide, ?_⟩
    exact k'
  obtain ⟨sz, hsz, hszl, hszb⟩ : ∃ sz : List Int, ((List.range pl.length).map fun (k : Nat) => D.int (1 + (3 * (k : Int) + gt pool ((k : Int) % 11).toNat) % 7)) = I sz ∧ sz.length = pl.length ∧ ∀ x ∈ sz, 1 ≤ x ∧ x ≤ 7 := by
    refine ⟨(List.range pl.length).map fun (k : Nat) => 1 + (3 * (k : Int) + gt pool ((k : Int) % 11).toNat) % 7, by simp [I, Function.comp_def], by simp, fun x hx => ?_⟩
    obtain ⟨k, _, rfl⟩ := List.mem_map.mp hx
    have := Int.emod_nonneg (3 * (k : Int) + gt pool ((k : Int) % 11).toNat) (b := 7) (by decide)
    have := Int.emod_lt_of_pos (3 * (k : Int) + gt pool ((k : Int) % 11).toNat) (b := 7) (by decide)
    omega
  rw [hsz]
  walk_at "s"
  refine ⟨⟨by omega, by omega⟩, ?_⟩
  refine comp_range0 (fun j => .int 0) (fun j hj K k' => ?_) (by omega) ?_
  · walk_at "s"
    exact ⟨fun _ => k', fun z => (by cases z)⟩
  rw [range_zeros]
  walk_at "s"
  rw [lenp]
  refine ⟨⟨by omega, by omega⟩, ?_⟩
  refine forR0_inv (fun k τ => ∃ (ab : List Int) (x y z u v : Option Sl), τ = [some (.frz (.lst (I pool))), some (.frz (.int w)), some (.frz (.int s)), some (.frz (.int a)), x, some (.frz (.lst (Pl' pl))), y, some (.frz (.lst (I sz))), some (.own (.lst (I ab))), z, u, v] ∧ ab.length = w ∧ Bd 4 ab)
    ⟨_, _, _, _, _, _, rfl, by simp, zeros_bd.mono (by decide)⟩ ?_ ?_
  · rintro k τ K hk ⟨ab, x, y, z, u, v, rfl, hab, hbb⟩ hK
    obtain ⟨q, hq⟩ : ∃ q, pl[k]? = some q := ⟨_, List.getElem?_eq_getElem hk⟩
    have hqw := hpw q (List.mem_of_getElem? hq)
    have hz := gt_get (xs := sz) (j := k) (by omega)
    have hzb := hszb _ (List.mem_of_getElem? hz)
    walk_at "s"
    refine ⟨_, atI_ints (atI_nat hz), ?_⟩
    walk_at "s"
    refine ⟨_, Pl_at hq, ?_⟩
    walk_at "s"
    refine ⟨q, by rw [List.length_map]; exact ixN_nat' (by omega), ?_⟩
    refine hK _ ⟨ab.set q (gt sz k), _, _, _, _, _, by rw [show I (ab.set q (gt sz k)) = (I ab).set q (D.int (gt sz k)) from by rw [I, I, List.map_set]]; rfl, by simpa using hab, fun x hx => ?_⟩
    rcases List.mem_or_eq_of_mem_set hx with hx | rfl
    · exact hbb x hx
    · omega
  · rintro τ ⟨ab, x, y, z, u, v, rfl, hab, hbb⟩
    walk_at "s"
    refine ⟨by decide, ?_⟩
    walk_at "s"
    rw [lenp]
    refine ⟨⟨by omega, by omega⟩, ?_⟩
    refine forR0_inv (fun k τ => ∃ (rows : List (List Int)) (x y u v : Option Sl), τ = [some (.frz (.lst (I pool))), some (.frz (.int w)), some (.frz (.int s)), some (.frz (.int a)), x, some (.frz (.lst (Pl' pl))), y, some (.frz (.lst (I sz))), some (.own (.lst (I ab))), some (.own (.lst (T false rows))), u, v] ∧ rows.length = k ∧ RowsP 4 w pl rows)
      ⟨[], _, _, _, _, rfl, rfl, fun k q r _ e => by simp at e⟩ ?_ ?_
    · rintro k τ K hk ⟨rows, x, y, u, v, rfl, hrl, hR⟩ hK
      obtain ⟨q, hq⟩ : ∃ q, pl[k]? = some q := ⟨_, List.getElem?_eq_getElem hk⟩
      have hqw := hpw q (List.mem_of_getElem? hq)
      have hz := gt_get (xs := sz) (j := k) (by omega)
      have hzb := hszb _ (List.mem_of_getElem? hz)
      walk_at "s"
      refine ⟨_, Pl_at hq, ?_⟩
      walk_at "s"
      refine ⟨⟨by omega, by omega⟩, ?_⟩
      refine comp_range0 (fun j => .int 0) (fun j hj K k' => ?_) (by omega) ?_
      · walk_at "s"
        exact ⟨fun _ => k', fun z => (by cases z)⟩
      rw [range_zeros]
      walk_at "s"
      refine ⟨_, atI_ints (atI_nat hz), ?_⟩
      walk_at "s"
      refine ⟨Nat.le_of_ble_eq_true rfl, ?_⟩
      walk_at "s"
      refine ⟨by simp; omega, ?_⟩
      have e0 : I (List.replicate q 0) ++ [D.int (gt sz k)] = I (List.replicate q 0 ++ [gt sz k]) := by rw [I_snoc]
      walk_at "s"
      refine ⟨_, Pl_at hq, ?_⟩
      walk_at "s"
      refine ⟨⟨by omega, by omega, by omega, by omega⟩, ?_⟩
      refine forR_inv (fun i τ => ∃ (r : List Int) (x v : Option Sl), τ = [some (.frz (.lst (I pool))), some (.frz (.int w)), some (.frz (.int s)), some (.frz (.int a)), x, some (.frz (.lst (Pl' pl))), some (.frz (.int k)), some (.frz (.lst (I sz))), some (.own (.lst (I ab))), some (.own (.lst (T false rows))), some (.own (.lst (I r))), v] ∧ r.length = q + 1 + i ∧ (∀ j, j < q → gt r j = 0) ∧ 0 < gt r q ∧ Bd 4 r)
        ⟨List.replicate q 0 ++ [gt sz k], _, _, by rw [← e0]; rfl, by simp, fun j hj => by rw [gt_snoc, if_neg (by simp; omega), gt_zeros], by rw [gt_snoc, if_pos (by simp)]; omega, (zeros_bd.mono (by decide)).snoc (by omega)⟩ ?_ ?_
      · rintro i τ K2 hi ⟨r, x, v, rfl, hr1, hr2, hr3, hr4⟩ hK2
        walk_at "s"
        refine ⟨mul64 (by omega) (by omega) (by omega) (by omega), ?_⟩
        walk_at "s"
        refine ⟨mul64 (by omega) (by omega) (by omega) (by omega), ?_⟩
        walk_at "s"
        refine ⟨mul64 (by omega) (by omega) (by omega) (by omega), ?_⟩
        walk_at "s"
        refine ⟨by decide, ?_⟩
        refine ⟨_, pat _, ?_⟩
        walk_at "s"
        have ej : ((q : Int) + 1 + (i : Int)) = ((q + 1 + i : Nat) : Int) := by omega
        have haj := gt_get (xs := ab) (j := q + 1 + i) (by omega)
        have fin : ∀ (E : PEnds) (x : Int) (c : Option Sl), (∀ τ, K2 τ → E.nx τ) → x.natAbs < 2 ^ 4 → wApp 10 (wNm 11) E [some (.frz (.lst (I pool))), some (.frz (.int w)), some (.frz (.int s)), some (.frz (.int a)), c, some (.frz (.lst (Pl' pl))), some (.frz (.int k)), some (.frz (.lst (I sz))), some (.own (.lst (I ab))), some (.own (.lst (T false rows))), some (.own (.lst (I r))), some (.frz (.int x))] := fun E x c hE hx => by
          walk_at "s"
          refine ⟨by rw [List.length_map]; omega, ?_⟩
          refine hE _ (hK2 _ ⟨r ++ [x], _, _, by rw [I_snoc]; rfl, by simp [hr1]; omega, fun j hj => by rw [gt_snoc, if_neg (by omega)]; exact hr2 j hj, by rw [gt_snoc, if_neg (by omega)]; exact hr3, hr4.snoc hx⟩)
        refine ⟨.int (gt ab (q + 1 + i)), by rw [ej]; exact atI_ints (atI_nat haj), ?_⟩
        walk_at "s"
        refine ⟨fun z => ?_, fun z => ?_⟩
        · have z' : 0 < gt ab (q + 1 + i) := of_decide_eq_true z
          have hb := hbb.gt (q + 1 + i)
          walk_at "s"
          refine ⟨.int (gt ab (q + 1 + i)), by rw [ej]; exact atI_ints (atI_nat haj), ?_⟩
          walk_at "s"
          refine ⟨z', ?_⟩
          refine fin _ _ _ ?_ ?_
          · exact fun τ k => k
          · have := Int.emod_nonneg (gt pool ((3 * (k : Int) + 5 * ((q : Int) + 1 + (i : Int)) + (k : Int) * ((q : Int) + 1 + (i : Int))) % 11).toNat) (b := gt ab (q + 1 + i)) (by omega)
            have := Int.emod_lt_of_pos (gt pool ((3 * (k : Int) + 5 * ((q : Int) + 1 + (i : Int)) + (k : Int) * ((q : Int) + 1 + (i : Int))) % 11).toNat) z'
            omega
        · refine fin _ _ _ ?_ (hpb.gt _)
          exact fun τ k => k
      · rintro τ ⟨r, x, v, rfl, hr1, hr2, hr3, hr4⟩
        walk_at "s"
        refine ⟨by rw [List.length_map]; omega, ?_⟩
        refine hK _ ⟨rows ++ [r], _, _, _, _, by rw [show T false (rows ++ [r]) = T false rows ++ [sq false (I r)] from by simp [T]]; rfl, by simp [hrl], fun m q' r' e1 e2 => ?_⟩
        rw [List.getElem?_append] at e2
        split at e2
        · exact hR m q' r' e1 e2
        · rename_i hm
          have : m - rows.length = 0 := by
            have := (List.getElem?_eq_some_iff.mp e2).1
            simp at this; omega
          rw [this] at e2
          simp at e2
          subst e2
          have em : m = k := by omega
          subst em
          rw [hq] at e1
          cases e1
          exact ⟨hqw, by omega, hr2, hr3, hr4⟩
    · rintro τ ⟨rows, x, y, u, v, rfl, hrl, hR⟩
      refine h rows ⟨ech_of hrl.symm (fun q _ => Nat.zero_le q) hps hR, by omega, by omega, fun l hl => ?_, by decide, by omega⟩ (by omega) (by omega)
      obtain ⟨k, hk, e⟩ := List.getElem_of_mem hl
      exact (hR k _ l (List.getElem?_eq_getElem (by omega)) (by rw [List.getElem?_eq_getElem hk, e])).2.2.2.2


/-! the law -/
def p_law : PSp := fun ss R => ∃ ns : List Int, ns.length ≤ 63 ∧ ss = [.frz (.scr ns)] ∧ R (.fr (.bl true))
theorem l_law : ∀ ss R, p_law ss R → ss.length = 1 := by rintro ss R ⟨ns, _, rfl, _⟩; rfl
def t0_law : WS := (wFrz 7 (wFrz 6 (wFrz 9 (wFrz 10 (wRet (wAndV (wCall p__law_asked_nothing (wAn 10 (wAe (w2 ixF (rNm 1) (rE (wC (.int 3)))) wNil))) (wCall p__law_asked (wAn 9 (wAn 6 (wAn 7 (wAe (w2 ixF (rNm 1) (rE (wC (.int 3)))) wNil)))))))))))
def t1_law : WS := (wSeq (wSet 10 (wLC (wWQ (wCall p__law_digits (wAe (wCall p__law_cell (wAn 0 (wAe (wC (.int 4)) wNil))) (wAe (w2 mulF (rE (wLst (wIc (wC (.int 19)) wNil))) (rE (wC (.int 6)))) wNil)))) (gN 11) wYes (w2 subF (rNm 11) (rE (wC (.int 9)))) [11]))
      (wFrz 10 (wSeq (wFrz 6 (wIfS (wAnd (tB' (w2 ltF (rE (wCB lenF (wLc (rNm 6) wNil))) (rE (wC (.int 7))))) (wNot (tB' (wCall p__law_asked (wAe (wSl (rNm 10) wO0 (wPart (rNm 4))) (wAn 6 (wAe (wCall p__law_factors (wAe (wSl (rNm 10) wO0 (wPart (rNm 4))) (wAn 6 wNil))) (wAe (w2 ixF (rNm 1) (rE (wC (.int 3)))) wNil))))))))
      (wRet (wC (.bl false)))
      wSkip))
      t0_law)))
def t2_law : WS := (wSeq (wFrz 7 (wFrz 6 (wFrz 9 (wIfS (wOr (wNot (tB' (wCall p__law_asked_scaled (wAn 9 (wAn 6 (wAn 7 (wAn 8 (wAe (w2 ixF (rNm 1) (rE (wC (.int 3)))) wNil)))))))) (wNot (tB' (wCall p__law_asked_rows (wAn 6 (wAn 4 (wAe (w2 ixF (rNm 1) (rE (wC (.int 2)))) wNil)))))))
      (wRet (wC (.bl false)))
      wSkip))))
      t1_law)
def t3_law : WS := (wSeq (wFrz 1 (wFrz 6 (wFrz 9 (wIfS (wNot (tB' (wCall p__law_asked_shifted (wAn 9 (wAn 6 (wAn 1 (wAe (w2 ixF (rE (wLst (wIc (w2 ixF (rNm 1) (rE (wC (.int 12)))) (wIc (w2 ixF (rNm 2) (rE (wC (.int 3)))) wNil)))) (rE (w2 ixF (rNm 1) (rE (wC (.int 10)))))) wNil)))))))
      (wRet (wC (.bl false)))
      wSkip))))
      t2_law)
def t4_law : WS := (wSeq (wFrz 7 (wFrz 6 (wSet 9 (wCall p__law_mixture (wAn 6 (wAn 7 (wAn 4 wNil)))))))
      (wFrz 9 (wSeq (wFrz 7 (wFrz 6 (wFrz 9 (wIfS (wNot (tB' (wCall p__law_asked (wAn 9 (wAn 6 (wAn 7 (wAe (w2 ixF (rNm 1) (rE (wC (.int 2)))) wNil)))))))
      (wRet (wC (.bl false)))
      wSkip))))
      t3_law)))
def t5_law : WS := (wSeq (wFrz 3 (wSet 7 (wCall p__law_drawn_factors (wAe (wCall p__law_cell (wAn 0 (wAe (wC (.int 3)) wNil))) (wAe (wCB lenF (wLc (rNm 6) wNil)) (wAn 3 wNil))))))
      (wFrz 7 (wSeq (wSet 8 (w2 addF (rE (wC (.int 2))) (rE (w2 ixF (rNm 1) (rE (wC (.int 7)))))))
      (wSeq (wIfS (tB' (w2 (eqF false) (rE (w2 ixF (rNm 1) (rE (wC (.int 8))))) (rE (wC (.int 1)))))
      (wSeq (wFrz 7 (wSet 7 (wLC (wWQB 7) (gN 12) wYes (w2 mulF (rNm 8) (rNm 12)) [12])))
      (wFrz 7 wSkip))
      wSkip)
      t4_law))))
def w_law : WS := (wSeq (wSet 1 (wCall p__law_digits (wAe (wCall p__law_cell (wAn 0 (wAe (wC (.int 0)) wNil))) (wAe (wLst (wIc (wC (.int 16)) (wIc (wC (.int 13)) (wIc (wC (.int 8)) (wIc (wC (.int 8)) (wIc (wC (.int 200)) (wIc (wC (.int 3)) (wIc (wC (.int 50)) (wIc (wC (.int 5)) (wIc (wC (.int 2)) (wIc (wC (.int 2)) (wIc (wC (.int 2)) (wIc (wC (.int 30)) (wIc (wC (.int 10)) wNil)))))))))))))) wNil))))
      (wFrz 1 (wSeq (wSet 2 (wCall p__law_digits (wAe (wCall p__law_cell (wAn 0 (wAe (wC (.int 1)) wNil))) (wAe (wLst (wIc (w2 powF (rE (wC (.int 10))) (rE (wC (.int 8)))) (wIc (w2 powF (rE (wC (.int 10))) (rE (wC (.int 8)))) (wIc (w2 powF (rE (wC (.int 10))) (rE (wC (.int 8)))) (wIc (w2 powF (rE (wC (.int 10))) (rE (wC (.int 8)))) wNil))))) wNil))))
      (wFrz 2 (wSeq (wSet 3 (wLC (wWQ (wCall p__law_digits (wAe (wCall p__law_cell (wAn 0 (wAe (wC (.int 5)) wNil))) (wAe (w2 mulF (rE (wLst (wIc (wC (.int 19)) wNil))) (rE (wC (.int 11)))) wNil)))) (gN 11) wYes (w2 subF (rNm 11) (rE (wC (.int 9)))) [11]))
      (wFrz 3 (wSeq (wIfS (tB' (w2 ltF (rE (w2 ixF (rNm 1) (rE (wC (.int 0))))) (rE (wC (.int 15)))))
      (wSeq (wSet 4 (w2 ixF (rE (wLst (wIc (wC (.int 1)) (wIc (wC (.int 2)) (wIc (wC (.int 2)) (wIc (wC (.int 3)) (wIc (wC (.int 3)) (wIc (wC (.int 3)) (wIc (wC (.int 4)) (wIc (wC (.int 4)) (wIc (wC (.int 5)) (wIc (wC (.int 5)) (wIc (wC (.int 6)) (wIc (wC (.int 6)) (wIc (wC (.int 0)) wNil))))))))))))))) (rE (w2 ixF (rNm 1) (rE (wC (.int 1)))))))
      (wSeq (wSet 5 (wCall p__law_digits (wAe (wCall p__law_cell (wAn 0 (wAe (wC (.int 2)) wNil))) (wAe (w2 addF (rE (w2 addF (rE (w2 mulF (rE (wLst (wIc (wC (.int 4)) wNil))) (rE (wC (.int 6))))) (rE (w2 mulF (rE (wLst (wIc (wC (.int 9)) wNil))) (rE (wC (.int 6))))))) (rE (w2 mulF (rE (wLst (wIc (wC (.int 19)) wNil))) (rE (wC (.int 36)))))) wNil))))
      (wFrz 5 (wSeq (wFrz 5 (wSet 6 (wCall p__law_basis (wAn 5 (wAn 4 (wAe (w2 addF (rE (w2 addF (rE (w2 addF (rE (wC (.int 1))) (rE (w2 mulF (rE (w2 ixF (rNm 2) (rE (wC (.int 0))))) (rE (w2 powF (rE (wC (.int 10))) (rE (wC (.int 16))))))))) (rE (w2 mulF (rE (w2 ixF (rNm 2) (rE (wC (.int 1))))) (rE (w2 powF (rE (wC (.int 10))) (rE (wC (.int 8))))))))) (rE (w2 ixF (rNm 2) (rE (wC (.int 2)))))) wNil))))))
      (wFrz 6 wSkip)))))
      (wSeq (wSet 4 (w2 addF (rE (wC (.int 151))) (rE (w2 ixF (rNm 1) (rE (wC (.int 6)))))))
      (wSeq (wFrz 3 (wSet 6 (wCall p__law_large_basis (wAn 3 (wAn 4 (wAe (w2 addF (rE (wC (.int 1))) (rE (w2 ixF (rNm 1) (rE (wC (.int 5)))))) (wAe (w2 ixF (rNm 1) (rE (wC (.int 11)))) wNil)))))))
      (wFrz 6 wSkip))))
      t5_law)))))))
def sz1 : List Int := [16, 13, 8, 8, 200, 3, 50, 5, 2, 2, 2, 30, 10]
def sz2 : List Int := [100000000, 100000000, 100000000, 100000000]
structure Ctx (ds gs pool : List Int) (w c : Nat) (rows : List (List Int)) : Prop where
  d : Dg sz1 ds
  g : Dg sz2 gs
  pl : pool.length = 11
  pb : Bd 4 pool
  bas : Bas w c rows
  c84 : c ≤ 84
  big : rows.length ≤ 6 ∧ w ≤ 6 ∨ 7 ≤ rows.length
  most : rows.length ≤ 200
abbrev EL (R : Res → Prop) : PEnds := { nx := fun _ => R (.fr .non), rt := fun r _ => R r }
abbrev stL (ns ds gs pool : List Int) (w : Nat) (s5 : Option Sl) (rows : List (List Int)) (s7 s8 s9 s10 s11 s12 : Option Sl) : Sls :=
  [some (.frz (.scr ns)), some (.frz (.lst (I ds))), some (.frz (.lst (I gs))), some (.frz (.lst (I pool))), some (.frz (.int (w : Int))), s5, some (.frz (.lst (T false rows))), s7, s8, s9, s10, s11, s12]
section
variable {ns ds gs pool : List Int} {w c : Nat} {rows : List (List Int)} {R : Res → Prop} {s5 s8 s9 s10 s11 s12 : Option Sl} {xs fs : List Int} {sc : Int}
theorem dsat (C : Ctx ds gs pool w c rows) {k : Nat} {z : Int} (e : sz1[k]? = some z) : 0 ≤ gt ds k ∧ gt ds k < z ∧ atI (I ds) (k : Int) = some (.int (gt ds k)) := by
  obtain ⟨h1, h2, h3⟩ := C.d.at e
  exact ⟨h1, h2, atI_ints (atI_nat h3)⟩
/-- the sum and its factors -/
structure Sum (w : Nat) (rows : List (List Int)) (fs xs : List Int) : Prop where
  fl : fs.length = rows.length
  fb : Bd 87 fs
  xl : xs.length = w
  xb : Bd 500 xs
  m : ∀ j, j < w → gt xs j = mixV rows fs j
theorem Sum.elim (C : Ctx ds gs pool w c rows) (S : Sum w rows fs xs) : Law.elim xs rows = some fs := elim_mix C.bas.1 S.fl S.xl S.m
theorem Sum.elm (C : Ctx ds gs pool w c rows) (S : Sum w rows fs xs) : Elm xs rows := C.bas.elm S.xl S.xb (by decide) (by decide)
theorem t0_ok (C : Ctx ds gs pool w c rows) (S : Sum w rows fs xs) {free : List Int} (hfl : free.length = 6) (hfb : Bd 5 free) (h : R (.fr (.bl true))) :
    t0_law (EL R) (stL ns ds gs pool w s5 rows (some (.frz (.lst (I fs)))) s8 (some (.frz (.lst (I xs)))) (some (.frz (.lst (I free)))) s11 s12) := by
  walk_at "s"
  refine ⟨_, (dsat C (k := 3) rfl).2.2, ?_⟩
  refine ⟨free, _, rfl, by omega, hfb.mono (by decide), ?_⟩
  walk_at "s"
  refine ⟨fun _ => ?_, fun z => (by cases z)⟩
  walk_at "s"
  refine ⟨_, (dsat C (k := 3) rfl).2.2, ?_⟩
  exact ⟨xs, rows, _, .lst (I fs), rfl, S.elm C, by rw [S.elim C], h⟩
theorem t1_ok (C : Ctx ds gs pool w c rows) (S : Sum w rows fs xs) (h : R (.fr (.bl true))) :
    t1_law (EL R) (stL ns ds gs pool w s5 rows (some (.frz (.lst (I fs)))) s8 (some (.frz (.lst (I xs)))) s10 s11 s12) := by
  have hT : ∀ (free : List Int) (s11 s12 : Option Sl), free.length = 6 → Bd 5 free → t0_law (EL R) (stL ns ds gs pool w s5 rows (some (.frz (.lst (I fs)))) s8 (some (.frz (.lst (I xs)))) (some (.frz (.lst (I free)))) s11 s12) := fun free s11 s12 a b => t0_ok C S a b h
  unfold t1_law
  generalize t0_law = Tl at hT ⊢
  walk_at "s"
  refine ⟨ns, 4, rfl, by decide, by decide, fun z => ?_⟩
  walk_at "s"
  refine ⟨by decide, ?_⟩
  walk_at "s"
  refine ⟨by decide, ?_⟩
  refine ⟨z, List.replicate 6 19, rfl, by decide, by decide, fun fd hfd => ?_⟩
  have hl := hfd.len
  walk_at "s"
  refine comp_map (L := fd) (fun x => .int (x - 9)) (fun x hx K k => ?_) (by simp at hl; omega) ?_
  · walk_at "s"
    exact ⟨fun _ => k, fun z => (by cases z)⟩
  have ef : (fd.map fun x => D.int (x - 9)) = I (fd.map fun x => x - 9) := by simp [I]
  rw [ef]
  have hfl : (fd.map fun x => x - 9).length = 6 := by simpa using hl
  have hfb : Bd 5 (fd.map fun x => x - 9) := fun y hy => by
    obtain ⟨x, hx, rfl⟩ := List.mem_map.mp hy
    obtain ⟨j, hj, e⟩ := List.getElem_of_mem hx
    have hj6 : j < 6 := by simp at hl; omega
    obtain ⟨h1, h2, h3⟩ := hfd.at (i := j) (s := 19) (by rw [List.getElem?_replicate, if_pos hj6])
    rw [List.getElem?_eq_getElem hj, e] at h3
    cases h3
    omega
  generalize (fd.map fun x => x - 9) = free at hfl hfb
  walk_at "s"
  have lt : (T false rows).length = rows.length := by simp
  rw [lt]
  refine ⟨fun z => ?_, fun _ => ?_⟩
  · have z' : rows.length < 7 := by
      have : (rows.length : Int) < 7 := of_decide_eq_true z
      omega
    have hw6 : w ≤ 6 := by
      rcases C.big with b | b <;> omega
    have ec : cutD (I free) none (some (w : Int)) = I (free.take w) := by
      rw [cutD_to (b := w) rfl (by rw [List.length_map]; omega), I, I, List.map_take]
    have hE : Elm (free.take w) rows := C.bas.elm (b := 5) (by simp; omega) (fun x hx => hfb x (List.mem_of_mem_take hx)) (by decide) (by decide)
    walk_at "s"
    rw [ec]
    refine ⟨false, false, false, _, rows, rfl, hE, ?_⟩
    cases e : elim (free.take w) rows with
    | none =>
      walk_at "s"
      refine ⟨_, (dsat C (k := 3) rfl).2.2, ?_⟩
      refine ⟨_, rows, _, .non, rfl, hE, by rw [e], ?_⟩
      walk_at "s"
      exact ⟨fun z => (by cases z), fun _ => hT _ _ _ hfl hfb⟩
    | some fs2 =>
      walk_at "s"
      refine ⟨_, (dsat C (k := 3) rfl).2.2, ?_⟩
      refine ⟨_, rows, _, .lst (I fs2), rfl, hE, by rw [e], ?_⟩
      walk_at "s"
      exact ⟨fun z => (by cases z), fun _ => hT _ _ _ hfl hfb⟩
  · walk_at "s"
    exact ⟨fun z => (by cases z), fun _ => hT _ _ _ hfl hfb⟩
theorem t2_ok (C : Ctx ds gs pool w c rows) (S : Sum w rows fs xs) (h0 : 0 < sc) (h1 : sc < 8) (h : R (.fr (.bl true))) :
    t2_law (EL R) (stL ns ds gs pool w s5 rows (some (.frz (.lst (I fs)))) (some (.frz (.int sc))) (some (.frz (.lst (I xs)))) s10 s11 s12) := by
  have c84 := C.c84
  have hT := t1_ok (ns := ns) (s5 := s5) (s8 := some (.frz (.int sc))) (s10 := s10) (s11 := s11) (s12 := s12) C S h
  unfold t2_law
  generalize t1_law = Tl at hT ⊢
  walk_at "s"
  refine ⟨_, (dsat C (k := 3) rfl).2.2, ?_⟩
  refine ⟨xs, rows, fs, w, c, 500, sc, _, rfl, C.bas, S.xl, S.xb, by decide, by decide, by omega, S.fl, S.fb.mono (by decide), S.m, h0, h1, ?_⟩
  walk_at "s"
  refine ⟨fun z => (by cases z), fun _ => ?_⟩
  walk_at "s"
  refine ⟨_, (dsat C (k := 2) rfl).2.2, ?_⟩
  refine ⟨rows, w, c, _, rfl, C.bas, by omega, ?_⟩
  walk_at "s"
  refine ⟨fun z => (by cases z), fun _ => ?_⟩
  exact hT
theorem t3_ok (C : Ctx ds gs pool w c rows) (S : Sum w rows fs xs) (h0 : 0 < sc) (h1 : sc < 8) (h : R (.fr (.bl true))) :
    t3_law (EL R) (stL ns ds gs pool w s5 rows (some (.frz (.lst (I fs)))) (some (.frz (.int sc))) (some (.frz (.lst (I xs)))) s10 s11 s12) := by
  have hT := t2_ok (ns := ns) (s5 := s5) (s10 := s10) (s11 := s11) (s12 := s12) C S h0 h1 h
  unfold t3_law
  generalize t2_law = Tl at hT ⊢
  have hdl := C.d.len
  have h12 := dsat C (k := 12) rfl
  have h10 := dsat C (k := 10) rfl
  have h9 := dsat C (k := 9) rfl
  have h4 := dsat C (k := 4) rfl
  obtain ⟨g1, g2, g3⟩ := C.g.at (i := 3) rfl
  walk_at "s"
  refine ⟨_, h12.2.2, ?_⟩
  walk_at "s"
  refine ⟨_, atI_ints (atI_nat (j := 3) g3), ?_⟩
  walk_at "s"
  refine ⟨Nat.le_of_ble_eq_true rfl, ?_⟩
  walk_at "s"
  refine ⟨_, h10.2.2, ?_⟩
  have cs : gt ds 10 = 0 ∨ gt ds 10 = 1 := by omega
  rcases cs with e | e <;> rw [e] <;> refine ⟨_, rfl, ?_⟩
  · refine ⟨xs, rows, fs, ds, w, c, 500, gt ds 12, rfl, C.bas, S.xl, S.xb, by decide, by decide, S.fl, S.m, hdl, by omega, h4.1, h12.1, by omega, ?_⟩
    walk_at "s"
    exact ⟨fun z => (by cases z), fun _ => hT⟩
  · refine ⟨xs, rows, fs, ds, w, c, 500, gt gs 3, rfl, C.bas, S.xl, S.xb, by decide, by decide, S.fl, S.m, hdl, by omega, h4.1, g1, by omega, ?_⟩
    walk_at "s"
    exact ⟨fun z => (by cases z), fun _ => hT⟩
theorem t4_ok (C : Ctx ds gs pool w c rows) (hfl : fs.length = rows.length) (hfb : Bd 87 fs) (h0 : 0 < sc) (h1 : sc < 8) (h : R (.fr (.bl true))) :
    t4_law (EL R) (stL ns ds gs pool w s5 rows (some (.frz (.lst (I fs)))) (some (.frz (.int sc))) s9 s10 s11 s12) := by
  obtain ⟨hE, hw, hn, hb, hc0, hs⟩ := C.bas
  have c84 := C.c84
  have most := C.most
  have hT : ∀ xs : List Int, Sum w rows fs xs → t3_law (EL R) (stL ns ds gs pool w s5 rows (some (.frz (.lst (I fs)))) (some (.frz (.int sc))) (some (.frz (.lst (I xs)))) s10 s11 s12) := fun xs S => t3_ok C S h0 h1 h
  unfold t4_law
  generalize t3_law = Tl at hT ⊢
  walk_at "s"
  refine ⟨rows, fs, w, c, 87, rfl, hw, hn, hfl, mem_len hE, hb, hfb, hc0, by omega, by omega, fun xs hx hm hxb => ?_⟩
  have S : Sum w rows fs xs := ⟨hfl, hfb, hx, hxb.mono (by omega), hm⟩
  walk_at "s"
  refine ⟨_, (dsat C (k := 2) rfl).2.2, ?_⟩
  refine ⟨xs, rows, _, .lst (I fs), rfl, S.elm C, by rw [S.elim C], ?_⟩
  walk_at "s"
  exact ⟨fun z => (by cases z), fun _ => hT xs S⟩
theorem t5_ok (C : Ctx ds gs pool w c rows) {s7 : Option Sl} (h : R (.fr (.bl true))) :
    t5_law (EL R) (stL ns ds gs pool w s5 rows s7 s8 s9 s10 s11 s12) := by
  have most := C.most
  have h7 := dsat C (k := 7) rfl
  have h8 := dsat C (k := 8) rfl
  have hT : ∀ (fs : List Int) (s12 : Option Sl), fs.length = rows.length → Bd 87 fs → t4_law (EL R) (stL ns ds gs pool w s5 rows (some (.frz (.lst (I fs)))) (some (.frz (.int (2 + gt ds 7)))) s9 s10 s11 s12) := fun fs s12 a b => t4_ok C a b (by omega) (by omega) h
  unfold t5_law
  generalize t4_law = Tl at hT ⊢
  walk_at "s"
  refine ⟨ns, 3, rfl, by decide, by decide, fun z => ?_⟩
  walk_at "s"
  have lt : (T false rows).length = rows.length := by simp
  rw [lt]
  refine ⟨z, rows.length, pool, rfl, by omega, C.pl, C.pb, fun fs hfl hfb => ?_⟩
  walk_at "s"
  refine ⟨_, h7.2.2, ?_⟩
  walk_at "s"
  refine ⟨_, h8.2.2, ?_⟩
  walk_at "s"
  refine ⟨fun _ => ?_, fun _ => ?_⟩
  · walk_at "s"
    refine comp_map (L := fs) (fun x => .int ((2 + gt ds 7) * x)) (fun x hx K k => ?_) (by omega) ?_
    · walk_at "s"
      refine ⟨fun _ => ?_, fun z => (by cases z)⟩
      exact ⟨mulx_ok (a := 4) (b := 84) (by omega) (hfb x hx) (by decide), k⟩
    rw [show (fs.map fun x => D.int ((2 + gt ds 7) * x)) = I (fs.map fun x => (2 + gt ds 7) * x) from by simp [I]]
    walk_at "s"
    exact hT _ _ (by simpa using hfl) (fun y hy => by
      obtain ⟨x, hx, rfl⟩ := List.mem_map.mp hy
      rw [Int.mul_comm]
      exact wide_lt (a := 84) (b := 3) (hfb x hx) (by omega))
  · exact hT _ _ hfl (hfb.mono (by decide))
end
theorem h_law : ∀ ss R, p_law ss R → w_law { nx := fun _ => R (.fr .non), rt := fun r _ => R r } (startS 13 ss) := by
  rintro ss R ⟨ns, hns, rfl, h⟩
  have hT : ∀ (ds gs pool : List Int) (w c : Nat) (rows : List (List Int)) (s5 : Option Sl), Ctx ds gs pool w c rows → t5_law (EL R) (stL ns ds gs pool w s5 rows none none none none none none) := fun ds gs pool w c rows s5 C => t5_ok C h
  unfold w_law
  generalize t5_law = Tl at hT ⊢
  walk_at "s"
  refine ⟨ns, 0, rfl, by decide, by decide, fun z => ?_⟩
  walk_at "s"
  refine ⟨by decide, ?_⟩
  refine ⟨z, sz1, rfl, by decide, by decide, fun ds hds => ?_⟩
  walk_at "s"
  refine ⟨ns, 1, rfl, by decide, by decide, fun z => ?_⟩
  walk_at "s"
  refine ⟨⟨by decide, by decide, by decide⟩, ?_⟩
  walk_at "s"
  refine ⟨⟨by decide, by decide, by decide⟩, ?_⟩
  walk_at "s"
  refine ⟨⟨by decide, by decide, by decide⟩, ?_⟩
  walk_at "s"
  refine ⟨⟨by decide, by decide, by decide⟩, ?_⟩
  walk_at "s"
  refine ⟨by decide, ?_⟩
  refine ⟨z, sz2, rfl, by decide, by decide, fun gs hgs => ?_⟩
  walk_at "s"
  refine ⟨ns, 5, rfl, by decide, by decide, fun z => ?_⟩
  walk_at "s"
  refine ⟨by decide, ?_⟩
  walk_at "s"
  refine ⟨by decide, ?_⟩
  refine ⟨z, List.replicate 11 19, rfl, by decide, by decide, fun pd hpd => ?_⟩
  have hl := hpd.len
  walk_at "s"
  refine comp_map (L := pd) (fun x => .int (x - 9)) (fun x hx K k => ?_) (by simp at hl; omega) ?_
  · walk_at "s"
    exact ⟨fun _ => k, fun z => (by cases z)⟩
  rw [show (pd.map fun x => D.int (x - 9)) = I (pd.map fun x => x - 9) from by simp [I]]
  have hpl : (pd.map fun x => x - 9).length = 11 := by simpa using hl
  have hpb : Bd 4 (pd.map fun x => x - 9) := fun y hy => by
    obtain ⟨x, hx, rfl⟩ := List.mem_map.mp hy
    obtain ⟨j, hj, e⟩ := List.getElem_of_mem hx
    have hj6 : j < 11 := by simp at hl; omega
    obtain ⟨h1, h2, h3⟩ := hpd.at (i := j) (s := 19) (by rw [List.getElem?_replicate, if_pos hj6])
    rw [List.getElem?_eq_getElem hj, e] at h3
    cases h3
    omega
  generalize (pd.map fun x => x - 9) = pool at hpl hpb
  have da : ∀ {k : Nat} {z : Int}, sz1[k]? = some z → 0 ≤ gt ds k ∧ gt ds k < z ∧ atI (I ds) (k : Int) = some (.int (gt ds k)) := fun {k z} e => by
    obtain ⟨h1, h2, h3⟩ := hds.at e
    exact ⟨h1, h2, atI_ints (atI_nat h3)⟩
  have d0 := da (k := 0) rfl
  have d1 := da (k := 1) rfl
  have d5 := da (k := 5) rfl
  have d6 := da (k := 6) rfl
  have d11 := da (k := 11) rfl
  walk_at "s"
  refine ⟨_, d0.2.2, ?_⟩
  walk_at "s"
  refine ⟨fun _ => ?_, fun _ => ?_⟩
  · walk_at "s"
    refine ⟨Nat.le_of_ble_eq_true rfl, ?_⟩
    walk_at "s"
    refine ⟨_, d1.2.2, ?_⟩
    obtain ⟨g0a, g0b, g0c⟩ := hgs.at (i := 0) rfl
    obtain ⟨g1a, g1b, g1c⟩ := hgs.at (i := 1) rfl
    obtain ⟨g2a, g2b, g2c⟩ := hgs.at (i := 2) rfl
    have rest : ∀ (E : PEnds) (wd : Nat), wd ≤ 6 → (∀ τ, Tl (EL R) τ → E.nx τ) → (wSeq (wSet 5 (wCall p__law_digits (wAe (wCall p__law_cell (wAn 0 (wAe (wC (.int 2)) wNil))) (wAe (w2 addF (rE (w2 addF (rE (w2 mulF (rE (wLst (wIc (wC (.int 4)) wNil))) (rE (wC (.int 6))))) (rE (w2 mulF (rE (wLst (wIc (wC (.int 9)) wNil))) (rE (wC (.int 6))))))) (rE (w2 mulF (rE (wLst (wIc (wC (.int 19)) wNil))) (rE (wC (.int 36)))))) wNil))))
      (wFrz 5 (wSeq (wFrz 5 (wSet 6 (wCall p__law_basis (wAn 5 (wAn 4 (wAe (w2 addF (rE (w2 addF (rE (w2 addF (rE (wC (.int 1))) (rE (w2 mulF (rE (w2 ixF (rNm 2) (rE (wC (.int 0))))) (rE (w2 powF (rE (wC (.int 10))) (rE (wC (.int 16))))))))) (rE (w2 mulF (rE (w2 ixF (rNm 2) (rE (wC (.int 1))))) (rE (w2 powF (rE (wC (.int 10))) (rE (wC (.int 8))))))))) (rE (w2 ixF (rNm 2) (rE (wC (.int 2)))))) wNil))))))
      (wFrz 6 wSkip)))) E [some (.frz (.scr ns)), some (.frz (.lst (I ds))), some (.frz (.lst (I gs))), some (.frz (.lst (I pool))), some (.frz (.int (wd : Int))), none, none, none, none, none, none, none, none] := fun E wd hwd hE => by
      walk_at "s"
      refine ⟨ns, 2, rfl, by decide, by decide, fun z => ?_⟩
      walk_at "s"
      refine ⟨by decide, ?_⟩
      walk_at "s"
      refine ⟨by decide, ?_⟩
      walk_at "s"
      refine ⟨by decide, ?_⟩
      walk_at "s"
      refine ⟨by decide, ?_⟩
      walk_at "s"
      refine ⟨by decide, ?_⟩
      walk_at "s"
      refine ⟨by decide, ?_⟩
      walk_at "s"
      refine ⟨by decide, ?_⟩
      walk_at "s"
      refine ⟨by decide, ?_⟩
      refine ⟨z, basSz, rfl, by decide, by decide, fun bs hbs => ?_⟩
      walk_at "s"
      refine ⟨_, atI_ints (atI_nat (j := 0) g0c), ?_⟩
      walk_at "s"
      refine ⟨⟨by decide, by decide, by decide⟩, ?_⟩
      walk_at "s"
      refine ⟨mul64 (by omega) (by omega) (by decide) (by decide), ?_⟩
      walk_at "s"
      refine ⟨_, atI_ints (atI_nat (j := 1) g1c), ?_⟩
      walk_at "s"
      refine ⟨⟨by decide, by decide, by decide⟩, ?_⟩
      walk_at "s"
      refine ⟨mul64 (by omega) (by omega) (by decide) (by decide), ?_⟩
      walk_at "s"
      refine ⟨_, atI_ints (atI_nat (j := 2) g2c), ?_⟩
      have e1 : (10 : Int) ^ (16 : Int).toNat = 10000000000000000 := by decide
      have e2 : (10 : Int) ^ (8 : Int).toNat = 100000000 := by decide
      refine ⟨bs, wd, _, rfl, hbs, hwd, ?_, ?_, fun rows hB hr => ?_⟩
      · rw [e1, e2]; omega
      · rw [e1, e2]; omega
      · exact hE _ (hT ds gs pool wd 84 rows _ ⟨hds, hgs, hpl, hpb, hB, Nat.le_refl _, .inl ⟨hr, hwd⟩, by omega⟩)
    have cs : gt ds 1 = 0 ∨ gt ds 1 = 1 ∨ gt ds 1 = 2 ∨ gt ds 1 = 3 ∨ gt ds 1 = 4 ∨ gt ds 1 = 5 ∨ gt ds 1 = 6 ∨ gt ds 1 = 7 ∨ gt ds 1 = 8 ∨ gt ds 1 = 9 ∨ gt ds 1 = 10 ∨ gt ds 1 = 11 ∨ gt ds 1 = 12 := by omega
    rcases cs with e | e | e | e | e | e | e | e | e | e | e | e | e <;> rw [e] <;> refine ⟨_, rfl, ?_⟩
    · exact rest _ 1 (by decide) (fun τ k => k)
    · exact rest _ 2 (by decide) (fun τ k => k)
    · exact rest _ 2 (by decide) (fun τ k => k)
    · exact rest _ 3 (by decide) (fun τ k => k)
    · exact rest _ 3 (by decide) (fun τ k => k)
    · exact rest _ 3 (by decide) (fun τ k => k)
    · exact rest _ 4 (by decide) (fun τ k => k)
    · exact rest _ 4 (by decide) (fun τ k => k)
    · exact rest _ 5 (by decide) (fun τ k => k)
    · exact rest _ 5 (by decide) (fun τ k => k)
    · exact rest _ 6 (by decide) (fun τ k => k)
    · exact rest _ 6 (by decide) (fun τ k => k)
    · exact rest _ 0 (by decide) (fun τ k => k)
  · walk_at "s"
    refine ⟨_, d6.2.2, ?_⟩
    walk_at "s"
    refine ⟨_, d5.2.2, ?_⟩
    walk_at "s"
    refine ⟨_, d11.2.2, ?_⟩
    obtain ⟨w, hw⟩ : ∃ w : Nat, 151 + gt ds 6 = (w : Int) := ⟨(151 + gt ds 6).toNat, by omega⟩
    obtain ⟨s, hs⟩ : ∃ s : Nat, 1 + gt ds 5 = (s : Int) := ⟨(1 + gt ds 5).toNat, by omega⟩
    obtain ⟨a, ha⟩ : ∃ a : Nat, gt ds 11 = (a : Int) := ⟨(gt ds 11).toNat, by omega⟩
    refine ⟨pool, w, s, a, ?_, hpl, hpb, by omega, by omega, by omega, by omega, by omega, fun rows hB h7 hr => ?_⟩
    · rw [← hw, ← hs, ← ha]; rfl
    · walk_at "s"
      have := hT ds gs pool w 4 rows none ⟨hds, hgs, hpl, hpb, hB, by decide, .inr h7, hr⟩
      rw [stL, ← hw] at this
      exact this


end Law
set_option maxHeartbeats 0
namespace Law
open PySem L2 Pl PySem.Spec PyProof.Rows
def top (i : Nat) : Stmt := PySem.Challenge.pw_fewestmarks_k02_coordinates.main.body.getD i (.Pass ⟨0, 0, 0, 0⟩)
abbrev s__law_same : Stmt := top 14
/-! the def row_difference -/
abbrev s_row_difference : Stmt := top 1
theorem sc_row_difference : FnScope ["one", "two", "first", "second"] ["one", "two"] (defScope s_row_difference) := ⟨rfl, rfl, rfl, by decide +kernel, rfl, by decide +kernel, by decide +kernel⟩
theorem ok_row_difference {P : Program} {w : World} {K : PySem.W.Frag} {mg : Str → Option Value} {base : Heap} {cl : Nat → Addr} (T : BF mg) (F : Fd K mg "row_difference" s_row_difference)  : Def P w K mg base 1 "row_difference" ["one", "two"] (spD ⟨K, cl⟩ p_row_difference) := by
  refine F.ok (k := 0) (w' := w_row_difference) sc_row_difference 4 rfl (fun _ _ _ _ _ _ us hl => match us, hl with | [_, _], _ => rfl) (len_of l_row_difference) (fun cdv A outer s H E f hr => ⟨_,
      (lss_one (sRet (le_ct lb_tuple rfl T.tuple bt_tuple (ll_cons (lr_e (le_lc (own := [("first", 2), ("second", 3)]) (is := [2, 3]) rfl sc_row_difference.nd (lk_zip rfl T.zip (eN 0) (eN 1)) (blkOk_by (own := [("first", 2), ("second", 3)]) (N := ["one", "two", "first", "second"]) (sc := defScope s_row_difference) (by decide +kernel)) (fun _ _ _ _ _ => (gT rfl (lgs_cons (gNm 2 sc_row_difference.nd) (lgs_cons (gNm 3 sc_row_difference.nd) lgs_nil)))) (fun _ _ _ _ _ => lts_nil) (fun _ _ _ _ _ => (le_sub (rN 2) (rN 3))))) ll_nil))))⟩) h_row_difference

/-! the def scaled_row -/
abbrev s_scaled_row : Stmt := top 2
theorem sc_scaled_row : FnScope ["row", "factor", "item"] ["row", "factor"] (defScope s_scaled_row) := ⟨rfl, rfl, rfl, by decide +kernel, rfl, by decide +kernel, by decide +kernel⟩
theorem ok_scaled_row {P : Program} {w : World} {K : PySem.W.Frag} {mg : Str → Option Value} {base : Heap} {cl : Nat → Addr} (T : BF mg) (F : Fd K mg "scaled_row" s_scaled_row)  : Def P w K mg base 1 "scaled_row" ["row", "factor"] (spD ⟨K, cl⟩ p_scaled_row) := by
  refine F.ok (k := 0) (w' := w_scaled_row) sc_scaled_row 3 rfl (fun _ _ _ _ _ _ us hl => match us, hl with | [_, _], _ => rfl) (len_of l_scaled_row) (fun cdv A outer s H E f hr => ⟨_,
      (lss_one (sRet (le_ct lb_tuple rfl T.tuple bt_tuple (ll_cons (lr_e (le_lc (own := [("item", 2)]) (is := [2]) rfl sc_scaled_row.nd (kN 0) (blkOk_by (own := [("item", 2)]) (N := ["row", "factor", "item"]) (sc := defScope s_scaled_row) (by decide +kernel)) (fun _ _ _ _ _ => (gNm 2 sc_scaled_row.nd)) (fun _ _ _ _ _ => lts_nil) (fun _ _ _ _ _ => (le_mul (rN 2) (rN 1))))) ll_nil))))⟩) h_scaled_row

/-! the def is_zero_row -/
abbrev s_is_zero_row : Stmt := top 3
theorem sc_is_zero_row : FnScope ["row", "item"] ["row"] (defScope s_is_zero_row) := ⟨rfl, rfl, rfl, by decide +kernel, rfl, by decide +kernel, by decide +kernel⟩
theorem ok_is_zero_row {P : Program} {w : World} {K : PySem.W.Frag} {mg : Str → Option Value} {base : Heap} {cl : Nat → Addr} (T : BF mg) (F : Fd K mg "is_zero_row" s_is_zero_row)  : Def P w K mg base 1 "is_zero_row" ["row"] (spD ⟨K, cl⟩ p_is_zero_row) := by
  refine F.ok (k := 0) (w' := w_is_zero_row) sc_is_zero_row 2 rfl (fun _ _ _ _ _ _ us hl => match us, hl with | [_], _ => rfl) (len_of l_is_zero_row) (fun cdv A outer s H E f hr => ⟨_,
      (lss_cons (ls_for PassesOwn.never rfl (kN 0) (gNm 1 sc_is_zero_row.nd)
      (lss_one (ls_if (lt_cmp (lc_ne hr.units) (rN 1) (lr_e le_int) (nomark _))
      (lss_one (sRet le_bl))
      lss_nil)))
      (lss_one (sRet le_bl)))⟩) h_is_zero_row

/-! the def pivot_of -/
abbrev s_pivot_of : Stmt := top 5
theorem sc_pivot_of : FnScope ["row", "at"] ["row"] (defScope s_pivot_of) := ⟨rfl, rfl, rfl, by decide +kernel, rfl, by decide +kernel, by decide +kernel⟩
theorem ok_pivot_of {P : Program} {w : World} {K : PySem.W.Frag} {mg : Str → Option Value} {base : Heap} {cl : Nat → Addr} (T : BF mg) (F : Fd K mg "pivot_of" s_pivot_of)  : Def P w K mg base 1 "pivot_of" ["row"] (spD ⟨K, cl⟩ p_pivot_of) := by
  refine F.ok (k := 0) (w' := w_pivot_of) sc_pivot_of 2 rfl (fun _ _ _ _ _ _ us hl => match us, hl with | [_], _ => rfl) (len_of l_pivot_of) (fun cdv A outer s H E f hr => ⟨_,
      (lss_cons (ls_for PassesOwn.never rfl (lk_range1 rfl T.range (lr_e (le_cb lb_len rfl T.len bt_len (ll_cons (rN 0) ll_nil)))) (gNm 1 sc_pivot_of.nd)
      (lss_one (ls_if (lt_cmp (lc_ne hr.units) (lr_e (le_ix (rN 0) (rN 1) (fun _ _ => rfl))) (lr_e le_int) (nomark _))
      (lss_one (sRetN 1))
      lss_nil)))
      (lss_one (sRet (le_cb lb_len rfl T.len bt_len (ll_cons (rN 0) ll_nil)))))⟩) h_pivot_of

/-! the def coordinates -/
abbrev s_coordinates : Stmt := top 6
theorem sc_coordinates : FnScope ["row", "basis", "rest", "factors", "line", "column", "factor"] ["row", "basis"] (defScope s_coordinates) := ⟨rfl, rfl, rfl, by decide +kernel, rfl, by decide +kernel, by decide +kernel⟩
theorem ok_coordinates {P : Program} {w : World} {K : PySem.W.Frag} {mg : Str → Option Value} {base : Heap} {cl : Nat → Addr} (T : BF mg) (F : Fd K mg "coordinates" s_coordinates) (c_row_difference : Def P w K mg base 1 "row_difference" ["one", "two"] (spD ⟨K, cl⟩ p_row_difference)) (c_scaled_row : Def P w K mg base 1 "scaled_row" ["row", "factor"] (spD ⟨K, cl⟩ p_scaled_row)) (c_is_zero_row : Def P w K mg base 1 "is_zero_row" ["row"] (spD ⟨K, cl⟩ p_is_zero_row)) (c_pivot_of : Def P w K mg base 1 "pivot_of" ["row"] (spD ⟨K, cl⟩ p_pivot_of)) : Def P w K mg base 2 "coordinates" ["row", "basis"] (spD ⟨K, cl⟩ p_coordinates) := by
  refine F.ok (k := 1) (w' := w_coordinates) sc_coordinates 7 rfl (fun _ _ _ _ _ _ us hl => match us, hl with | [_, _], _ => rfl) (len_of l_coordinates) (fun cdv A outer s H E f hr => ⟨_,
      (lss_cons (sSet 2 sc_coordinates.nd (le_ct lb_tuple rfl T.tuple bt_tuple (ll_cons (rN 0) ll_nil)))
      (lss_frz 2 (lss_cons (sSet 3 sc_coordinates.nd (le_lst li_nil))
      (lss_cons (ls_for PassesOwn.never rfl (kN 1) (gNm 4 sc_coordinates.nd)
      (lss_cons (sSet 5 sc_coordinates.nd (le_call c_pivot_of (hr.mono (by decide)) rfl (aN 4 la_nil)))
      (lss_frz 5 (lss_cons (sSet 6 sc_coordinates.nd (le_fdiv (lr_e (le_ix (rN 2) (rN 5) (fun _ _ => rfl))) (lr_e (le_ix (rN 4) (rN 5) (fun _ _ => rfl)))))
      (lss_cons (ls_frz 2 (sSet 2 sc_coordinates.nd (le_call c_row_difference (hr.mono (by decide)) rfl (aN 2 (la_cons (le_call c_scaled_row (hr.mono (by decide)) rfl (aN 4 (aN 6 la_nil))) la_nil)))))
      (lss_frz 2 (lss_cons (ls_if (lt_cmp (lc_ne hr.units) (lr_e (le_ix (rN 2) (rN 5) (fun _ _ => rfl))) (lr_e le_int) (nomark _))
      (lss_one (sRet le_non))
      lss_nil)
      (lss_one (sApp 3 (eN 6))))))))))
      (lss_cons (ls_frz 2 (ls_if (lt_not (lt_val (le_call c_is_zero_row (hr.mono (by decide)) rfl (aN 2 la_nil))))
      (lss_one (sRet le_non))
      lss_nil))
      (lss_one (sRet (le_ct lb_tuple rfl T.tuple bt_tuple (ll_cons (rN 3) ll_nil)))))))))⟩) h_coordinates

/-! the def _law_whole -/
abbrev s__law_whole : Stmt := top 8
theorem sc__law_whole : FnScope ["value"] ["value"] (defScope s__law_whole) := ⟨rfl, rfl, rfl, by decide +kernel, rfl, by decide +kernel, by decide +kernel⟩
theorem ok__law_whole {P : Program} {w : World} {K : PySem.W.Frag} {mg : Str → Option Value} {base : Heap} {cl : Nat → Addr} (T : BF mg) (F : Fd K mg "_law_whole" s__law_whole)  : Def P w K mg base 1 "_law_whole" ["value"] (spD ⟨K, cl⟩ p__law_whole) := by
  refine F.ok (k := 0) (w' := w__law_whole) sc__law_whole 1 rfl (fun _ _ _ _ _ _ us hl => match us, hl with | [_], _ => rfl) (len_of l__law_whole) (fun cdv A outer s H E f hr => ⟨_,
      (lss_one (sRet (le_and (le_isi .int rfl T.isinstance bt_isinstance (rN 0) rfl T.int bt_int) (le_one (le_not (le_isi .bool rfl T.isinstance bt_isinstance (rN 0) rfl T.bool bt_bool))))))⟩) h__law_whole

/-! the def _law_cell -/
abbrev s__law_cell : Stmt := top 9
theorem sc__law_cell : FnScope ["script", "k", "seed", "cell"] ["script", "k"] (defScope s__law_cell) := ⟨rfl, rfl, rfl, by decide +kernel, rfl, by decide +kernel, by decide +kernel⟩
theorem ok__law_cell {P : Program} {w : World} {K : PySem.W.Frag} {mg : Str → Option Value} {base : Heap} {cl : Nat → Addr} (T : BF mg) (F : Fd K mg "_law_cell" s__law_cell)  : Def P w K mg base 1 "_law_cell" ["script", "k"] (spD ⟨K, cl⟩ p__law_cell) := by
  refine F.ok (k := 0) (w' := w__law_cell) sc__law_cell 4 rfl (fun _ _ _ _ _ _ us hl => match us, hl with | [_, _], _ => rfl) (len_of l__law_cell) (fun cdv A outer s H E f hr => ⟨_,
      (lss_cons (ls_if (lt_cmp lc_lt (rN 1) (lr_e (le_cb lb_len rfl T.len bt_len (ll_cons (rN 0) ll_nil))) (nomark _))
      (lss_one (sRet (le_ix (rN 0) (rN 1) (fun _ _ => rfl))))
      lss_nil)
      (lss_cons (sSet 2 sc__law_cell.nd le_int)
      (lss_cons (ls_for PassesOwn.never rfl (kN 0) (gNm 3 sc__law_cell.nd)
      (lss_one (sSet 2 sc__law_cell.nd (le_mod (lr_e (le_ct lb_int rfl T.int bt_int (ll_cons (lr_e (le_add (lr_e (le_mul (rN 2) (lr_e le_int))) (lr_e (le_mod (lr_e (le_ct lb_int rfl T.int bt_int (ll_cons (rN 3) ll_nil))) (lr_e le_int))))) ll_nil))) (lr_e le_int)))))
      (lss_one (sRet (le_mod (lr_e (le_ct lb_int rfl T.int bt_int (ll_cons (lr_e (le_mul (lr_e (le_mul (lr_e (le_add (rN 2) (lr_e le_int))) (lr_e (le_add (rN 1) (lr_e le_int))))) (lr_e le_int))) ll_nil))) (lr_e le_int)))))))⟩) h__law_cell

/-! the def _law_digits -/
abbrev s__law_digits : Stmt := top 10
theorem sc__law_digits : FnScope ["cell", "sizes", "row", "rest", "size", "seed", "k", "twice"] ["cell", "sizes"] (defScope s__law_digits) := ⟨rfl, rfl, rfl, by decide +kernel, rfl, by decide +kernel, by decide +kernel⟩
theorem ok__law_digits {P : Program} {w : World} {K : PySem.W.Frag} {mg : Str → Option Value} {base : Heap} {cl : Nat → Addr} (T : BF mg) (F : Fd K mg "_law_digits" s__law_digits)  : Def P w K mg base 1 "_law_digits" ["cell", "sizes"] (spD ⟨K, cl⟩ p__law_digits) := by
  refine F.ok (k := 0) (w' := w__law_digits) sc__law_digits 8 rfl (fun _ _ _ _ _ _ us hl => match us, hl with | [_, _], _ => rfl) (len_of l__law_digits) (fun cdv A outer s H E f hr => ⟨_,
      (lss_cons (sSet 2 sc__law_digits.nd (le_lst li_nil))
      (lss_cons (sSet 3 sc__law_digits.nd (le_ct lb_int rfl T.int bt_int (ll_cons (rN 0) ll_nil)))
      (lss_frz 3 (lss_cons (ls_if (lt_cmp lc_ge (rN 3) (lr_e (le_pow (lr_e le_int) (lr_e le_int))) (nomark _))
      (lss_cons (sSet 3 sc__law_digits.nd (le_sub (rN 3) (lr_e (le_pow (lr_e le_int) (lr_e le_int)))))
      (lss_frz 3 (lss_cons (ls_for PassesOwn.never rfl (kN 1) (gNm 4 sc__law_digits.nd)
      (lss_cons (sApp 2 (le_mod (lr_e (le_ct lb_int rfl T.int bt_int (ll_cons (rN 3) ll_nil))) (rN 4)))
      (lss_cons (sSet 3 sc__law_digits.nd (le_fdiv (lr_e (le_ct lb_int rfl T.int bt_int (ll_cons (rN 3) ll_nil))) (rN 4)))
      (lss_frz 3 lss_nil))))
      (lss_one (sRetN 2)))))
      lss_nil)
      (lss_cons (sSet 5 sc__law_digits.nd (le_mod (lr_e (le_ct lb_int rfl T.int bt_int (ll_cons (rN 3) ll_nil))) (lr_e le_int)))
      (lss_cons (ls_for PassesOwn.never rfl (lk_range1 rfl T.range (lr_e (le_cb lb_len rfl T.len bt_len (ll_cons (rN 1) ll_nil)))) (gNm 6 sc__law_digits.nd)
      (lss_cons (sSet 5 sc__law_digits.nd (le_mod (lr_e (le_ct lb_int rfl T.int bt_int (ll_cons (lr_e (le_add (lr_e (le_add (lr_e (le_mul (rN 5) (lr_e le_int))) (lr_e (le_mul (lr_e le_int) (rN 6))))) (lr_e le_int))) ll_nil))) (lr_e le_int)))
      (lss_cons (sSet 7 sc__law_digits.nd (le_mod (lr_e (le_ct lb_int rfl T.int bt_int (ll_cons (lr_e (le_mul (rN 5) (lr_e (le_add (lr_e (le_fdiv (rN 5) (lr_e le_int))) (lr_e le_int))))) ll_nil))) (lr_e le_int)))
      (lss_one (sApp 2 (le_mod (lr_e (le_fdiv (rN 7) (lr_e le_int))) (lr_e (le_ix (rN 1) (rN 6) (fun _ _ => rfl)))))))))
      (lss_one (sRetN 2))))))))⟩) h__law_digits

/-! the def _law_dressed -/
abbrev s__law_dressed : Stmt := top 11
theorem sc__law_dressed : FnScope ["table", "way", "rows", "line"] ["table", "way"] (defScope s__law_dressed) := ⟨rfl, rfl, rfl, by decide +kernel, rfl, by decide +kernel, by decide +kernel⟩
theorem ok__law_dressed {P : Program} {w : World} {K : PySem.W.Frag} {mg : Str → Option Value} {base : Heap} {cl : Nat → Addr} (T : BF mg) (F : Fd K mg "_law_dressed" s__law_dressed)  : Def P w K mg base 1 "_law_dressed" ["table", "way"] (spD ⟨K, cl⟩ p__law_dressed) := by
  refine F.ok (k := 0) (w' := w__law_dressed) sc__law_dressed 4 rfl (fun _ _ _ _ _ _ us hl => match us, hl with | [_, _], _ => rfl) (len_of l__law_dressed) (fun cdv A outer s H E f hr => ⟨_,
      (lss_cons (sSetLc 2 (own := [("line", 3)]) (is := [3]) rfl sc__law_dressed.nd (kN 0) (blkOk_by (own := [("line", 3)]) (N := ["table", "way", "rows", "line"]) (sc := defScope s__law_dressed) (by decide +kernel)) (fun _ _ _ _ _ => (gNm 3 sc__law_dressed.nd)) (fun _ _ _ _ _ => lts_nil) (fun _ _ _ _ _ => (le_ct lb_list rfl T.list bt_list (ll_cons (rN 3) ll_nil))))
      (lss_frz 2 (lss_cons (ls_if (lt_cmp (lc_eq hr.units) (lr_e (le_mod (lr_e (le_ct lb_int rfl T.int bt_int (ll_cons (rN 1) ll_nil))) (lr_e le_int))) (lr_e le_int) (nomark _))
      (lss_cons (sSetLc 2 (own := [("line", 3)]) (is := [3]) rfl sc__law_dressed.nd (kN 0) (blkOk_by (own := [("line", 3)]) (N := ["table", "way", "rows", "line"]) (sc := defScope s__law_dressed) (by decide +kernel)) (fun _ _ _ _ _ => (gNm 3 sc__law_dressed.nd)) (fun _ _ _ _ _ => lts_nil) (fun _ _ _ _ _ => (le_ct lb_tuple rfl T.tuple bt_tuple (ll_cons (rN 3) ll_nil))))
      (lss_frz 2 lss_nil))
      lss_nil)
      (lss_cons (ls_if (lt_cmp lc_ge (rN 1) (lr_e le_int) (nomark _))
      (lss_one (sRet (le_ct lb_tuple rfl T.tuple bt_tuple (ll_cons (rN 2) ll_nil))))
      lss_nil)
      (lss_one (sRetN 2))))))⟩) h__law_dressed

/-! the def _law_plain -/
abbrev s__law_plain : Stmt := top 12
theorem sc__law_plain : FnScope ["table", "line"] ["table"] (defScope s__law_plain) := ⟨rfl, rfl, rfl, by decide +kernel, rfl, by decide +kernel, by decide +kernel⟩
theorem ok__law_plain {P : Program} {w : World} {K : PySem.W.Frag} {mg : Str → Option Value} {base : Heap} {cl : Nat → Addr} (T : BF mg) (F : Fd K mg "_law_plain" s__law_plain)  : Def P w K mg base 1 "_law_plain" ["table"] (spD ⟨K, cl⟩ p__law_plain) := by
  refine F.ok (k := 0) (w' := w__law_plain) sc__law_plain 2 rfl (fun _ _ _ _ _ _ us hl => match us, hl with | [_], _ => rfl) (len_of l__law_plain) (fun cdv A outer s H E f hr => ⟨_,
      (lss_one (sRet (le_lc (own := [("line", 1)]) (is := [1]) rfl sc__law_plain.nd (kN 0) (blkOk_by (own := [("line", 1)]) (N := ["table", "line"]) (sc := defScope s__law_plain) (by decide +kernel)) (fun _ _ _ _ _ => (gNm 1 sc__law_plain.nd)) (fun _ _ _ _ _ => lts_nil) (fun _ _ _ _ _ => (le_ct lb_list rfl T.list bt_list (ll_cons (rN 1) ll_nil))))))⟩) h__law_plain

/-! the def _law_same_row -/
abbrev s__law_same_row : Stmt := top 13
theorem sc__law_same_row : FnScope ["told", "due", "k"] ["told", "due"] (defScope s__law_same_row) := ⟨rfl, rfl, rfl, by decide +kernel, rfl, by decide +kernel, by decide +kernel⟩
theorem ok__law_same_row {P : Program} {w : World} {K : PySem.W.Frag} {mg : Str → Option Value} {base : Heap} {cl : Nat → Addr} (T : BF mg) (F : Fd K mg "_law_same_row" s__law_same_row) (c__law_whole : Def P w K mg base 1 "_law_whole" ["value"] (spD ⟨K, cl⟩ p__law_whole)) : Def P w K mg base 2 "_law_same_row" ["told", "due"] (spD ⟨K, cl⟩ p__law_same_row) := by
  refine F.ok (k := 1) (w' := w__law_same_row) sc__law_same_row 3 rfl (fun _ _ _ _ _ _ us hl => match us, hl with | [_, _], _ => rfl) (len_of l__law_same_row) (fun cdv A outer s H E f hr => ⟨_,
      (lss_cons (ls_if (LW.lt (lw_or (lt_not (lt_val (le_isi .tuple rfl T.isinstance bt_isinstance (rN 0) rfl T.tuple bt_tuple))) (lw_or1 (lt_cmp (lc_ne hr.units) (lr_e (le_cb lb_len rfl T.len bt_len (ll_cons (rN 0) ll_nil))) (lr_e (le_cb lb_len rfl T.len bt_len (ll_cons (rN 1) ll_nil))) (nomark _)))))
      (lss_one (sRet le_bl))
      lss_nil)
      (lss_cons (ls_for PassesOwn.never rfl (lk_range1 rfl T.range (lr_e (le_cb lb_len rfl T.len bt_len (ll_cons (rN 1) ll_nil)))) (gNm 2 sc__law_same_row.nd)
      (lss_one (ls_if (LW.lt (lw_or (lt_not (lt_val (le_call c__law_whole (hr.mono (by decide)) rfl (la_cons (le_ix (rN 0) (rN 2) (fun _ _ => rfl)) la_nil)))) (lw_or1 (lt_cmp (lc_ne hr.units) (lr_e (le_ix (rN 0) (rN 2) (fun _ _ => rfl))) (lr_e (le_ix (rN 1) (rN 2) (fun _ _ => rfl))) (nomark _)))))
      (lss_one (sRet le_bl))
      lss_nil)))
      (lss_one (sRet le_bl))))⟩) h__law_same_row

/-! the def _law_basis -/
abbrev s__law_basis : Stmt := top 15
theorem sc__law_basis : FnScope ["row", "width", "great", "k", "places", "rows", "j", "line", "upper"] ["row", "width", "great"] (defScope s__law_basis) := ⟨rfl, rfl, rfl, by decide +kernel, rfl, by decide +kernel, by decide +kernel⟩
theorem ok__law_basis {P : Program} {w : World} {K : PySem.W.Frag} {mg : Str → Option Value} {base : Heap} {cl : Nat → Addr} (T : BF mg) (F : Fd K mg "_law_basis" s__law_basis)  : Def P w K mg base 1 "_law_basis" ["row", "width", "great"] (spD ⟨K, cl⟩ p__law_basis) := by
  refine F.ok (k := 0) (w' := w__law_basis) sc__law_basis 9 rfl (fun _ _ _ _ _ _ us hl => match us, hl with | [_, _, _], _ => rfl) (len_of l__law_basis) (fun cdv A outer s H E f hr => ⟨_,
      (lss_cons (sSetLc 4 (own := [("k", 3)]) (is := [3]) rfl sc__law_basis.nd (lk_range1 rfl T.range (rN 1)) (blkOk_by (own := [("k", 3)]) (N := ["row", "width", "great", "k", "places", "rows", "j", "line", "upper"]) (sc := defScope s__law_basis) (by decide +kernel)) (fun _ _ _ _ _ => (gNm 3 sc__law_basis.nd)) (fun _ _ _ _ _ => (lts_one (lt_cmp lc_gt (lr_e (le_ix (rN 0) (rN 3) (fun _ _ => rfl))) (lr_e le_int) (nomark _)))) (fun _ _ _ _ _ => (eN 3)))
      (lss_frz 4 (lss_cons (sSet 5 sc__law_basis.nd (le_lst li_nil))
      (lss_nest 5 (lss_cons (ls_for PassesOwn.never rfl (lk_range1 rfl T.range (lr_e (le_cb lb_len rfl T.len bt_len (ll_cons (rN 4) ll_nil)))) (gNm 3 sc__law_basis.nd)
      (lss_cons (sSetLc 7 (own := [("j", 6)]) (is := [6]) rfl sc__law_basis.nd (lk_range1 rfl T.range (lr_e (le_ix (rN 4) (rN 3) (fun _ _ => rfl)))) (blkOk_by (own := [("j", 6)]) (N := ["row", "width", "great", "k", "places", "rows", "j", "line", "upper"]) (sc := defScope s__law_basis) (by decide +kernel)) (fun _ _ _ _ _ => (gNm 6 sc__law_basis.nd)) (fun _ _ _ _ _ => lts_nil) (fun _ _ _ _ _ => le_int))
      (lss_cons (sApp 7 (le_ix (lr_e (le_lst (li_cons le_int (li_cons le_int (li_cons le_int (li_cons le_int (li_cons le_int (li_cons le_int (li_cons le_int (li_cons le_int (li_cons (eN 2) li_nil))))))))))) (lr_e (le_ix (rN 0) (lr_e (le_add (lr_e le_int) (rN 3))) (fun _ _ => rfl))) (fun _ _ => rfl)))
      (lss_cons (ls_for PassesOwn.never rfl (lk_range2 rfl T.range (lr_e (le_add (lr_e (le_ix (rN 4) (rN 3) (fun _ _ => rfl))) (lr_e le_int))) (rN 1)) (gNm 6 sc__law_basis.nd)
      (lss_one (sApp 7 (le_sub (lr_e (le_ix (rN 0) (lr_e (le_add (lr_e (le_add (lr_e le_int) (lr_e (le_mul (lr_e le_int) (rN 3))))) (rN 6))) (fun _ _ => rfl))) (lr_e le_int)))))
      (lss_one (sAppNm 5 7))))))
      (lss_cons (ls_for PassesOwn.never rfl (lk_range1 rfl T.range (lr_e (le_cb lb_len rfl T.len bt_len (ll_cons (rN 4) ll_nil)))) (gNm 3 sc__law_basis.nd)
      (lss_one (ls_for PassesOwn.never rfl (lk_range1 rfl T.range (rN 3)) (gNm 8 sc__law_basis.nd)
      (lss_cons (sAliN 5 7 sc__law_basis.nd (rN 8) (fun _ _ => rfl))
      (lss_one (sSub 7 (le_mod (lr_e (le_ct lb_int rfl T.int bt_int (ll_cons (lr_e (le_ix (rN 7) (lr_e (le_ix (rN 4) (rN 3) (fun _ _ => rfl))) (fun _ _ => rfl))) ll_nil))) (lr_e (le_ix (rXN 5 (rN 3) (fun _ _ => rfl)) (lr_e (le_ix (rN 4) (rN 3) (fun _ _ => rfl))) (fun _ _ => rfl)))) (lr_e (le_ix (rN 4) (rN 3) (fun _ _ => rfl)))))))))
      (lss_one (ls_frz 5 (sRetN 5)))))))))⟩) h__law_basis

/-! the def _law_large_basis -/
abbrev s__law_large_basis : Stmt := top 16
theorem sc__law_large_basis : FnScope ["pool", "width", "step", "ahead", "j", "places", "k", "sizes", "above", "rows", "line", "item"] ["pool", "width", "step", "ahead"] (defScope s__law_large_basis) := ⟨rfl, rfl, rfl, by decide +kernel, rfl, by decide +kernel, by decide +kernel⟩
theorem ok__law_large_basis {P : Program} {w : World} {K : PySem.W.Frag} {mg : Str → Option Value} {base : Heap} {cl : Nat → Addr} (T : BF mg) (F : Fd K mg "_law_large_basis" s__law_large_basis)  : Def P w K mg base 1 "_law_large_basis" ["pool", "width", "step", "ahead"] (spD ⟨K, cl⟩ p__law_large_basis) := by
  refine F.ok (k := 0) (w' := w__law_large_basis) sc__law_large_basis 12 rfl (fun _ _ _ _ _ _ us hl => match us, hl with | [_, _, _, _], _ => rfl) (len_of l__law_large_basis) (fun cdv A outer s H E f hr => ⟨_,
      (lss_cons (sSetLc 5 (own := [("j", 4)]) (is := [4]) rfl sc__law_large_basis.nd (lk_range2 rfl T.range (rN 3) (rN 1)) (blkOk_by (own := [("j", 4)]) (N := ["pool", "width", "step", "ahead", "j", "places", "k", "sizes", "above", "rows", "line", "item"]) (sc := defScope s__law_large_basis) (by decide +kernel)) (fun _ _ _ _ _ => (gNm 4 sc__law_large_basis.nd)) (fun _ _ _ _ _ => (lts_one (lt_cmp (lc_eq hr.units) (lr_e (le_mod (lr_e (le_ct lb_int rfl T.int bt_int (ll_cons (lr_e (le_sub (rN 4) (rN 3))) ll_nil))) (rN 2))) (lr_e le_int) (nomark _)))) (fun _ _ _ _ _ => (eN 4)))
      (lss_frz 5 (lss_cons (sSetLc 7 (own := [("k", 6)]) (is := [6]) rfl sc__law_large_basis.nd (lk_range1 rfl T.range (lr_e (le_cb lb_len rfl T.len bt_len (ll_cons (rN 5) ll_nil)))) (blkOk_by (own := [("k", 6)]) (N := ["pool", "width", "step", "ahead", "j", "places", "k", "sizes", "above", "rows", "line", "item"]) (sc := defScope s__law_large_basis) (by decide +kernel)) (fun _ _ _ _ _ => (gNm 6 sc__law_large_basis.nd)) (fun _ _ _ _ _ => lts_nil) (fun _ _ _ _ _ => (le_add (lr_e le_int) (lr_e (le_mod (lr_e (le_ct lb_int rfl T.int bt_int (ll_cons (lr_e (le_add (lr_e (le_mul (lr_e le_int) (rN 6))) (lr_e (le_ix (rN 0) (lr_e (le_mod (lr_e (le_ct lb_int rfl T.int bt_int (ll_cons (rN 6) ll_nil))) (lr_e le_int))) (fun _ _ => rfl))))) ll_nil))) (lr_e le_int))))))
      (lss_frz 7 (lss_cons (sSetLc 8 (own := [("j", 4)]) (is := [4]) rfl sc__law_large_basis.nd (lk_range1 rfl T.range (rN 1)) (blkOk_by (own := [("j", 4)]) (N := ["pool", "width", "step", "ahead", "j", "places", "k", "sizes", "above", "rows", "line", "item"]) (sc := defScope s__law_large_basis) (by decide +kernel)) (fun _ _ _ _ _ => (gNm 4 sc__law_large_basis.nd)) (fun _ _ _ _ _ => lts_nil) (fun _ _ _ _ _ => le_int))
      (lss_cons (ls_for PassesOwn.never rfl (lk_range1 rfl T.range (lr_e (le_cb lb_len rfl T.len bt_len (ll_cons (rN 5) ll_nil)))) (gNm 6 sc__law_large_basis.nd)
      (lss_one (sSub 8 (le_ix (rN 7) (rN 6) (fun _ _ => rfl)) (lr_e (le_ix (rN 5) (rN 6) (fun _ _ => rfl))))))
      (lss_cons (sSet 9 sc__law_large_basis.nd (le_lst li_nil))
      (lss_cons (ls_for PassesOwn.never rfl (lk_range1 rfl T.range (lr_e (le_cb lb_len rfl T.len bt_len (ll_cons (rN 5) ll_nil)))) (gNm 6 sc__law_large_basis.nd)
      (lss_cons (sSet 10 sc__law_large_basis.nd (le_add (lr_e (le_lc (own := [("j", 4)]) (is := [4]) rfl sc__law_large_basis.nd (lk_range1 rfl T.range (lr_e (le_ix (rN 5) (rN 6) (fun _ _ => rfl)))) (blkOk_by (own := [("j", 4)]) (N := ["pool", "width", "step", "ahead", "j", "places", "k", "sizes", "above", "rows", "line", "item"]) (sc := defScope s__law_large_basis) (by decide +kernel)) (fun _ _ _ _ _ => (gNm 4 sc__law_large_basis.nd)) (fun _ _ _ _ _ => lts_nil) (fun _ _ _ _ _ => le_int))) (lr_e (le_lst (li_cons (le_ix (rN 7) (rN 6) (fun _ _ => rfl)) li_nil)))))
      (lss_cons (ls_for PassesOwn.never rfl (lk_range2 rfl T.range (lr_e (le_add (lr_e (le_ix (rN 5) (rN 6) (fun _ _ => rfl))) (lr_e le_int))) (rN 1)) (gNm 4 sc__law_large_basis.nd)
      (lss_cons (sSet 11 sc__law_large_basis.nd (le_ix (rN 0) (lr_e (le_mod (lr_e (le_ct lb_int rfl T.int bt_int (ll_cons (lr_e (le_add (lr_e (le_add (lr_e (le_mul (lr_e le_int) (rN 6))) (lr_e (le_mul (lr_e le_int) (rN 4))))) (lr_e (le_mul (rN 6) (rN 4))))) ll_nil))) (lr_e le_int))) (fun _ _ => rfl)))
      (lss_cons (ls_if (lt_cmp lc_gt (lr_e (le_ix (rN 8) (rN 4) (fun _ _ => rfl))) (lr_e le_int) (nomark _))
      (lss_one (sSet 11 sc__law_large_basis.nd (le_mod (lr_e (le_ct lb_int rfl T.int bt_int (ll_cons (rN 11) ll_nil))) (lr_e (le_ix (rN 8) (rN 4) (fun _ _ => rfl))))))
      lss_nil)
      (lss_one (sApp 10 (eN 11))))))
      (lss_one (ls_frz 10 (sApp 9 (eN 10)))))))
      (lss_one (sRetN 9))))))))))⟩) h__law_large_basis

/-! the def _law_mixture -/
abbrev s__law_mixture : Stmt := top 17
theorem sc__law_mixture : FnScope ["rows", "factors", "width", "told", "k", "j"] ["rows", "factors", "width"] (defScope s__law_mixture) := ⟨rfl, rfl, rfl, by decide +kernel, rfl, by decide +kernel, by decide +kernel⟩
theorem ok__law_mixture {P : Program} {w : World} {K : PySem.W.Frag} {mg : Str → Option Value} {base : Heap} {cl : Nat → Addr} (T : BF mg) (F : Fd K mg "_law_mixture" s__law_mixture)  : Def P w K mg base 1 "_law_mixture" ["rows", "factors", "width"] (spD ⟨K, cl⟩ p__law_mixture) := by
  refine F.ok (k := 0) (w' := w__law_mixture) sc__law_mixture 6 rfl (fun _ _ _ _ _ _ us hl => match us, hl with | [_, _, _], _ => rfl) (len_of l__law_mixture) (fun cdv A outer s H E f hr => ⟨_,
      (lss_cons (sSet 3 sc__law_mixture.nd (le_lc (own := [("j", 5)]) (is := [5]) rfl sc__law_mixture.nd (lk_range1 rfl T.range (rN 2)) (blkOk_by (own := [("j", 5)]) (N := ["rows", "factors", "width", "told", "k", "j"]) (sc := defScope s__law_mixture) (by decide +kernel)) (fun _ _ _ _ _ => (gNm 5 sc__law_mixture.nd)) (fun _ _ _ _ _ => lts_nil) (fun _ _ _ _ _ => le_int)))
      (lss_frz 3 (lss_cons (ls_for PassesOwn.never rfl (lk_range1 rfl T.range (lr_e (le_cb lb_len rfl T.len bt_len (ll_cons (rN 0) ll_nil)))) (gNm 4 sc__law_mixture.nd)
      (lss_cons (sSet 3 sc__law_mixture.nd (le_lc (own := [("j", 5)]) (is := [5]) rfl sc__law_mixture.nd (lk_range1 rfl T.range (rN 2)) (blkOk_by (own := [("j", 5)]) (N := ["rows", "factors", "width", "told", "k", "j"]) (sc := defScope s__law_mixture) (by decide +kernel)) (fun _ _ _ _ _ => (gNm 5 sc__law_mixture.nd)) (fun _ _ _ _ _ => lts_nil) (fun _ _ _ _ _ => (le_add (lr_e (le_ix (rN 3) (rN 5) (fun _ _ => rfl))) (lr_e (le_mul (lr_e (le_ix (rN 1) (rN 4) (fun _ _ => rfl))) (lr_e (le_ix (lr_e (le_ix (rN 0) (rN 4) (fun _ _ => rfl))) (rN 5) (fun _ _ => rfl)))))))))
      (lss_frz 3 lss_nil)))
      (lss_one (sRetN 3)))))⟩) h__law_mixture

/-! the def _law_drawn_factors -/
abbrev s__law_drawn_factors : Stmt := top 18
theorem sc__law_drawn_factors : FnScope ["cell", "many", "pool", "k", "row", "told", "part", "great"] ["cell", "many", "pool"] (defScope s__law_drawn_factors) := ⟨rfl, rfl, rfl, by decide +kernel, rfl, by decide +kernel, by decide +kernel⟩
theorem ok__law_drawn_factors {P : Program} {w : World} {K : PySem.W.Frag} {mg : Str → Option Value} {base : Heap} {cl : Nat → Addr} (T : BF mg) (F : Fd K mg "_law_drawn_factors" s__law_drawn_factors) (c__law_digits : Def P w K mg base 1 "_law_digits" ["cell", "sizes"] (spD ⟨K, cl⟩ p__law_digits)) : Def P w K mg base 2 "_law_drawn_factors" ["cell", "many", "pool"] (spD ⟨K, cl⟩ p__law_drawn_factors) := by
  refine F.ok (k := 1) (w' := w__law_drawn_factors) sc__law_drawn_factors 8 rfl (fun _ _ _ _ _ _ us hl => match us, hl with | [_, _, _], _ => rfl) (len_of l__law_drawn_factors) (fun cdv A outer s H E f hr => ⟨_,
      (lss_cons (ls_if (lt_cmp lc_gt (rN 1) (lr_e le_int) (nomark _))
      (lss_one (sRet (le_lc (own := [("k", 3)]) (is := [3]) rfl sc__law_drawn_factors.nd (lk_range1 rfl T.range (rN 1)) (blkOk_by (own := [("k", 3)]) (N := ["cell", "many", "pool", "k", "row", "told", "part", "great"]) (sc := defScope s__law_drawn_factors) (by decide +kernel)) (fun _ _ _ _ _ => (gNm 3 sc__law_drawn_factors.nd)) (fun _ _ _ _ _ => lts_nil) (fun _ _ _ _ _ => (le_ix (rN 2) (lr_e (le_mod (lr_e (le_ct lb_int rfl T.int bt_int (ll_cons (lr_e (le_add (lr_e (le_mul (lr_e le_int) (rN 3))) (lr_e (le_mul (rN 3) (rN 3))))) ll_nil))) (lr_e le_int))) (fun _ _ => rfl))))))
      lss_nil)
      (lss_cons (sSet 4 sc__law_drawn_factors.nd (le_call c__law_digits (hr.mono (by decide)) rfl (aN 0 (la_cons (le_mul (lr_e (le_lst (li_cons le_int (li_cons le_int (li_cons (le_pow (lr_e le_int) (lr_e le_int)) (li_cons (le_pow (lr_e le_int) (lr_e le_int)) (li_cons (le_pow (lr_e le_int) (lr_e le_int)) li_nil))))))) (lr_e le_int)) la_nil))))
      (lss_frz 4 (lss_cons (sSet 5 sc__law_drawn_factors.nd (le_lst li_nil))
      (lss_cons (ls_for PassesOwn.never rfl (lk_range1 rfl T.range (rN 1)) (gNm 3 sc__law_drawn_factors.nd)
      (lss_cons (sSet 6 sc__law_drawn_factors.nd (le_sl (rN 4) (lo_some (lr_e (le_mul (lr_e le_int) (rN 3)))) (lo_some (lr_e (le_add (lr_e (le_mul (lr_e le_int) (rN 3))) (lr_e le_int))))))
      (lss_frz 6 (lss_cons (sSet 7 sc__law_drawn_factors.nd (le_add (lr_e (le_add (lr_e (le_mul (lr_e (le_ix (rN 6) (lr_e le_int) (fun _ _ => rfl))) (lr_e (le_pow (lr_e le_int) (lr_e le_int))))) (lr_e (le_mul (lr_e (le_ix (rN 6) (lr_e le_int) (fun _ _ => rfl))) (lr_e (le_pow (lr_e le_int) (lr_e le_int))))))) (lr_e (le_ix (rN 6) (lr_e le_int) (fun _ _ => rfl)))))
      (lss_one (sApp 5 (le_ix (lr_e (le_lst (li_cons (le_sub (lr_e (le_ix (rN 6) (lr_e le_int) (fun _ _ => rfl))) (lr_e le_int)) (li_cons (le_sub (lr_e (le_ix (rN 6) (lr_e le_int) (fun _ _ => rfl))) (lr_e le_int)) (li_cons (le_sub (lr_e (le_ix (rN 6) (lr_e le_int) (fun _ _ => rfl))) (lr_e le_int)) (li_cons (le_sub (lr_e (le_ix (rN 6) (lr_e le_int) (fun _ _ => rfl))) (lr_e le_int)) (li_cons (eN 7) (li_cons (le_neg (rN 7)) li_nil)))))))) (lr_e (le_ix (rN 6) (lr_e le_int) (fun _ _ => rfl))) (fun _ _ => rfl))))))))
      (lss_one (sRetN 5)))))))⟩) h__law_drawn_factors

/-! the def _law_pivot -/
abbrev s__law_pivot : Stmt := top 19
theorem sc__law_pivot : FnScope ["line", "k"] ["line"] (defScope s__law_pivot) := ⟨rfl, rfl, rfl, by decide +kernel, rfl, by decide +kernel, by decide +kernel⟩
theorem ok__law_pivot {P : Program} {w : World} {K : PySem.W.Frag} {mg : Str → Option Value} {base : Heap} {cl : Nat → Addr} (T : BF mg) (F : Fd K mg "_law_pivot" s__law_pivot)  : Def P w K mg base 1 "_law_pivot" ["line"] (spD ⟨K, cl⟩ p__law_pivot) := by
  refine F.ok (k := 0) (w' := w__law_pivot) sc__law_pivot 2 rfl (fun _ _ _ _ _ _ us hl => match us, hl with | [_], _ => rfl) (len_of l__law_pivot) (fun cdv A outer s H E f hr => ⟨_,
      (lss_cons (ls_for PassesOwn.never rfl (lk_range1 rfl T.range (lr_e (le_cb lb_len rfl T.len bt_len (ll_cons (rN 0) ll_nil)))) (gNm 1 sc__law_pivot.nd)
      (lss_one (ls_if (lt_cmp (lc_ne hr.units) (lr_e (le_ix (rN 0) (rN 1) (fun _ _ => rfl))) (lr_e le_int) (nomark _))
      (lss_one (sRetN 1))
      lss_nil)))
      (lss_one (sRet (le_cb lb_len rfl T.len bt_len (ll_cons (rN 0) ll_nil)))))⟩) h__law_pivot

/-! the def _law_factors -/
abbrev s__law_factors : Stmt := top 20
theorem sc__law_factors : FnScope ["row", "basis", "rest", "told", "line", "at", "factor", "j"] ["row", "basis"] (defScope s__law_factors) := ⟨rfl, rfl, rfl, by decide +kernel, rfl, by decide +kernel, by decide +kernel⟩
theorem ok__law_factors {P : Program} {w : World} {K : PySem.W.Frag} {mg : Str → Option Value} {base : Heap} {cl : Nat → Addr} (T : BF mg) (F : Fd K mg "_law_factors" s__law_factors) (c__law_pivot : Def P w K mg base 1 "_law_pivot" ["line"] (spD ⟨K, cl⟩ p__law_pivot)) : Def P w K mg base 2 "_law_factors" ["row", "basis"] (spD ⟨K, cl⟩ p__law_factors) := by
  refine F.ok (k := 1) (w' := w__law_factors) sc__law_factors 8 rfl (fun _ _ _ _ _ _ us hl => match us, hl with | [_, _], _ => rfl) (len_of l__law_factors) (fun cdv A outer s H E f hr => ⟨_,
      (lss_cons (sSet 2 sc__law_factors.nd (le_ct lb_list rfl T.list bt_list (ll_cons (rN 0) ll_nil)))
      (lss_frz 2 (lss_cons (sSet 3 sc__law_factors.nd (le_lst li_nil))
      (lss_cons (ls_for PassesOwn.never rfl (kN 1) (gNm 4 sc__law_factors.nd)
      (lss_cons (sSet 5 sc__law_factors.nd (le_call c__law_pivot (hr.mono (by decide)) rfl (aN 4 la_nil)))
      (lss_frz 5 (lss_cons (sSet 6 sc__law_factors.nd (le_fdiv (lr_e (le_ix (rN 2) (rN 5) (fun _ _ => rfl))) (lr_e (le_ix (rN 4) (rN 5) (fun _ _ => rfl)))))
      (lss_cons (ls_if (lt_cmp (lc_ne hr.units) (lr_e (le_mul (rN 6) (lr_e (le_ix (rN 4) (rN 5) (fun _ _ => rfl))))) (lr_e (le_ix (rN 2) (rN 5) (fun _ _ => rfl))) (nomark _))
      (lss_one (sRet le_non))
      lss_nil)
      (lss_cons (sSet 2 sc__law_factors.nd (le_lc (own := [("j", 7)]) (is := [7]) rfl sc__law_factors.nd (lk_range1 rfl T.range (lr_e (le_cb lb_len rfl T.len bt_len (ll_cons (rN 2) ll_nil)))) (blkOk_by (own := [("j", 7)]) (N := ["row", "basis", "rest", "told", "line", "at", "factor", "j"]) (sc := defScope s__law_factors) (by decide +kernel)) (fun _ _ _ _ _ => (gNm 7 sc__law_factors.nd)) (fun _ _ _ _ _ => lts_nil) (fun _ _ _ _ _ => (le_sub (lr_e (le_ix (rN 2) (rN 7) (fun _ _ => rfl))) (lr_e (le_mul (rN 6) (lr_e (le_ix (rN 4) (rN 7) (fun _ _ => rfl)))))))))
      (lss_frz 2 (lss_one (sApp 3 (eN 6))))))))))
      (lss_cons (ls_frz 2 (ls_if (lt_cmp lc_lt (lr_e (le_call c__law_pivot (hr.mono (by decide)) rfl (aN 2 la_nil))) (lr_e (le_cb lb_len rfl T.len bt_len (ll_cons (rN 2) ll_nil))) (nomark _))
      (lss_one (sRet le_non))
      lss_nil))
      (lss_one (sRetN 3)))))))⟩) h__law_factors

/-! the def _law_shift -/
abbrev s__law_shift : Stmt := top 21
theorem sc__law_shift : FnScope ["basis", "at", "step", "line"] ["basis", "at", "step"] (defScope s__law_shift) := ⟨rfl, rfl, rfl, by decide +kernel, rfl, by decide +kernel, by decide +kernel⟩
theorem ok__law_shift {P : Program} {w : World} {K : PySem.W.Frag} {mg : Str → Option Value} {base : Heap} {cl : Nat → Addr} (T : BF mg) (F : Fd K mg "_law_shift" s__law_shift) (c__law_pivot : Def P w K mg base 1 "_law_pivot" ["line"] (spD ⟨K, cl⟩ p__law_pivot)) : Def P w K mg base 2 "_law_shift" ["basis", "at", "step"] (spD ⟨K, cl⟩ p__law_shift) := by
  refine F.ok (k := 1) (w' := w__law_shift) sc__law_shift 4 rfl (fun _ _ _ _ _ _ us hl => match us, hl with | [_, _, _], _ => rfl) (len_of l__law_shift) (fun cdv A outer s H E f hr => ⟨_,
      (lss_cons (ls_for PassesOwn.never rfl (kN 0) (gNm 3 sc__law_shift.nd)
      (lss_cons (ls_if (LW.lt (lw_and (lt_cmp (lc_eq hr.units) (lr_e (le_call c__law_pivot (hr.mono (by decide)) rfl (aN 3 la_nil))) (rN 1) (nomark _)) (lw_and1 (lt_cmp lc_gt (lr_e (le_ix (rN 3) (rN 1) (fun _ _ => rfl))) (lr_e le_int) (nomark _)))))
      (lss_one (sRet (le_lst (li_cons (le_add (lr_e le_int) (lr_e (le_mod (lr_e (le_ct lb_int rfl T.int bt_int (ll_cons (rN 2) ll_nil))) (lr_e (le_sub (lr_e (le_ix (rN 3) (rN 1) (fun _ _ => rfl))) (lr_e le_int)))))) (li_cons le_bl li_nil)))))
      lss_nil)
      (lss_one (ls_if (lt_cmp (lc_eq hr.units) (lr_e (le_call c__law_pivot (hr.mono (by decide)) rfl (aN 3 la_nil))) (rN 1) (nomark _))
      (lss_one (sRet (le_lst (li_cons (le_add (lr_e le_int) (rN 2)) (li_cons le_bl li_nil)))))
      lss_nil))))
      (lss_one (sRet (le_lst (li_cons (le_add (lr_e le_int) (rN 2)) (li_cons le_bl li_nil))))))⟩) h__law_shift

/-! the def _law_asked -/
abbrev s__law_asked : Stmt := top 22
theorem sc__law_asked : FnScope ["row", "basis", "due", "way", "handed", "line", "told"] ["row", "basis", "due", "way"] (defScope s__law_asked) := ⟨rfl, rfl, rfl, by decide +kernel, rfl, by decide +kernel, by decide +kernel⟩
theorem ok__law_asked {P : Program} {w : World} {K : PySem.W.Frag} {mg : Str → Option Value} {base : Heap} {cl : Nat → Addr} (T : BF mg) (F : Fd K mg "_law_asked" s__law_asked) (c_coordinates : Def P w K mg base 2 "coordinates" ["row", "basis"] (spD ⟨K, cl⟩ p_coordinates)) (c__law_dressed : Def P w K mg base 1 "_law_dressed" ["table", "way"] (spD ⟨K, cl⟩ p__law_dressed)) (c__law_plain : Def P w K mg base 1 "_law_plain" ["table"] (spD ⟨K, cl⟩ p__law_plain)) (c__law_same_row : Def P w K mg base 2 "_law_same_row" ["told", "due"] (spD ⟨K, cl⟩ p__law_same_row)) : Def P w K mg base 3 "_law_asked" ["row", "basis", "due", "way"] (spD ⟨K, cl⟩ p__law_asked) := by
  refine F.ok (k := 2) (w' := w__law_asked) sc__law_asked 7 rfl (fun _ _ _ _ _ _ us hl => match us, hl with | [_, _, _, _], _ => rfl) (len_of l__law_asked) (fun cdv A outer s H E f hr => ⟨_,
      (lss_cons (sSet 4 sc__law_asked.nd (le_call c__law_dressed (hr.mono (by decide)) rfl (aN 1 (la_cons (le_mod (lr_e (le_ct lb_int rfl T.int bt_int (ll_cons (rN 3) ll_nil))) (lr_e le_int)) la_nil))))
      (lss_frz 4 (lss_cons (sSet 5 sc__law_asked.nd (le_ct lb_list rfl T.list bt_list (ll_cons (rN 0) ll_nil)))
      (lss_frz 5 (lss_cons (ls_if (lt_cmp lc_ge (rN 3) (lr_e le_int) (nomark _))
      (lss_cons (sSet 5 sc__law_asked.nd (le_ct lb_tuple rfl T.tuple bt_tuple (ll_cons (rN 0) ll_nil)))
      (lss_frz 5 lss_nil))
      lss_nil)
      (lss_cons (ls_frz 4 (ls_frz 5 (sSet 6 sc__law_asked.nd (le_call c_coordinates (hr.mono (by decide)) rfl (aN 5 (aN 4 la_nil))))))
      (lss_frz 6 (lss_cons (ls_frz 4 (ls_if (LW.lt (lw_or (lt_cmp (lc_ne hr.units) (lr_e (le_ct lb_list rfl T.list bt_list (ll_cons (rN 5) ll_nil))) (rN 0) (nomark _)) (lw_or1 (lt_cmp (lc_ne hr.units) (lr_e (le_call c__law_plain (hr.mono (by decide)) rfl (aN 4 la_nil))) (rN 1) (nomark _)))))
      (lss_one (sRet le_bl))
      lss_nil))
      (lss_cons (ls_if (lt_cmp lc_is (rN 2) (lr_e le_non) (nomark _))
      (lss_one (sRet (le_cmp lc_is (rN 6) (lr_e le_non) (nomark _))))
      lss_nil)
      (lss_one (ls_frz 6 (sRet (le_call c__law_same_row (hr.mono (by decide)) rfl (aN 6 (aN 2 la_nil)))))))))))))))⟩) h__law_asked

/-! the def _law_asked_nothing -/
abbrev s__law_asked_nothing : Stmt := top 23
theorem sc__law_asked_nothing : FnScope ["row", "way", "zeros", "item"] ["row", "way"] (defScope s__law_asked_nothing) := ⟨rfl, rfl, rfl, by decide +kernel, rfl, by decide +kernel, by decide +kernel⟩
theorem ok__law_asked_nothing {P : Program} {w : World} {K : PySem.W.Frag} {mg : Str → Option Value} {base : Heap} {cl : Nat → Addr} (T : BF mg) (F : Fd K mg "_law_asked_nothing" s__law_asked_nothing) (c__law_asked : Def P w K mg base 3 "_law_asked" ["row", "basis", "due", "way"] (spD ⟨K, cl⟩ p__law_asked)) : Def P w K mg base 4 "_law_asked_nothing" ["row", "way"] (spD ⟨K, cl⟩ p__law_asked_nothing) := by
  refine F.ok (k := 3) (w' := w__law_asked_nothing) sc__law_asked_nothing 4 rfl (fun _ _ _ _ _ _ us hl => match us, hl with | [_, _], _ => rfl) (len_of l__law_asked_nothing) (fun cdv A outer s H E f hr => ⟨_,
      (lss_cons (sSetLc 2 (own := [("item", 3)]) (is := [3]) rfl sc__law_asked_nothing.nd (kN 0) (blkOk_by (own := [("item", 3)]) (N := ["row", "way", "zeros", "item"]) (sc := defScope s__law_asked_nothing) (by decide +kernel)) (fun _ _ _ _ _ => (gNm 3 sc__law_asked_nothing.nd)) (fun _ _ _ _ _ => lts_nil) (fun _ _ _ _ _ => le_int))
      (lss_frz 2 (lss_cons (ls_frz 2 (ls_if (LW.lt (lw_or (lt_not (lt_val (le_call c__law_asked (hr.mono (by decide)) rfl (aN 2 (la_cons (le_lst li_nil) (la_cons (le_lst li_nil) (aN 1 la_nil))))))) (lw_or1 (lt_not (lt_val (le_call c__law_asked (hr.mono (by decide)) rfl (la_cons (le_lst li_nil) (la_cons (le_lst li_nil) (la_cons (le_lst li_nil) (aN 1 la_nil))))))))))
      (lss_one (sRet le_bl))
      lss_nil))
      (lss_one (sRet (le_or (le_cmp (lc_eq hr.units) (rN 0) (rN 2) (nomark _)) (le_one (le_call c__law_asked (hr.mono (by decide)) rfl (aN 0 (la_cons (le_lst li_nil) (la_cons le_non (aN 1 la_nil))))))))))))⟩) h__law_asked_nothing

/-! the def _law_asked_rows -/
abbrev s__law_asked_rows : Stmt := top 24
theorem sc__law_asked_rows : FnScope ["basis", "width", "way", "k", "j", "line"] ["basis", "width", "way"] (defScope s__law_asked_rows) := ⟨rfl, rfl, rfl, by decide +kernel, rfl, by decide +kernel, by decide +kernel⟩
theorem ok__law_asked_rows {P : Program} {w : World} {K : PySem.W.Frag} {mg : Str → Option Value} {base : Heap} {cl : Nat → Addr} (T : BF mg) (F : Fd K mg "_law_asked_rows" s__law_asked_rows) (c__law_asked : Def P w K mg base 3 "_law_asked" ["row", "basis", "due", "way"] (spD ⟨K, cl⟩ p__law_asked)) : Def P w K mg base 4 "_law_asked_rows" ["basis", "width", "way"] (spD ⟨K, cl⟩ p__law_asked_rows) := by
  refine F.ok (k := 3) (w' := w__law_asked_rows) sc__law_asked_rows 6 rfl (fun _ _ _ _ _ _ us hl => match us, hl with | [_, _, _], _ => rfl) (len_of l__law_asked_rows) (fun cdv A outer s H E f hr => ⟨_,
      (lss_cons (ls_for PassesOwn.never rfl (lk_range1 rfl T.range (lr_e (le_cb lb_len rfl T.len bt_len (ll_cons (rN 0) ll_nil)))) (gNm 3 sc__law_asked_rows.nd)
      (lss_one (ls_if (LW.lt (lw_and (lt_cmp lc_lt (lr_e (le_cb lb_len rfl T.len bt_len (ll_cons (rN 0) ll_nil))) (lr_e le_int) (nomark _)) (lw_and1 (lt_not (lt_val (le_call c__law_asked (hr.mono (by decide)) rfl (la_cons (le_ix (rN 0) (rN 3) (fun _ _ => rfl)) (aN 0 (la_cons (le_lc (own := [("j", 4)]) (is := [4]) rfl sc__law_asked_rows.nd (lk_range1 rfl T.range (lr_e (le_cb lb_len rfl T.len bt_len (ll_cons (rN 0) ll_nil)))) (blkOk_by (own := [("j", 4)]) (N := ["basis", "width", "way", "k", "j", "line"]) (sc := defScope s__law_asked_rows) (by decide +kernel)) (fun _ _ _ _ _ => (gNm 4 sc__law_asked_rows.nd)) (fun _ _ _ _ _ => lts_nil) (fun _ _ _ _ _ => (le_ct lb_int rfl T.int bt_int (ll_cons (lr_e (le_cmp (lc_eq hr.units) (rN 4) (rN 3) (nomark _))) ll_nil)))) (aN 2 la_nil))))))))))
      (lss_one (sRet le_bl))
      lss_nil)))
      (lss_one (sRet (le_call c__law_asked (hr.mono (by decide)) rfl (la_cons (le_lc (own := [("j", 4)]) (is := [4]) rfl sc__law_asked_rows.nd (lk_range1 rfl T.range (rN 1)) (blkOk_by (own := [("j", 4)]) (N := ["basis", "width", "way", "k", "j", "line"]) (sc := defScope s__law_asked_rows) (by decide +kernel)) (fun _ _ _ _ _ => (gNm 4 sc__law_asked_rows.nd)) (fun _ _ _ _ _ => lts_nil) (fun _ _ _ _ _ => le_int)) (aN 0 (la_cons (le_lc (own := [("line", 5)]) (is := [5]) rfl sc__law_asked_rows.nd (kN 0) (blkOk_by (own := [("line", 5)]) (N := ["basis", "width", "way", "k", "j", "line"]) (sc := defScope s__law_asked_rows) (by decide +kernel)) (fun _ _ _ _ _ => (gNm 5 sc__law_asked_rows.nd)) (fun _ _ _ _ _ => lts_nil) (fun _ _ _ _ _ => le_int)) (aN 2 la_nil))))))))⟩) h__law_asked_rows

/-! the def _law_asked_scaled -/
abbrev s__law_asked_scaled : Stmt := top 25
theorem sc__law_asked_scaled : FnScope ["line", "basis", "factors", "scale", "way", "factor", "due", "row", "item"] ["line", "basis", "factors", "scale", "way"] (defScope s__law_asked_scaled) := ⟨rfl, rfl, rfl, by decide +kernel, rfl, by decide +kernel, by decide +kernel⟩
theorem ok__law_asked_scaled {P : Program} {w : World} {K : PySem.W.Frag} {mg : Str → Option Value} {base : Heap} {cl : Nat → Addr} (T : BF mg) (F : Fd K mg "_law_asked_scaled" s__law_asked_scaled) (c__law_asked : Def P w K mg base 3 "_law_asked" ["row", "basis", "due", "way"] (spD ⟨K, cl⟩ p__law_asked)) : Def P w K mg base 4 "_law_asked_scaled" ["line", "basis", "factors", "scale", "way"] (spD ⟨K, cl⟩ p__law_asked_scaled) := by
  refine F.ok (k := 3) (w' := w__law_asked_scaled) sc__law_asked_scaled 9 rfl (fun _ _ _ _ _ _ us hl => match us, hl with | [_, _, _, _, _], _ => rfl) (len_of l__law_asked_scaled) (fun cdv A outer s H E f hr => ⟨_,
      (lss_cons (sSetLc 6 (own := [("factor", 5)]) (is := [5]) rfl sc__law_asked_scaled.nd (kN 2) (blkOk_by (own := [("factor", 5)]) (N := ["line", "basis", "factors", "scale", "way", "factor", "due", "row", "item"]) (sc := defScope s__law_asked_scaled) (by decide +kernel)) (fun _ _ _ _ _ => (gNm 5 sc__law_asked_scaled.nd)) (fun _ _ _ _ _ => lts_nil) (fun _ _ _ _ _ => (le_fdiv (rN 5) (rN 3))))
      (lss_frz 6 (lss_cons (ls_for PassesOwn.never rfl (kN 2) (gNm 5 sc__law_asked_scaled.nd)
      (lss_one (ls_if (lt_cmp (lc_ne hr.units) (lr_e (le_mul (lr_e (le_fdiv (rN 5) (rN 3))) (rN 3))) (rN 5) (nomark _))
      (lss_cons (sSet 6 sc__law_asked_scaled.nd le_non)
      (lss_frz 6 lss_nil))
      lss_nil)))
      (lss_one (ls_frz 6 (sRet (le_call c__law_asked (hr.mono (by decide)) rfl (aN 0 (la_cons (le_lc (own := [("row", 7)]) (is := [7]) rfl sc__law_asked_scaled.nd (kN 1) (blkOk_by (own := [("row", 7)]) (N := ["line", "basis", "factors", "scale", "way", "factor", "due", "row", "item"]) (sc := defScope s__law_asked_scaled) (by decide +kernel)) (fun _ _ _ _ _ => (gNm 7 sc__law_asked_scaled.nd)) (fun _ _ _ _ _ => lts_nil) (fun _ _ _ _ _ => (le_lc (own := [("item", 8)]) (is := [8]) rfl sc__law_asked_scaled.nd (kN 7) (blkOk_by (own := [("item", 8)]) (by rfl)) (fun _ _ _ _ _ => (gNm 8 sc__law_asked_scaled.nd)) (fun _ _ _ _ _ => lts_nil) (fun _ _ _ _ _ => (le_mul (rN 3) (rN 8)))))) (aN 6 (aN 4 la_nil)))))))))))⟩) h__law_asked_scaled

/-! the def _law_asked_shifted -/
abbrev s__law_asked_shifted : Stmt := top 26
theorem sc__law_asked_shifted : FnScope ["line", "basis", "row", "step", "at", "shift", "moved", "due"] ["line", "basis", "row", "step"] (defScope s__law_asked_shifted) := ⟨rfl, rfl, rfl, by decide +kernel, rfl, by decide +kernel, by decide +kernel⟩
theorem ok__law_asked_shifted {P : Program} {w : World} {K : PySem.W.Frag} {mg : Str → Option Value} {base : Heap} {cl : Nat → Addr} (T : BF mg) (F : Fd K mg "_law_asked_shifted" s__law_asked_shifted) (c__law_factors : Def P w K mg base 2 "_law_factors" ["row", "basis"] (spD ⟨K, cl⟩ p__law_factors)) (c__law_shift : Def P w K mg base 2 "_law_shift" ["basis", "at", "step"] (spD ⟨K, cl⟩ p__law_shift)) (c__law_asked : Def P w K mg base 3 "_law_asked" ["row", "basis", "due", "way"] (spD ⟨K, cl⟩ p__law_asked)) : Def P w K mg base 4 "_law_asked_shifted" ["line", "basis", "row", "step"] (spD ⟨K, cl⟩ p__law_asked_shifted) := by
  refine F.ok (k := 3) (w' := w__law_asked_shifted) sc__law_asked_shifted 8 rfl (fun _ _ _ _ _ _ us hl => match us, hl with | [_, _, _, _], _ => rfl) (len_of l__law_asked_shifted) (fun cdv A outer s H E f hr => ⟨_,
      (lss_cons (ls_if (lt_cmp (lc_eq hr.units) (lr_e (le_cb lb_len rfl T.len bt_len (ll_cons (rN 0) ll_nil))) (lr_e le_int) (nomark _))
      (lss_one (sRet le_bl))
      lss_nil)
      (lss_cons (sSet 4 sc__law_asked_shifted.nd (le_mod (lr_e (le_ct lb_int rfl T.int bt_int (ll_cons (lr_e (le_ix (rN 2) (lr_e le_int) (fun _ _ => rfl))) ll_nil))) (lr_e (le_cb lb_len rfl T.len bt_len (ll_cons (rN 0) ll_nil)))))
      (lss_cons (sSet 5 sc__law_asked_shifted.nd (le_call c__law_shift (hr.mono (by decide)) rfl (aN 1 (aN 4 (aN 3 la_nil)))))
      (lss_frz 5 (lss_cons (sSet 6 sc__law_asked_shifted.nd (le_ct lb_list rfl T.list bt_list (ll_cons (rN 0) ll_nil)))
      (lss_cons (sSub 6 (le_add (lr_e (le_ix (rN 6) (rN 4) (fun _ _ => rfl))) (lr_e (le_mul (lr_e (le_ix (lr_e (le_lst (li_cons le_int (li_cons (le_neg (lr_e le_int)) li_nil)))) (lr_e (le_ix (rN 2) (lr_e le_int) (fun _ _ => rfl))) (fun _ _ => rfl))) (lr_e (le_ix (rN 5) (lr_e le_int) (fun _ _ => rfl)))))) (rN 4))
      (lss_cons (sSet 7 sc__law_asked_shifted.nd le_non)
      (lss_frz 7 (lss_cons (ls_if (lt_not (lt_val (le_ix (rN 5) (lr_e le_int) (fun _ _ => rfl))))
      (lss_cons (ls_frz 6 (sSet 7 sc__law_asked_shifted.nd (le_call c__law_factors (hr.mono (by decide)) rfl (aN 6 (aN 1 la_nil)))))
      (lss_frz 7 lss_nil))
      lss_nil)
      (lss_one (ls_frz 7 (ls_frz 6 (sRet (le_call c__law_asked (hr.mono (by decide)) rfl (aN 6 (aN 1 (aN 7 (la_cons (le_ix (rN 2) (lr_e le_int) (fun _ _ => rfl)) la_nil))))))))))))))))))⟩) h__law_asked_shifted

/-! the def law -/
abbrev s_law : Stmt := top 27
theorem sc_law : FnScope ["script", "row", "great", "pool", "width", "digits", "basis", "factors", "scale", "line", "free", "item", "factor"] ["script"] (defScope s_law) := ⟨rfl, rfl, rfl, by decide +kernel, rfl, by decide +kernel, by decide +kernel⟩
theorem ok_law {P : Program} {w : World} {K : PySem.W.Frag} {mg : Str → Option Value} {base : Heap} {cl : Nat → Addr} {f : Addr} {fd : FuncData} (T : BF mg) (F : FunD K "law" "law" (defArgs s_law) (defBody s_law) (defScope s_law) [] [] f fd) (c__law_cell : Def P w K mg base 1 "_law_cell" ["script", "k"] (spD ⟨K, cl⟩ p__law_cell)) (c__law_digits : Def P w K mg base 1 "_law_digits" ["cell", "sizes"] (spD ⟨K, cl⟩ p__law_digits)) (c__law_basis : Def P w K mg base 1 "_law_basis" ["row", "width", "great"] (spD ⟨K, cl⟩ p__law_basis)) (c__law_large_basis : Def P w K mg base 1 "_law_large_basis" ["pool", "width", "step", "ahead"] (spD ⟨K, cl⟩ p__law_large_basis)) (c__law_mixture : Def P w K mg base 1 "_law_mixture" ["rows", "factors", "width"] (spD ⟨K, cl⟩ p__law_mixture)) (c__law_drawn_factors : Def P w K mg base 2 "_law_drawn_factors" ["cell", "many", "pool"] (spD ⟨K, cl⟩ p__law_drawn_factors)) (c__law_factors : Def P w K mg base 2 "_law_factors" ["row", "basis"] (spD ⟨K, cl⟩ p__law_factors)) (c__law_asked : Def P w K mg base 3 "_law_asked" ["row", "basis", "due", "way"] (spD ⟨K, cl⟩ p__law_asked)) (c__law_asked_nothing : Def P w K mg base 4 "_law_asked_nothing" ["row", "way"] (spD ⟨K, cl⟩ p__law_asked_nothing)) (c__law_asked_rows : Def P w K mg base 4 "_law_asked_rows" ["basis", "width", "way"] (spD ⟨K, cl⟩ p__law_asked_rows)) (c__law_asked_scaled : Def P w K mg base 4 "_law_asked_scaled" ["line", "basis", "factors", "scale", "way"] (spD ⟨K, cl⟩ p__law_asked_scaled)) (c__law_asked_shifted : Def P w K mg base 4 "_law_asked_shifted" ["line", "basis", "row", "step"] (spD ⟨K, cl⟩ p__law_asked_shifted)) : FnOk P w K mg base CX0 5 f fd ["script"] (spD ⟨K, cl⟩ p_law) := by
  refine FunD.okL F (k := 4) (w' := w_law) sc_law 13 rfl (len_of l_law) (fun cdv A outer s H E f hr => ⟨_,
      (lss_cons (sSet 1 sc_law.nd (le_call c__law_digits (hr.mono (by decide)) rfl (la_cons (le_call c__law_cell (hr.mono (by decide)) rfl (aN 0 (la_cons le_int la_nil))) (la_cons (le_lst (li_cons le_int (li_cons le_int (li_cons le_int (li_cons le_int (li_cons le_int (li_cons le_int (li_cons le_int (li_cons le_int (li_cons le_int (li_cons le_int (li_cons le_int (li_cons le_int (li_cons le_int li_nil)))))))))))))) la_nil))))
      (lss_frz 1 (lss_cons (sSet 2 sc_law.nd (le_call c__law_digits (hr.mono (by decide)) rfl (la_cons (le_call c__law_cell (hr.mono (by decide)) rfl (aN 0 (la_cons le_int la_nil))) (la_cons (le_lst (li_cons (le_pow (lr_e le_int) (lr_e le_int)) (li_cons (le_pow (lr_e le_int) (lr_e le_int)) (li_cons (le_pow (lr_e le_int) (lr_e le_int)) (li_cons (le_pow (lr_e le_int) (lr_e le_int)) li_nil))))) la_nil))))
      (lss_frz 2 (lss_cons (sSetLc 3 (own := [("item", 11)]) (is := [11]) rfl sc_law.nd (kE (le_call c__law_digits (hr.mono (by decide)) rfl (la_cons (le_call c__law_cell (hr.mono (by decide)) rfl (aN 0 (la_cons le_int la_nil))) (la_cons (le_mul (lr_e (le_lst (li_cons le_int li_nil))) (lr_e le_int)) la_nil)))) (blkOk_by (own := [("item", 11)]) (N := ["script", "row", "great", "pool", "width", "digits", "basis", "factors", "scale", "line", "free", "item", "factor"]) (sc := defScope s_law) (by decide +kernel)) (fun _ _ _ _ _ => (gNm 11 sc_law.nd)) (fun _ _ _ _ _ => lts_nil) (fun _ _ _ _ _ => (le_sub (rN 11) (lr_e le_int))))
      (lss_frz 3 (lss_cons (ls_if (lt_cmp lc_lt (lr_e (le_ix (rN 1) (lr_e le_int) (fun _ _ => rfl))) (lr_e le_int) (nomark _))
      (lss_cons (sSet 4 sc_law.nd (le_ix (lr_e (le_lst (li_cons le_int (li_cons le_int (li_cons le_int (li_cons le_int (li_cons le_int (li_cons le_int (li_cons le_int (li_cons le_int (li_cons le_int (li_cons le_int (li_cons le_int (li_cons le_int (li_cons le_int li_nil))))))))))))))) (lr_e (le_ix (rN 1) (lr_e le_int) (fun _ _ => rfl))) (fun _ _ => rfl)))
      (lss_cons (sSet 5 sc_law.nd (le_call c__law_digits (hr.mono (by decide)) rfl (la_cons (le_call c__law_cell (hr.mono (by decide)) rfl (aN 0 (la_cons le_int la_nil))) (la_cons (le_add (lr_e (le_add (lr_e (le_mul (lr_e (le_lst (li_cons le_int li_nil))) (lr_e le_int))) (lr_e (le_mul (lr_e (le_lst (li_cons le_int li_nil))) (lr_e le_int))))) (lr_e (le_mul (lr_e (le_lst (li_cons le_int li_nil))) (lr_e le_int)))) la_nil))))
      (lss_frz 5 (lss_cons (ls_frz 5 (sSet 6 sc_law.nd (le_call c__law_basis (hr.mono (by decide)) rfl (aN 5 (aN 4 (la_cons (le_add (lr_e (le_add (lr_e (le_add (lr_e le_int) (lr_e (le_mul (lr_e (le_ix (rN 2) (lr_e le_int) (fun _ _ => rfl))) (lr_e (le_pow (lr_e le_int) (lr_e le_int))))))) (lr_e (le_mul (lr_e (le_ix (rN 2) (lr_e le_int) (fun _ _ => rfl))) (lr_e (le_pow (lr_e le_int) (lr_e le_int))))))) (lr_e (le_ix (rN 2) (lr_e le_int) (fun _ _ => rfl)))) la_nil))))))
      (lss_frz 6 lss_nil)))))
      (lss_cons (sSet 4 sc_law.nd (le_add (lr_e le_int) (lr_e (le_ix (rN 1) (lr_e le_int) (fun _ _ => rfl)))))
      (lss_cons (ls_frz 3 (sSet 6 sc_law.nd (le_call c__law_large_basis (hr.mono (by decide)) rfl (aN 3 (aN 4 (la_cons (le_add (lr_e le_int) (lr_e (le_ix (rN 1) (lr_e le_int) (fun _ _ => rfl)))) (la_cons (le_ix (rN 1) (lr_e le_int) (fun _ _ => rfl)) la_nil)))))))
      (lss_frz 6 lss_nil))))
      (lss_cons (ls_frz 3 (sSet 7 sc_law.nd (le_call c__law_drawn_factors (hr.mono (by decide)) rfl (la_cons (le_call c__law_cell (hr.mono (by decide)) rfl (aN 0 (la_cons le_int la_nil))) (la_cons (le_cb lb_len rfl T.len bt_len (ll_cons (rN 6) ll_nil)) (aN 3 la_nil))))))
      (lss_frz 7 (lss_cons (sSet 8 sc_law.nd (le_add (lr_e le_int) (lr_e (le_ix (rN 1) (lr_e le_int) (fun _ _ => rfl)))))
      (lss_cons (ls_if (lt_cmp (lc_eq hr.units) (lr_e (le_ix (rN 1) (lr_e le_int) (fun _ _ => rfl))) (lr_e le_int) (nomark _))
      (lss_cons (ls_frz 7 (sSetLc 7 (own := [("factor", 12)]) (is := [12]) rfl sc_law.nd (kN 7) (blkOk_by (own := [("factor", 12)]) (N := ["script", "row", "great", "pool", "width", "digits", "basis", "factors", "scale", "line", "free", "item", "factor"]) (sc := defScope s_law) (by decide +kernel)) (fun _ _ _ _ _ => (gNm 12 sc_law.nd)) (fun _ _ _ _ _ => lts_nil) (fun _ _ _ _ _ => (le_mul (rN 8) (rN 12)))))
      (lss_frz 7 lss_nil))
      lss_nil)
      (lss_cons (ls_frz 7 (ls_frz 6 (sSet 9 sc_law.nd (le_call c__law_mixture (hr.mono (by decide)) rfl (aN 6 (aN 7 (aN 4 la_nil)))))))
      (lss_frz 9 (lss_cons (ls_frz 7 (ls_frz 6 (ls_frz 9 (ls_if (lt_not (lt_val (le_call c__law_asked (hr.mono (by decide)) rfl (aN 9 (aN 6 (aN 7 (la_cons (le_ix (rN 1) (lr_e le_int) (fun _ _ => rfl)) la_nil)))))))
      (lss_one (sRet le_bl))
      lss_nil))))
      (lss_cons (ls_frz 1 (ls_frz 6 (ls_frz 9 (ls_if (lt_not (lt_val (le_call c__law_asked_shifted (hr.mono (by decide)) rfl (aN 9 (aN 6 (aN 1 (la_cons (le_ix (lr_e (le_lst (li_cons (le_ix (rN 1) (lr_e le_int) (fun _ _ => rfl)) (li_cons (le_ix (rN 2) (lr_e le_int) (fun _ _ => rfl)) li_nil)))) (lr_e (le_ix (rN 1) (lr_e le_int) (fun _ _ => rfl))) (fun _ _ => rfl)) la_nil)))))))
      (lss_one (sRet le_bl))
      lss_nil))))
      (lss_cons (ls_frz 7 (ls_frz 6 (ls_frz 9 (ls_if (LW.lt (lw_or (lt_not (lt_val (le_call c__law_asked_scaled (hr.mono (by decide)) rfl (aN 9 (aN 6 (aN 7 (aN 8 (la_cons (le_ix (rN 1) (lr_e le_int) (fun _ _ => rfl)) la_nil)))))))) (lw_or1 (lt_not (lt_val (le_call c__law_asked_rows (hr.mono (by decide)) rfl (aN 6 (aN 4 (la_cons (le_ix (rN 1) (lr_e le_int) (fun _ _ => rfl)) la_nil)))))))))
      (lss_one (sRet le_bl))
      lss_nil))))
      (lss_cons (sSetLc 10 (own := [("item", 11)]) (is := [11]) rfl sc_law.nd (kE (le_call c__law_digits (hr.mono (by decide)) rfl (la_cons (le_call c__law_cell (hr.mono (by decide)) rfl (aN 0 (la_cons le_int la_nil))) (la_cons (le_mul (lr_e (le_lst (li_cons le_int li_nil))) (lr_e le_int)) la_nil)))) (blkOk_by (own := [("item", 11)]) (N := ["script", "row", "great", "pool", "width", "digits", "basis", "factors", "scale", "line", "free", "item", "factor"]) (sc := defScope s_law) (by decide +kernel)) (fun _ _ _ _ _ => (gNm 11 sc_law.nd)) (fun _ _ _ _ _ => lts_nil) (fun _ _ _ _ _ => (le_sub (rN 11) (lr_e le_int))))
      (lss_frz 10 (lss_cons (ls_frz 6 (ls_if (LW.lt (lw_and (lt_cmp lc_lt (lr_e (le_cb lb_len rfl T.len bt_len (ll_cons (rN 6) ll_nil))) (lr_e le_int) (nomark _)) (lw_and1 (lt_not (lt_val (le_call c__law_asked (hr.mono (by decide)) rfl (la_cons (le_sl (rN 10) lo_none (lo_some (rN 4))) (aN 6 (la_cons (le_call c__law_factors (hr.mono (by decide)) rfl (la_cons (le_sl (rN 10) lo_none (lo_some (rN 4))) (aN 6 la_nil))) (la_cons (le_ix (rN 1) (lr_e le_int) (fun _ _ => rfl)) la_nil))))))))))
      (lss_one (sRet le_bl))
      lss_nil))
      (lss_one (ls_frz 7 (ls_frz 6 (ls_frz 9 (ls_frz 10 (sRet (le_and (le_call c__law_asked_nothing (hr.mono (by decide)) rfl (aN 10 (la_cons (le_ix (rN 1) (lr_e le_int) (fun _ _ => rfl)) la_nil))) (le_one (le_call c__law_asked (hr.mono (by decide)) rfl (aN 9 (aN 6 (aN 7 (la_cons (le_ix (rN 1) (lr_e le_int) (fun _ _ => rfl)) la_nil))))))))))))))))))))))))))))))))⟩) h_law
/-! the head: the facts, the run -/
def dd_row_difference : He.DefD := ⟨("row_difference", none), "row_difference", "row_difference", defArgs s_row_difference, defBody s_row_difference, defScope s_row_difference, [], []⟩
def dd_scaled_row : He.DefD := ⟨("scaled_row", none), "scaled_row", "scaled_row", defArgs s_scaled_row, defBody s_scaled_row, defScope s_scaled_row, [], []⟩
def dd_is_zero_row : He.DefD := ⟨("is_zero_row", none), "is_zero_row", "is_zero_row", defArgs s_is_zero_row, defBody s_is_zero_row, defScope s_is_zero_row, [], []⟩
def dd_pivot_of : He.DefD := ⟨("pivot_of", none), "pivot_of", "pivot_of", defArgs s_pivot_of, defBody s_pivot_of, defScope s_pivot_of, [], []⟩
def dd_coordinates : He.DefD := ⟨("coordinates", none), "coordinates", "coordinates", defArgs s_coordinates, defBody s_coordinates, defScope s_coordinates, [], []⟩
def dd__law_whole : He.DefD := ⟨("_law_whole", none), "_law_whole", "_law_whole", defArgs s__law_whole, defBody s__law_whole, defScope s__law_whole, [], []⟩
def dd__law_cell : He.DefD := ⟨("_law_cell", none), "_law_cell", "_law_cell", defArgs s__law_cell, defBody s__law_cell, defScope s__law_cell, [], []⟩
def dd__law_digits : He.DefD := ⟨("_law_digits", none), "_law_digits", "_law_digits", defArgs s__law_digits, defBody s__law_digits, defScope s__law_digits, [], []⟩
def dd__law_dressed : He.DefD := ⟨("_law_dressed", none), "_law_dressed", "_law_dressed", defArgs s__law_dressed, defBody s__law_dressed, defScope s__law_dressed, [], []⟩
def dd__law_plain : He.DefD := ⟨("_law_plain", none), "_law_plain", "_law_plain", defArgs s__law_plain, defBody s__law_plain, defScope s__law_plain, [], []⟩
def dd__law_same_row : He.DefD := ⟨("_law_same_row", none), "_law_same_row", "_law_same_row", defArgs s__law_same_row, defBody s__law_same_row, defScope s__law_same_row, [], []⟩
def dd__law_same : He.DefD := ⟨("_law_same", none), "_law_same", "_law_same", defArgs s__law_same, defBody s__law_same, defScope s__law_same, [], []⟩
def dd__law_basis : He.DefD := ⟨("_law_basis", none), "_law_basis", "_law_basis", defArgs s__law_basis, defBody s__law_basis, defScope s__law_basis, [], []⟩
def dd__law_large_basis : He.DefD := ⟨("_law_large_basis", none), "_law_large_basis", "_law_large_basis", defArgs s__law_large_basis, defBody s__law_large_basis, defScope s__law_large_basis, [], []⟩
def dd__law_mixture : He.DefD := ⟨("_law_mixture", none), "_law_mixture", "_law_mixture", defArgs s__law_mixture, defBody s__law_mixture, defScope s__law_mixture, [], []⟩
def dd__law_drawn_factors : He.DefD := ⟨("_law_drawn_factors", none), "_law_drawn_factors", "_law_drawn_factors", defArgs s__law_drawn_factors, defBody s__law_drawn_factors, defScope s__law_drawn_factors, [], []⟩
def dd__law_pivot : He.DefD := ⟨("_law_pivot", none), "_law_pivot", "_law_pivot", defArgs s__law_pivot, defBody s__law_pivot, defScope s__law_pivot, [], []⟩
def dd__law_factors : He.DefD := ⟨("_law_factors", none), "_law_factors", "_law_factors", defArgs s__law_factors, defBody s__law_factors, defScope s__law_factors, [], []⟩
def dd__law_shift : He.DefD := ⟨("_law_shift", none), "_law_shift", "_law_shift", defArgs s__law_shift, defBody s__law_shift, defScope s__law_shift, [], []⟩
def dd__law_asked : He.DefD := ⟨("_law_asked", none), "_law_asked", "_law_asked", defArgs s__law_asked, defBody s__law_asked, defScope s__law_asked, [], []⟩
def dd__law_asked_nothing : He.DefD := ⟨("_law_asked_nothing", none), "_law_asked_nothing", "_law_asked_nothing", defArgs s__law_asked_nothing, defBody s__law_asked_nothing, defScope s__law_asked_nothing, [], []⟩
def dd__law_asked_rows : He.DefD := ⟨("_law_asked_rows", none), "_law_asked_rows", "_law_asked_rows", defArgs s__law_asked_rows, defBody s__law_asked_rows, defScope s__law_asked_rows, [], []⟩
def dd__law_asked_scaled : He.DefD := ⟨("_law_asked_scaled", none), "_law_asked_scaled", "_law_asked_scaled", defArgs s__law_asked_scaled, defBody s__law_asked_scaled, defScope s__law_asked_scaled, [], []⟩
def dd__law_asked_shifted : He.DefD := ⟨("_law_asked_shifted", none), "_law_asked_shifted", "_law_asked_shifted", defArgs s__law_asked_shifted, defBody s__law_asked_shifted, defScope s__law_asked_shifted, [], []⟩
def dd_law : He.DefD := ⟨("law", none), "law", "law", defArgs s_law, defBody s_law, defScope s_law, [], []⟩
def fnL : List He.DefD := ([dd_row_difference, dd_scaled_row, dd_is_zero_row, dd_pivot_of, dd_coordinates, dd__law_whole, dd__law_cell, dd__law_digits, dd__law_dressed, dd__law_plain, dd__law_same_row, dd__law_same, dd__law_basis, dd__law_large_basis, dd__law_mixture, dd__law_drawn_factors, dd__law_pivot, dd__law_factors, dd__law_shift, dd__law_asked] : List He.DefD) ++ ([dd__law_asked_nothing, dd__law_asked_rows, dd__law_asked_scaled, dd__law_asked_shifted, dd_law] : List He.DefD)
def faL : List He.Fa := ([.glo "row_difference", .glo "scaled_row", .glo "is_zero_row", .glo "pivot_of", .glo "coordinates", .glo "_law_whole", .glo "_law_cell", .glo "_law_digits", .glo "_law_dressed", .glo "_law_plain", .glo "_law_same_row", .glo "_law_same", .glo "_law_basis", .glo "_law_large_basis", .glo "_law_mixture", .glo "_law_drawn_factors", .glo "_law_pivot", .glo "_law_factors", .glo "_law_shift", .glo "_law_asked"] : List He.Fa) ++ ([.glo "_law_asked_nothing", .glo "_law_asked_rows", .glo "_law_asked_scaled", .glo "_law_asked_shifted", .glo "law", .free "len", .free "int", .free "bool", .free "str", .free "list", .free "tuple", .free "range", .free "zip", .free "reversed", .free "isinstance", .free "abs", .free "max", .free "min", .free "sum", .free "any"] : List He.Fa) ++ ([.free "all", .free "sorted", .free "repr"] : List He.Fa)
abbrev Rw : PySem.W.OpenRow := PySem.W.OpenLaw.row PySem.Challenge.rw_fewestmarks_k02_coordinates
abbrev hk : PySem.W.Hook := He.hookD 4 faL fnL
def ob (s : PySem.W.SharedT) : He.AlD := He.obsDG 4 faL fnL (HandSHeadRun.getT s)
theorem ob_eq (s : PySem.W.SharedT) : ob s = hk.obs s.abs := He.obsDG_eq (HandSHeadRun.getT_eq s)
def loose : List Str := (["row_difference", "scaled_row", "is_zero_row", "pivot_of", "coordinates", "_law_whole", "_law_cell", "_law_digits", "_law_dressed", "_law_plain", "_law_same_row", "_law_same", "_law_basis", "_law_large_basis", "_law_mixture", "_law_drawn_factors", "_law_pivot", "_law_factors", "_law_shift", "_law_asked"] : List Str) ++ (["_law_asked_nothing", "_law_asked_rows", "_law_asked_scaled", "_law_asked_shifted"] : List Str)
theorem run (w : World) : HandSHeadRun.RunEq Rw (PySem.W.view Rw.prog [27]) hk ob 1200 loose w := by
  intro os
  kernel_rfl
theorem start_ok {K : PySem.W.Frag} {H : Hp} {a : Addr} {ns : List Int} (hl : ns.length ≤ 63) (hS : SqL K H a (ns.map V.int)) : spD ⟨K, fun _ => 0⟩ p_law [.ref a] H (fun v _ => v = .bl true) (fun _ _ _ => False) :=
  ⟨H, [.frz (.scr ns)], fun r => r = .fr (.bl true), Same.refl H, ⟨.ref a, [], rfl, rfl, ⟨a, rfl, hS⟩, rfl⟩, ⟨ns, hl, rfl, rfl⟩, fun r v G' H' e x ok => by subst e; exact ok⟩
theorem facts {P : Program} {w : World} {K : PySem.W.Frag} {h : Heap} {mg : Str → Option Value} {f : Addr} (X : K.In h) (G : h.Ns mainGlobals mg) (hfa : mg ("law" : Str) = some (.ref f)) (c : He.SaysD faL fnL K) :
    ∃ fd : FuncData, (∀ (s : Shared) (v : Value), BindsTo s fd ⟨[v], []⟩ [("script", v)]) ∧ ∀ base : Heap, K.In base → base.Ns mainGlobals mg → FnOk P w K mg base CX0 5 f fd ["script"] (spD ⟨K, fun _ => 0⟩ p_law) := by
  have T : BF mg := ⟨He.free_ok X G (c.fact 25 (f := .free "len") rfl), He.free_ok X G (c.fact 26 (f := .free "int") rfl), He.free_ok X G (c.fact 27 (f := .free "bool") rfl), He.free_ok X G (c.fact 28 (f := .free "str") rfl), He.free_ok X G (c.fact 29 (f := .free "list") rfl), He.free_ok X G (c.fact 30 (f := .free "tuple") rfl), He.free_ok X G (c.fact 31 (f := .free "range") rfl), He.free_ok X G (c.fact 32 (f := .free "zip") rfl), He.free_ok X G (c.fact 33 (f := .free "reversed") rfl), He.free_ok X G (c.fact 34 (f := .free "isinstance") rfl), He.free_ok X G (c.fact 35 (f := .free "abs") rfl), He.free_ok X G (c.fact 36 (f := .free "max") rfl), He.free_ok X G (c.fact 37 (f := .free "min") rfl), He.free_ok X G (c.fact 38 (f := .free "sum") rfl), He.free_ok X G (c.fact 39 (f := .free "any") rfl), He.free_ok X G (c.fact 40 (f := .free "all") rfl), He.free_ok X G (c.fact 41 (f := .free "sorted") rfl), He.free_ok X G (c.fact 42 (f := .free "repr") rfl)⟩
  obtain ⟨fd_row_difference, F_row_difference⟩ := c.def_ 0 (d := dd_row_difference) rfl
  have F_row_difference : Fd K mg "row_difference" s_row_difference := ⟨_, fd_row_difference, F_row_difference, He.glo_ok X G (c.fact 0 (f := .glo "row_difference") rfl)⟩
  obtain ⟨fd_scaled_row, F_scaled_row⟩ := c.def_ 1 (d := dd_scaled_row) rfl
  have F_scaled_row : Fd K mg "scaled_row" s_scaled_row := ⟨_, fd_scaled_row, F_scaled_row, He.glo_ok X G (c.fact 1 (f := .glo "scaled_row") rfl)⟩
  obtain ⟨fd_is_zero_row, F_is_zero_row⟩ := c.def_ 2 (d := dd_is_zero_row) rfl
  have F_is_zero_row : Fd K mg "is_zero_row" s_is_zero_row := ⟨_, fd_is_zero_row, F_is_zero_row, He.glo_ok X G (c.fact 2 (f := .glo "is_zero_row") rfl)⟩
  obtain ⟨fd_pivot_of, F_pivot_of⟩ := c.def_ 3 (d := dd_pivot_of) rfl
  have F_pivot_of : Fd K mg "pivot_of" s_pivot_of := ⟨_, fd_pivot_of, F_pivot_of, He.glo_ok X G (c.fact 3 (f := .glo "pivot_of") rfl)⟩
  obtain ⟨fd_coordinates, F_coordinates⟩ := c.def_ 4 (d := dd_coordinates) rfl
  have F_coordinates : Fd K mg "coordinates" s_coordinates := ⟨_, fd_coordinates, F_coordinates, He.glo_ok X G (c.fact 4 (f := .glo "coordinates") rfl)⟩
  obtain ⟨fd__law_whole, F__law_whole⟩ := c.def_ 5 (d := dd__law_whole) rfl
  have F__law_whole : Fd K mg "_law_whole" s__law_whole := ⟨_, fd__law_whole, F__law_whole, He.glo_ok X G (c.fact 5 (f := .glo "_law_whole") rfl)⟩
  obtain ⟨fd__law_cell, F__law_cell⟩ := c.def_ 6 (d := dd__law_cell) rfl
  have F__law_cell : Fd K mg "_law_cell" s__law_cell := ⟨_, fd__law_cell, F__law_cell, He.glo_ok X G (c.fact 6 (f := .glo "_law_cell") rfl)⟩
  obtain ⟨fd__law_digits, F__law_digits⟩ := c.def_ 7 (d := dd__law_digits) rfl
  have F__law_digits : Fd K mg "_law_digits" s__law_digits := ⟨_, fd__law_digits, F__law_digits, He.glo_ok X G (c.fact 7 (f := .glo "_law_digits") rfl)⟩
  obtain ⟨fd__law_dressed, F__law_dressed⟩ := c.def_ 8 (d := dd__law_dressed) rfl
  have F__law_dressed : Fd K mg "_law_dressed" s__law_dressed := ⟨_, fd__law_dressed, F__law_dressed, He.glo_ok X G (c.fact 8 (f := .glo "_law_dressed") rfl)⟩
  obtain ⟨fd__law_plain, F__law_plain⟩ := c.def_ 9 (d := dd__law_plain) rfl
  have F__law_plain : Fd K mg "_law_plain" s__law_plain := ⟨_, fd__law_plain, F__law_plain, He.glo_ok X G (c.fact 9 (f := .glo "_law_plain") rfl)⟩
  obtain ⟨fd__law_same_row, F__law_same_row⟩ := c.def_ 10 (d := dd__law_same_row) rfl
  have F__law_same_row : Fd K mg "_law_same_row" s__law_same_row := ⟨_, fd__law_same_row, F__law_same_row, He.glo_ok X G (c.fact 10 (f := .glo "_law_same_row") rfl)⟩
  obtain ⟨fd__law_same, F__law_same⟩ := c.def_ 11 (d := dd__law_same) rfl
  have F__law_same : Fd K mg "_law_same" s__law_same := ⟨_, fd__law_same, F__law_same, He.glo_ok X G (c.fact 11 (f := .glo "_law_same") rfl)⟩
  obtain ⟨fd__law_basis, F__law_basis⟩ := c.def_ 12 (d := dd__law_basis) rfl
  have F__law_basis : Fd K mg "_law_basis" s__law_basis := ⟨_, fd__law_basis, F__law_basis, He.glo_ok X G (c.fact 12 (f := .glo "_law_basis") rfl)⟩
  obtain ⟨fd__law_large_basis, F__law_large_basis⟩ := c.def_ 13 (d := dd__law_large_basis) rfl
  have F__law_large_basis : Fd K mg "_law_large_basis" s__law_large_basis := ⟨_, fd__law_large_basis, F__law_large_basis, He.glo_ok X G (c.fact 13 (f := .glo "_law_large_basis") rfl)⟩
  obtain ⟨fd__law_mixture, F__law_mixture⟩ := c.def_ 14 (d := dd__law_mixture) rfl
  have F__law_mixture : Fd K mg "_law_mixture" s__law_mixture := ⟨_, fd__law_mixture, F__law_mixture, He.glo_ok X G (c.fact 14 (f := .glo "_law_mixture") rfl)⟩
  obtain ⟨fd__law_drawn_factors, F__law_drawn_factors⟩ := c.def_ 15 (d := dd__law_drawn_factors) rfl
  have F__law_drawn_factors : Fd K mg "_law_drawn_factors" s__law_drawn_factors := ⟨_, fd__law_drawn_factors, F__law_drawn_factors, He.glo_ok X G (c.fact 15 (f := .glo "_law_drawn_factors") rfl)⟩
  obtain ⟨fd__law_pivot, F__law_pivot⟩ := c.def_ 16 (d := dd__law_pivot) rfl
  have F__law_pivot : Fd K mg "_law_pivot" s__law_pivot := ⟨_, fd__law_pivot, F__law_pivot, He.glo_ok X G (c.fact 16 (f := .glo "_law_pivot") rfl)⟩
  obtain ⟨fd__law_factors, F__law_factors⟩ := c.def_ 17 (d := dd__law_factors) rfl
  have F__law_factors : Fd K mg "_law_factors" s__law_factors := ⟨_, fd__law_factors, F__law_factors, He.glo_ok X G (c.fact 17 (f := .glo "_law_factors") rfl)⟩
  obtain ⟨fd__law_shift, F__law_shift⟩ := c.def_ 18 (d := dd__law_shift) rfl
  have F__law_shift : Fd K mg "_law_shift" s__law_shift := ⟨_, fd__law_shift, F__law_shift, He.glo_ok X G (c.fact 18 (f := .glo "_law_shift") rfl)⟩
  obtain ⟨fd__law_asked, F__law_asked⟩ := c.def_ 19 (d := dd__law_asked) rfl
  have F__law_asked : Fd K mg "_law_asked" s__law_asked := ⟨_, fd__law_asked, F__law_asked, He.glo_ok X G (c.fact 19 (f := .glo "_law_asked") rfl)⟩
  obtain ⟨fd__law_asked_nothing, F__law_asked_nothing⟩ := c.def_ 20 (d := dd__law_asked_nothing) rfl
  have F__law_asked_nothing : Fd K mg "_law_asked_nothing" s__law_asked_nothing := ⟨_, fd__law_asked_nothing, F__law_asked_nothing, He.glo_ok X G (c.fact 20 (f := .glo "_law_asked_nothing") rfl)⟩
  obtain ⟨fd__law_asked_rows, F__law_asked_rows⟩ := c.def_ 21 (d := dd__law_asked_rows) rfl
  have F__law_asked_rows : Fd K mg "_law_asked_rows" s__law_asked_rows := ⟨_, fd__law_asked_rows, F__law_asked_rows, He.glo_ok X G (c.fact 21 (f := .glo "_law_asked_rows") rfl)⟩
  obtain ⟨fd__law_asked_scaled, F__law_asked_scaled⟩ := c.def_ 22 (d := dd__law_asked_scaled) rfl
  have F__law_asked_scaled : Fd K mg "_law_asked_scaled" s__law_asked_scaled := ⟨_, fd__law_asked_scaled, F__law_asked_scaled, He.glo_ok X G (c.fact 22 (f := .glo "_law_asked_scaled") rfl)⟩
  obtain ⟨fd__law_asked_shifted, F__law_asked_shifted⟩ := c.def_ 23 (d := dd__law_asked_shifted) rfl
  have F__law_asked_shifted : Fd K mg "_law_asked_shifted" s__law_asked_shifted := ⟨_, fd__law_asked_shifted, F__law_asked_shifted, He.glo_ok X G (c.fact 23 (f := .glo "_law_asked_shifted") rfl)⟩
  obtain ⟨fd, F⟩ := c.def_ 24 (d := dd_law) rfl
  have e := hfa.symm.trans (He.glo_ok X G (c.fact 24 (f := .glo "law") rfl))
  cases e
  have b := FunD.bindsA (ps := ["script"]) F fun _ _ _ _ _ _ us hl => match us, hl with | [_], _ => rfl
  refine ⟨fd, fun s v => b s [v] rfl, fun base _ _ => ?_⟩
  have c_row_difference : Def P w K mg base 1 "row_difference" ["one", "two"] (spD ⟨K, fun _ => 0⟩ p_row_difference) := ok_row_difference T F_row_difference 
  have c_scaled_row : Def P w K mg base 1 "scaled_row" ["row", "factor"] (spD ⟨K, fun _ => 0⟩ p_scaled_row) := ok_scaled_row T F_scaled_row 
  have c_is_zero_row : Def P w K mg base 1 "is_zero_row" ["row"] (spD ⟨K, fun _ => 0⟩ p_is_zero_row) := ok_is_zero_row T F_is_zero_row 
  have c_pivot_of : Def P w K mg base 1 "pivot_of" ["row"] (spD ⟨K, fun _ => 0⟩ p_pivot_of) := ok_pivot_of T F_pivot_of 
  have c_coordinates : Def P w K mg base 2 "coordinates" ["row", "basis"] (spD ⟨K, fun _ => 0⟩ p_coordinates) := ok_coordinates T F_coordinates c_row_difference c_scaled_row c_is_zero_row c_pivot_of
  have c__law_whole : Def P w K mg base 1 "_law_whole" ["value"] (spD ⟨K, fun _ => 0⟩ p__law_whole) := ok__law_whole T F__law_whole 
  have c__law_cell : Def P w K mg base 1 "_law_cell" ["script", "k"] (spD ⟨K, fun _ => 0⟩ p__law_cell) := ok__law_cell T F__law_cell 
  have c__law_digits : Def P w K mg base 1 "_law_digits" ["cell", "sizes"] (spD ⟨K, fun _ => 0⟩ p__law_digits) := ok__law_digits T F__law_digits 
  have c__law_dressed : Def P w K mg base 1 "_law_dressed" ["table", "way"] (spD ⟨K, fun _ => 0⟩ p__law_dressed) := ok__law_dressed T F__law_dressed 
  have c__law_plain : Def P w K mg base 1 "_law_plain" ["table"] (spD ⟨K, fun _ => 0⟩ p__law_plain) := ok__law_plain T F__law_plain 
  have c__law_same_row : Def P w K mg base 2 "_law_same_row" ["told", "due"] (spD ⟨K, fun _ => 0⟩ p__law_same_row) := ok__law_same_row T F__law_same_row c__law_whole
  have c__law_basis : Def P w K mg base 1 "_law_basis" ["row", "width", "great"] (spD ⟨K, fun _ => 0⟩ p__law_basis) := ok__law_basis T F__law_basis 
  have c__law_large_basis : Def P w K mg base 1 "_law_large_basis" ["pool", "width", "step", "ahead"] (spD ⟨K, fun _ => 0⟩ p__law_large_basis) := ok__law_large_basis T F__law_large_basis 
  have c__law_mixture : Def P w K mg base 1 "_law_mixture" ["rows", "factors", "width"] (spD ⟨K, fun _ => 0⟩ p__law_mixture) := ok__law_mixture T F__law_mixture 
  have c__law_drawn_factors : Def P w K mg base 2 "_law_drawn_factors" ["cell", "many", "pool"] (spD ⟨K, fun _ => 0⟩ p__law_drawn_factors) := ok__law_drawn_factors T F__law_drawn_factors c__law_digits
  have c__law_pivot : Def P w K mg base 1 "_law_pivot" ["line"] (spD ⟨K, fun _ => 0⟩ p__law_pivot) := ok__law_pivot T F__law_pivot 
  have c__law_factors : Def P w K mg base 2 "_law_factors" ["row", "basis"] (spD ⟨K, fun _ => 0⟩ p__law_factors) := ok__law_factors T F__law_factors c__law_pivot
  have c__law_shift : Def P w K mg base 2 "_law_shift" ["basis", "at", "step"] (spD ⟨K, fun _ => 0⟩ p__law_shift) := ok__law_shift T F__law_shift c__law_pivot
  have c__law_asked : Def P w K mg base 3 "_law_asked" ["row", "basis", "due", "way"] (spD ⟨K, fun _ => 0⟩ p__law_asked) := ok__law_asked T F__law_asked c_coordinates c__law_dressed c__law_plain c__law_same_row
  have c__law_asked_nothing : Def P w K mg base 4 "_law_asked_nothing" ["row", "way"] (spD ⟨K, fun _ => 0⟩ p__law_asked_nothing) := ok__law_asked_nothing T F__law_asked_nothing c__law_asked
  have c__law_asked_rows : Def P w K mg base 4 "_law_asked_rows" ["basis", "width", "way"] (spD ⟨K, fun _ => 0⟩ p__law_asked_rows) := ok__law_asked_rows T F__law_asked_rows c__law_asked
  have c__law_asked_scaled : Def P w K mg base 4 "_law_asked_scaled" ["line", "basis", "factors", "scale", "way"] (spD ⟨K, fun _ => 0⟩ p__law_asked_scaled) := ok__law_asked_scaled T F__law_asked_scaled c__law_asked
  have c__law_asked_shifted : Def P w K mg base 4 "_law_asked_shifted" ["line", "basis", "row", "step"] (spD ⟨K, fun _ => 0⟩ p__law_asked_shifted) := ok__law_asked_shifted T F__law_asked_shifted c__law_factors c__law_shift c__law_asked
  exact ok_law T F c__law_cell c__law_digits c__law_basis c__law_large_basis c__law_mixture c__law_drawn_factors c__law_factors c__law_asked c__law_asked_nothing c__law_asked_rows c__law_asked_scaled c__law_asked_shifted
end Law
open PySem PySem.W PySem.Calls PyProof.Rows
theorem PySem.Challenge.cw_fewestmarks_k02_coordinates_holds : PySem.Challenge.rw_fewestmarks_k02_coordinates.Holds := by
  w_on; o_law
  refine HandSHeadRun.head_any (r := OpenLaw.row PySem.Challenge.rw_fewestmarks_k02_coordinates) (q := view (OpenLaw.row PySem.Challenge.rw_fewestmarks_k02_coordinates).prog [27]) (H := Law.hk) (ob := Law.ob) (M := 1200) (loose := Law.loose) (d := HandSHeadRun.topDef (OpenLaw.row PySem.Challenge.rw_fewestmarks_k02_coordinates).prog 27) (kwd := []) Law.ob_eq
    (by kernel_rfl) (fun s => by kernel_rfl) Law.run (by kernel_rfl) (by kernel_rfl) (by kernel_rfl) (by rfl) (by first | assumption | decide +kernel) (by decide +kernel) ⟨rfl, rfl, rfl, rfl, rfl, by decide +kernel⟩ ?hw ?hc
  case hw => w_witness2
  case hc =>
    refine L2.walk_ofE (l := PySem.Challenge.rw_fewestmarks_k02_coordinates) (n := 63) (k := 5) (x := "script") (CX := L2.CX0) rfl (by decide) (by kernel_rfl) ⟨rfl, by decide, by decide⟩ ?F (fun _ _ _ _ z => z)
    intro w mg fa h Y G hmg0
    obtain ⟨K, KX, c⟩ := Y
    have hmg : mg ("law" : PySem.Str) = some (.ref fa) := by
      have e : (HandSHeadRun.topDef (OpenLaw.row PySem.Challenge.rw_fewestmarks_k02_coordinates).prog 27).name = ("law" : PySem.Str) := by kernel_rfl
      rw [← e]
      exact hmg0
    obtain ⟨fd, hb, hF⟩ := Law.facts (P := (PySem.Challenge.rw_fewestmarks_k02_coordinates).prog) (w := w) KX G hmg c
    exact ⟨K, fd, Pl.spD ⟨K, fun _ => 0⟩ Law.p_law, KX, hb, fun H a ns hl _ hS => Law.start_ok hl hS, hF⟩
