import PyProof.Rows.All
import Wide.All
import OpenK.AllK
import Wide.FinOn
import HandS.ForMost
import HandS.ForExc
import HandS.IsInst
import HandS.Flow
import HandS.TupAny
import HandS.CallSlots
import HandS.Style
import HandS.Deep
import HandS.Wide
import HandS.TupMul
import HandS.TupLe
import HandS.Defaults
import HandS.Zip
import HandS.RaiseMore
import PyProof.Rows.StrMul
import PySem.Challenge.RW_talkerfates_k00_plain_values_told
set_option Elab.async false
set_option linter.all false
set_option maxRecDepth 100000
set_option maxHeartbeats 4000000
section
/-! Sim 1: values as trees and cells, the store, the relation to the abstract heap, what a result promises. -/
namespace Sim
open PySem PySem.Spec PyProof.Rows L2
/-- the slots -/
abbrev Sg := L2.St

/-- data that no longer changes -/
inductive D where
  | non | bl (b : Bool) | int (i : Int) | str (x : Str) | ty (n : String) | glob (x : Str)
  | lst (xs : List D) | rl (xs : List D) | tup (xs : List D) | ins (c : Str) (fs : List (Str × D)) | dic (kvs : List (Key × D))
/-- a value: data, or a cell of the store -/
inductive Vl where
  | p (d : D) | c (k : Nat)
/-- what a cell holds -/
inductive Cell where
  | dead | lst (xs : List D) | ins (c : Str) (fs : List (Str × D)) | dic (kvs : List (Key × D))
abbrev Store := List Cell
abbrev Ev := List (Option Vl)
structure Exn where
  c : Str
  fs : List (Str × D)
inductive Res (α : Type) where
  | stuck | ok (a : α) (st : Store) | exn (e : Exn) (st : Store)
abbrev M (α : Type) := Store → Res α
def M.bind {α β : Type} (m : M α) (f : α → M β) : M β := fun st => match m st with
  | .ok a st' => f a st'
  | .exn e st' => .exn e st'
  | .stuck => .stuck
/-- a pure step that may read and write the store -/
abbrev O (α : Type) := Store → Option (α × Store)
def M.of {α : Type} (o : O α) : M α := fun st => match o st with
  | some (a, st') => .ok a st'
  | none => .stuck
inductive RS where
  | stuck | nx (ev : Ev) (st : Store) | rt (v : Vl) (st : Store) | bk (ev : Ev) (st : Store) | ct (ev : Ev) (st : Store) | ex (e : Exn) (ev : Ev) (st : Store)
abbrev ME := Ev → M Vl
abbrev MT := Ev → M Bool
abbrev MA := Ev → M (List Vl)
abbrev MS := Ev → Store → RS

/-! ### the relation -/
/-- a tuple: tracked, or of the written part -/
def TupAt (K : PySem.W.Frag) (G : Hp) (a : Addr) (vs : List V) : Prop := G a = some (.tup vs) ∨
  ∃ (o : Obj) (its : Array Value) (n : Nat), K.lookup a = some o ∧ o.cls = .type "tuple" ∧ o.data = .seq its n ∧ its.size ≤ sizeLine ∧ Vals vs its.toList
theorem TupAt.sq {K : PySem.W.Frag} {G : Hp} {a : Addr} {vs : List V} (h : TupAt K G a vs) : SqT K G a vs := h.elim (fun h => SqT.of h) .inr
theorem TupAt.mono {K : PySem.W.Frag} {G G' : Hp} {a : Addr} {vs : List V} (e : Same G G') (h : TupAt K G a vs) : TupAt K G' a vs := h.elim (fun h => .inl (e _ _ h)) .inr
structure Cn where
  K : PySem.W.Frag
  mg : Str → Option Value
abbrev cn (X : Cx) : Cn := ⟨X.K, X.mg⟩
section
variable (C : Cn) (G : Hp)
mutual
inductive RelD : V → D → Prop
  | non : RelD .non .non
  | bl (b : Bool) : RelD (.bl b) (.bl b)
  | int (i : Int) : RelD (.int i) (.int i)
  | str (x : Str) : RelD (.str x) (.str x)
  | ty (n : String) : RelD (.ty n) (.ty n)
  | glob {x : Str} {a : Addr} : C.mg x = some (.ref a) → RelD (.ref a) (.glob x)
  | lst {a : Addr} {vs : List V} {ds : List D} : G a = some (.lst vs) → RelDs vs ds → RelD (.ref a) (.lst ds)
  | rl {a : Addr} {vs : List V} {ds : List D} : SqL C.K G a vs → RelDs vs ds → RelD (.ref a) (.rl ds)
  | tup {a : Addr} {vs : List V} {ds : List D} : TupAt C.K G a vs → RelDs vs ds → RelD (.ref a) (.tup ds)
  | ins {a A dx : Addr} {c : Str} {gs : List (Str × V)} {fs : List (Str × D)} : C.mg c = some (.ref A) → G a = some (.ins A dx gs) → RelFs gs fs → RelD (.ref a) (.ins c fs)
  | dic {a : Addr} {gs : List (Key × V)} {fs : List (Key × D)} : G a = some (.dK gs) → RelKs gs fs → RelD (.ref a) (.dic fs)
inductive RelDs : List V → List D → Prop
  | nil : RelDs [] []
  | cons {v : V} {d : D} {vs : List V} {ds : List D} : RelD v d → RelDs vs ds → RelDs (v :: vs) (d :: ds)
inductive RelFs : List (Str × V) → List (Str × D) → Prop
  | nil : RelFs [] []
  | cons {f : Str} {v : V} {d : D} {vs : List (Str × V)} {ds : List (Str × D)} : RelD v d → RelFs vs ds → RelFs ((f, v) :: vs) ((f, d) :: ds)
inductive RelKs : List (Key × V) → List (Key × D) → Prop
  | nil : RelKs [] []
  | cons {f : Key} {v : V} {d : D} {vs : List (Key × V)} {ds : List (Key × D)} : RelD v d → RelKs vs ds → RelKs ((f, v) :: vs) ((f, d) :: ds)
end
end
theorem Same.seqT {K : PySem.W.Frag} {H H' : Hp} {a : Addr} {xs : List V} (e : Same H H') (h : SqT K H a xs) : SqT K H' a xs := by
  rcases h with (h | ⟨o, h⟩) | h
  · exact .inl (.inl (e _ _ h))
  · exact .inl (.inr ⟨o, e _ _ h⟩)
  · exact .inr h
section
variable {C : Cn} {G G' : Hp}
mutual
theorem RelD.mono (e : Same G G') : ∀ {v : V} {d : D}, RelD C G v d → RelD C G' v d
  | _, _, .non => .non
  | _, _, .bl b => .bl b
  | _, _, .int i => .int i
  | _, _, .str x => .str x
  | _, _, .ty n => .ty n
  | _, _, .glob h => .glob h
  | _, _, .lst h r => .lst (e _ _ h) (RelDs.mono e r)
  | _, _, .rl h r => .rl (e.seq h) (RelDs.mono e r)
  | _, _, .tup h r => .tup (h.mono e) (RelDs.mono e r)
  | _, _, .ins h1 h2 r => .ins h1 (e _ _ h2) (RelFs.mono e r)
  | _, _, .dic h r => .dic (e _ _ h) (RelKs.mono e r)
theorem RelDs.mono (e : Same G G') : ∀ {v : List V} {d : List D}, RelDs C G v d → RelDs C G' v d
  | _, _, .nil => .nil
  | _, _, .cons h r => .cons (RelD.mono e h) (RelDs.mono e r)
theorem RelFs.mono (e : Same G G') : ∀ {v : List (Str × V)} {d : List (Str × D)}, RelFs C G v d → RelFs C G' v d
  | _, _, .nil => .nil
  | _, _, .cons h r => .cons (RelD.mono e h) (RelFs.mono e r)
theorem RelKs.mono (e : Same G G') : ∀ {v : List (Key × V)} {d : List (Key × D)}, RelKs C G v d → RelKs C G' v d
  | _, _, .nil => .nil
  | _, _, .cons h r => .cons (RelD.mono e h) (RelKs.mono e r)
end
theorem RelDs.length : ∀ {vs : List V} {ds : List D}, RelDs C G vs ds → vs.length = ds.length
  | _, _, .nil => rfl
  | _, _, .cons _ r => congrArg (· + 1) (RelDs.length r)
theorem RelDs.get : ∀ {vs : List V} {ds : List D} {i : Nat} {d : D}, RelDs C G vs ds → ds[i]? = some d → ∃ v, vs[i]? = some v ∧ RelD C G v d
  | _, _, _, _, .nil, e => by simp at e
  | _, _, 0, _, .cons h _, e => by simp at e; subst e; exact ⟨_, rfl, h⟩
  | _, _, i + 1, d, .cons _ r, e => by
    obtain ⟨v, h1, h2⟩ := RelDs.get (i := i) (d := d) r (by simpa using e)
    exact ⟨v, by simpa using h1, h2⟩
theorem RelDs.getV : ∀ {vs : List V} {ds : List D} {i : Nat} {v : V}, RelDs C G vs ds → vs[i]? = some v → ∃ d, ds[i]? = some d ∧ RelD C G v d
  | _, _, _, _, .nil, e => by simp at e
  | _, _, 0, _, .cons h _, e => by simp at e; subst e; exact ⟨_, rfl, h⟩
  | _, _, i + 1, d, .cons _ r, e => by
    obtain ⟨v, h1, h2⟩ := RelDs.getV (i := i) (v := d) r (by simpa using e)
    exact ⟨v, by simpa using h1, h2⟩
theorem RelDs.append : ∀ {vs ws : List V} {ds es : List D}, RelDs C G vs ds → RelDs C G ws es → RelDs C G (vs ++ ws) (ds ++ es)
  | _, _, _, _, .nil, s => s
  | _, _, _, _, .cons h r, s => .cons h (RelDs.append r s)
theorem RelDs.take : ∀ {vs : List V} {ds : List D} (n : Nat), RelDs C G vs ds → RelDs C G (vs.take n) (ds.take n)
  | _, _, 0, _ => .nil
  | _, _, _ + 1, .nil => .nil
  | _, _, n + 1, .cons h r => .cons h (RelDs.take n r)
theorem RelDs.drop : ∀ {vs : List V} {ds : List D} (n : Nat), RelDs C G vs ds → RelDs C G (vs.drop n) (ds.drop n)
  | _, _, 0, r => r
  | _, _, _ + 1, .nil => .nil
  | _, _, n + 1, .cons _ r => RelDs.drop n r
theorem RelDs.set {v : V} {d : D} (h : RelD C G v d) : ∀ {vs : List V} {ds : List D} (n : Nat), RelDs C G vs ds → RelDs C G (vs.set n v) (ds.set n d)
  | _, _, _, .nil => .nil
  | _, _, 0, .cons _ r => .cons h r
  | _, _, n + 1, .cons h' r => .cons h' (RelDs.set h n r)
theorem RelDs.reps : ∀ {vs : List V} {ds : List D} (n : Nat), RelDs C G vs ds → RelDs C G (List.replicate n vs).flatten (List.replicate n ds).flatten
  | _, _, 0, _ => .nil
  | vs, ds, n + 1, r => by
    rw [List.replicate_succ, List.replicate_succ, List.flatten_cons, List.flatten_cons]
    exact RelDs.append r (RelDs.reps n r)
theorem RelDs.bls : ∀ {vs : List V} {bs : List Bool}, RelDs C G vs (bs.map D.bl) → vs = bs.map V.bl
  | [], [], _ => rfl
  | [], _ :: _, h => by cases h
  | _ :: _, [], h => by cases h
  | _ :: vs, b :: bs, h => by
    cases h with
    | cons h r => cases h; rw [RelDs.bls r]; rfl
theorem RelDs.ints : ∀ {vs : List V} {bs : List Int}, RelDs C G vs (bs.map D.int) → vs = bs.map V.int
  | [], [], _ => rfl
  | [], _ :: _, h => by cases h
  | _ :: _, [], h => by cases h
  | _ :: vs, b :: bs, h => by
    cases h with
    | cons h r => cases h; rw [RelDs.ints r]; rfl
theorem RelDs.of_ints : ∀ (bs : List Int), RelDs C G (bs.map V.int) (bs.map D.int)
  | [] => .nil
  | b :: bs => .cons (.int b) (RelDs.of_ints bs)
end

/-! ### worlds -/
/-- G: what stays as it is; al: where the cells stand -/
structure Wd where
  G : Hp
  al : List Addr
structure Wd.le (W W' : Wd) : Prop where
  g : Same W.G W'.G
  a : ∃ t, W'.al = W.al ++ t
theorem Wd.le.refl (W : Wd) : W.le W := ⟨Same.refl _, [], by simp⟩
theorem Wd.le.trans {W W' W'' : Wd} (h : W.le W') (h' : W'.le W'') : W.le W'' := by
  obtain ⟨t, e⟩ := h.a
  obtain ⟨t', e'⟩ := h'.a
  exact ⟨h.g.trans h'.g, t ++ t', by rw [e', e, List.append_assoc]⟩
theorem Wd.le.at {W W' : Wd} (h : W.le W') {k : Nat} {a : Addr} (e : W.al[k]? = some a) : W'.al[k]? = some a := by
  obtain ⟨t, q⟩ := h.a
  rw [q, List.getElem?_append_left (List.getElem?_eq_some_iff.mp e).1]
  exact e
section
variable (C : Cn)
inductive RelV' (W : Wd) : V → Vl → Prop
  | p {v : V} {d : D} : RelD C W.G v d → RelV' W v (.p d)
  | c {a : Addr} {k : Nat} : W.al[k]? = some a → RelV' W (.ref a) (.c k)
inductive RelVs (W : Wd) : List V → List Vl → Prop
  | nil : RelVs W [] []
  | cons {v : V} {d : Vl} {vs : List V} {ds : List Vl} : RelV' C W v d → RelVs W vs ds → RelVs W (v :: vs) (d :: ds)
def CellOk (G H : Hp) (a : Addr) : Cell → Prop
  | .dead => ∃ o, G a = some o
  | .lst ds => G a = none ∧ ∃ vs, H a = some (.lst vs) ∧ RelDs C G vs ds
  | .ins c fs => G a = none ∧ ∃ A dx gs, C.mg c = some (.ref A) ∧ H a = some (.ins A dx gs) ∧ RelFs C G gs fs
  | .dic kvs => G a = none ∧ ∃ gs, H a = some (.dK gs) ∧ RelKs C G gs kvs
structure WOk (W : Wd) (H : Hp) (st : Store) : Prop where
  same : Same W.G H
  len : W.al.length = st.length
  nd : W.al.Nodup
  cel : ∀ (k : Nat) a c, W.al[k]? = some a → st[k]? = some c → CellOk C W.G H a c
def EvR (W : Wd) (σ : Sg) (ev : Ev) : Prop := σ.length = ev.length ∧ ∀ (i : Nat) v, ev[i]? = some (some v) → ∃ x, σ[i]? = some (some x) ∧ RelV' C W x v
def ExnR (W : Wd) (e : Exn) (cls : Value) (d : Option Addr) : Prop := ∃ A dd gs, cls = .ref A ∧ C.mg e.c = some (.ref A) ∧ d = some dd ∧ W.G dd = some (.xd gs) ∧ RelFs C W.G gs e.fs
end
section
variable {C : Cn} {W W' : Wd} {H H' : Hp} {st st' : Store} {σ : Sg} {ev : Ev}
theorem RelV'.mono {v : V} {d : Vl} (l : W.le W') (h : RelV' C W v d) : RelV' C W' v d := by
  cases h with
  | p h => exact .p (h.mono l.g)
  | c h => exact .c (l.at h)
theorem RelVs.mono (l : W.le W') : ∀ {vs : List V} {ds : List Vl}, RelVs C W vs ds → RelVs C W' vs ds
  | _, _, .nil => .nil
  | _, _, .cons h r => .cons (h.mono l) (RelVs.mono l r)
theorem RelVs.length : ∀ {vs : List V} {ds : List Vl}, RelVs C W vs ds → vs.length = ds.length
  | _, _, .nil => rfl
  | _, _, .cons _ r => congrArg (· + 1) (RelVs.length r)
theorem EvR.mono (l : W.le W') (h : EvR C W σ ev) : EvR C W' σ ev := ⟨h.1, fun i v e => let ⟨x, h1, h2⟩ := h.2 i v e; ⟨x, h1, h2.mono l⟩⟩
theorem EvR.set {i : Nat} {v : V} {d : Vl} (h : EvR C W σ ev) (r : RelV' C W v d) : EvR C W (σ.set i (some v)) (ev.set i (some d)) := by
  refine ⟨by simp [h.1], fun j u e => ?_⟩
  rw [List.getElem?_set] at e
  by_cases q : i = j
  · subst q
    rw [if_pos rfl] at e
    split at e
    · rename_i hl
      cases e
      exact ⟨v, by rw [List.getElem?_set_self (by rw [h.1]; exact hl)], r⟩
    · cases e
  · rw [if_neg q] at e
    obtain ⟨x, h1, h2⟩ := h.2 j u e
    exact ⟨x, by rw [List.getElem?_set_ne q]; exact h1, h2⟩
theorem ExnR.mono {e : Exn} {cls : Value} {d : Option Addr} (l : W.le W') (h : ExnR C W e cls d) : ExnR C W' e cls d := by
  obtain ⟨A, dd, gs, h1, h2, h3, h4, h5⟩ := h
  exact ⟨A, dd, gs, h1, h2, h3, l.g _ _ h4, h5.mono l.g⟩
/-- every cell's address is tracked -/
theorem WOk.there (o : WOk C W H st) {k : Nat} {a : Addr} (e : W.al[k]? = some a) : ∃ u, H a = some u := by
  have hk : k < st.length := by rw [← o.len]; exact (List.getElem?_eq_some_iff.mp e).1
  have q := o.cel k a st[k] e (List.getElem?_eq_getElem hk)
  cases hc : st[k] with
  | dead => rw [hc] at q; obtain ⟨u, q⟩ := q; exact ⟨u, o.same _ _ q⟩
  | lst ds => rw [hc] at q; obtain ⟨_, vs, q, _⟩ := q; exact ⟨_, q⟩
  | ins c fs => rw [hc] at q; obtain ⟨_, _, _, _, _, q, _⟩ := q; exact ⟨_, q⟩
  | dic kvs => rw [hc] at q; obtain ⟨_, _, q, _⟩ := q; exact ⟨_, q⟩
theorem CellOk.mono {G G' : Hp} {a : Addr} (e : Same G G') (k : ∀ o, H a = some o → H' a = some o) (hn : G a = none → G' a = none) : ∀ {c : Cell}, CellOk C G H a c → CellOk C G' H' a c
  | .dead, ⟨o, q⟩ => ⟨o, e _ _ q⟩
  | .lst _, ⟨n, vs, q, r⟩ => ⟨hn n, vs, k _ q, r.mono e⟩
  | .ins _ _, ⟨n, A, dx, gs, h1, q, r⟩ => ⟨hn n, A, dx, gs, h1, k _ q, r.mono e⟩
  | .dic _, ⟨n, gs, q, r⟩ => ⟨hn n, gs, k _ q, r.mono e⟩
/-- a new object that stays as it is -/
theorem WOk.grow (o : WOk C W H st) {p : Addr} {u : HO} (hp : H p = none) : W.le ⟨upd W.G p u, W.al⟩ ∧ WOk C ⟨upd W.G p u, W.al⟩ (upd H p u) st := by
  have gp : W.G p = none := o.same.free hp
  have s1 : Same W.G (upd W.G p u) := fun b v e => by rw [upd_ne (ne_of_none e gp)]; exact e
  refine ⟨⟨s1, [], by simp⟩, ⟨fun b v e => ?_, o.len, o.nd, fun k a c h1 h2 => ?_⟩⟩
  · by_cases hb : b = p
    · subst hb
      have e' : upd W.G b u b = some v := e
      rw [upd_same] at e'; rw [upd_same]; exact e'
    · have e' : upd W.G p u b = some v := e
      rw [upd_ne hb] at e'; rw [upd_ne hb]; exact o.same _ _ e'
  · have hne : a ≠ p := fun z => by obtain ⟨v, q⟩ := o.there h1; rw [z, hp] at q; cases q
    exact (o.cel k a c h1 h2).mono s1 (fun v q => by rw [upd_ne hne]; exact q) fun n => by show upd W.G p u a = none; rw [upd_ne hne]; exact n
/-- more objects that stay as they are (a helper's), the cells untouched -/
theorem WOk.newCell (o : WOk C W H st) {p : Addr} {u : HO} {c : Cell} (hp : H p = none) (hc : CellOk C W.G (upd H p u) p c) : W.le ⟨W.G, W.al ++ [p]⟩ ∧ WOk C ⟨W.G, W.al ++ [p]⟩ (upd H p u) (st ++ [c]) := by
  have gp : W.G p = none := o.same.free hp
  refine ⟨⟨Same.refl _, [p], rfl⟩, ⟨fun b v e => ?_, by simp [o.len], ?_, fun k a c' h1 h2 => ?_⟩⟩
  · rw [upd_ne (ne_of_none e gp)]; exact o.same _ _ e
  · refine List.nodup_append.mpr ⟨o.nd, by simp, fun a ha b hb => ?_⟩
    have hb' : b = p := by simpa using hb
    subst hb'
    rintro rfl
    obtain ⟨k, hk⟩ := List.getElem?_of_mem ha
    obtain ⟨v, q⟩ := o.there hk
    rw [hp] at q; cases q
  · have h1' : (W.al ++ [p])[k]? = some a := h1
    by_cases hk : k < W.al.length
    · rw [List.getElem?_append_left hk] at h1'
      rw [List.getElem?_append_left (by rw [← o.len]; exact hk)] at h2
      have hne : a ≠ p := fun z => by obtain ⟨v, q⟩ := o.there h1'; rw [z, hp] at q; cases q
      exact (o.cel k a c' h1' h2).mono (Same.refl _) (fun v q => by rw [upd_ne hne]; exact q) fun n => n
    · have hk2 : k = W.al.length := by
        have := (List.getElem?_eq_some_iff.mp h1').1
        simp at this; omega
      subst hk2
      rw [List.getElem?_append_right (Nat.le_refl _)] at h1'
      rw [o.len, List.getElem?_append_right (Nat.le_refl _)] at h2
      simp at h1' h2
      subst h1' h2
      exact hc
theorem CellOk.live {G : Hp} {a : Addr} : ∀ {c : Cell}, CellOk C G H a c → c ≠ .dead → G a = none
  | .dead, _, h => absurd rfl h
  | .lst _, h, _ => h.1
  | .ins _ _, h, _ => h.1
  | .dic _, h, _ => h.1
/-- a live cell is written -/
theorem WOk.write (o : WOk C W H st) {k : Nat} {a : Addr} {u : HO} {c : Cell} (ha : W.al[k]? = some a) (hg : W.G a = none) (hc : CellOk C W.G (upd H a u) a c) : WOk C W (upd H a u) (st.set k c) := by
  refine ⟨fun b v e => ?_, by simp [o.len], o.nd, fun j b c' h1 h2 => ?_⟩
  · rw [upd_ne (ne_of_none e hg)]; exact o.same _ _ e
  · rw [List.getElem?_set] at h2
    by_cases hj : k = j
    · subst hj
      rw [ha] at h1; cases h1
      rw [if_pos rfl] at h2
      split at h2
      · cases h2; exact hc
      · cases h2
    · rw [if_neg hj] at h2
      have hne : b ≠ a := fun z => by subst z; exact hj (nd_ix o.nd ha h1)
      exact (o.cel j b c' h1 h2).mono (Same.refl _) (fun v q => by rw [upd_ne hne]; exact q) fun n => n
/-- a live cell is frozen -/
theorem WOk.freeze (o : WOk C W H st) {k : Nat} {a : Addr} {u : HO} (ha : W.al[k]? = some a) (hg : W.G a = none) (hu : H a = some u) : W.le ⟨upd W.G a u, W.al⟩ ∧ WOk C ⟨upd W.G a u, W.al⟩ H (st.set k .dead) := by
  have s1 : Same W.G (upd W.G a u) := fun b v e => by rw [upd_ne (ne_of_none e hg)]; exact e
  refine ⟨⟨s1, [], by simp⟩, ⟨fun b v e => ?_, by simp [o.len], o.nd, fun j b c' h1 h2 => ?_⟩⟩
  · have e' : upd W.G a u b = some v := e
    by_cases hb : b = a
    · subst hb; rw [upd_same] at e'; cases e'; exact hu
    · rw [upd_ne hb] at e'; exact o.same _ _ e'
  · have h1' : W.al[j]? = some b := h1
    rw [List.getElem?_set] at h2
    by_cases hj : k = j
    · subst hj
      rw [ha] at h1'; cases h1'
      rw [if_pos rfl] at h2
      split at h2
      · cases h2; exact ⟨u, upd_same⟩
      · cases h2
    · rw [if_neg hj] at h2
      have hne : b ≠ a := fun z => by subst z; exact hj (nd_ix o.nd ha h1')
      exact (o.cel j b c' h1' h2).mono s1 (fun v q => q) fun n => by show upd W.G a u b = none; rw [upd_ne hne]; exact n
/-- the store cut back to its first n cells -/
theorem WOk.cut (o : WOk C W H st) (n : Nat) : WOk C ⟨W.G, W.al.take n⟩ H (st.take n) :=
  ⟨o.same, by simp [o.len], o.nd.sublist (List.take_sublist _ _), fun k a c h1 h2 => by
    have h1' : (W.al.take n)[k]? = some a := h1
    rw [List.getElem?_take] at h1' h2
    split at h1'
    · rename_i hk
      rw [if_pos hk] at h2
      exact o.cel k a c h1' h2
    · cases h1'⟩
end

/-! ### what a result promises -/
section
variable (C : Cn)
def Fin {α β : Type} (rel : Wd → β → α → Prop) (W : Wd) (σ : Sg) (Wx : WX) (Q : β → Hp → Prop) : Res α → Prop
  | .ok a st' => ∀ b H' W', W.le W' → WOk C W' H' st' → rel W' b a → Q b H'
  | .exn e st' => ∀ cls d H' W', W.le W' → WOk C W' H' st' → ExnR C W' e cls d → Wx cls d σ H'
  | .stuck => False
def FinS (W : Wd) (Wx : WX) (D : Ends) : RS → Prop
  | .nx ev st => ∀ σ H W', W.le W' → WOk C W' H st → EvR C W' σ ev → D.nx σ H
  | .rt v st => ∀ x H W', W.le W' → WOk C W' H st → RelV' C W' x v → D.rt x H
  | .bk ev st => ∀ σ H W', W.le W' → WOk C W' H st → EvR C W' σ ev → D.bk σ H
  | .ct ev st => ∀ σ H W', W.le W' → WOk C W' H st → EvR C W' σ ev → D.ct σ H
  | .ex e ev st => ∀ cls d σ H W', W.le W' → WOk C W' H st → EvR C W' σ ev → ExnR C W' e cls d → Wx cls d σ H
  | .stuck => False
def Lift {α β : Type} (rel : Wd → β → α → Prop) (Wx : WX) (m : Ev → M α)   : Sg → Hp → (β → Hp → Prop) → Prop := fun σ H Q =>
  ∃ W ev st, WOk C W H st ∧ EvR C W σ ev ∧ Fin C rel W σ Wx Q (m ev st)
abbrev relB : Wd → Bool → Bool → Prop := fun _ b a => b = a
abbrev LE (Wx : WX) (m : ME) : TE := Lift C (RelV' C) Wx m
abbrev LA (Wx : WX) (m : MA) : TA := Lift C (RelVs C) Wx m
abbrev LT (Wx : WX) (m : MT) : TT := Lift C relB Wx m
def LS (Wx : WX) (m : MS) : TS := fun D σ H => ∃ W ev st, WOk C W H st ∧ EvR C W σ ev ∧ FinS C W Wx D (m ev st)
end
section
variable {C : Cn} {α β γ δ : Type} {rel : Wd → β → α → Prop} {rel2 : Wd → δ → γ → Prop} {W W' : Wd} {σ : Sg} {Wx : WX} {H : Hp}
theorem Fin.mono {Q : β → Hp → Prop} {r : Res α} (l : W.le W') (h : Fin C rel W σ Wx Q r) : Fin C rel W' σ Wx Q r := by
  cases r with
  | stuck => exact h
  | ok a st => exact fun b H' W'' l' => h b H' W'' (l.trans l')
  | exn e st => exact fun cls d H' W'' l' => h cls d H' W'' (l.trans l')
theorem FinS.mono {D : Ends} {r : RS} (l : W.le W') (h : FinS C W Wx D r) : FinS C W' Wx D r := by
  cases r with
  | stuck => exact h
  | nx ev st => exact fun σ H W'' l' => h σ H W'' (l.trans l')
  | rt v st => exact fun x H W'' l' => h x H W'' (l.trans l')
  | bk ev st => exact fun σ H W'' l' => h σ H W'' (l.trans l')
  | ct ev st => exact fun σ H W'' l' => h σ H W'' (l.trans l')
  | ex e ev st => exact fun c d σ H W'' l' => h c d σ H W'' (l.trans l')
/-- THE BIND: the first step's own reading, its end the second step's -/
theorem lift_bind {ma : Ev → M α} {f : α → Ev → M γ} {Q : δ → Hp → Prop} (h : Lift C rel2 Wx (fun ev => (ma ev).bind fun a => f a ev) σ H Q) :
    Lift C rel Wx ma σ H fun b H1 => ∃ a W st ev, WOk C W H1 st ∧ EvR C W σ ev ∧ rel W b a ∧ Fin C rel2 W σ Wx Q (f a ev st) := by
  obtain ⟨W, ev, st, o, e, h⟩ := h
  refine ⟨W, ev, st, o, e, ?_⟩
  have h : Fin C rel2 W σ Wx Q (match ma ev st with
    | .ok a st' => f a ev st'
    | .exn e st' => .exn e st'
    | .stuck => .stuck) := h
  cases q : ma ev st with
  | stuck => rw [q] at h; exact h
  | ok a st' =>
    rw [q] at h
    exact fun b H' W' l o' r => ⟨a, W', st', ev, o', e.mono l, r, Fin.mono l h⟩
  | exn x st' => rw [q] at h; exact h
theorem lift_bindS {ma : Ev → M α} {f : α → MS} {D : Ends} (h : LS C Wx (fun ev st => match ma ev st with | .ok a st' => f a ev st' | .exn e st' => .ex e ev st' | .stuck => .stuck) D σ H) :
    Lift C rel Wx ma σ H fun b H1 => ∃ a W st ev, WOk C W H1 st ∧ EvR C W σ ev ∧ rel W b a ∧ FinS C W Wx D (f a ev st) := by
  obtain ⟨W, ev, st, o, e, h⟩ := h
  refine ⟨W, ev, st, o, e, ?_⟩
  have h : FinS C W Wx D (match ma ev st with | .ok a st' => f a ev st' | .exn e st' => .ex e ev st' | .stuck => .stuck) := h
  cases q : ma ev st with
  | stuck => rw [q] at h; exact h
  | ok a st' =>
    rw [q] at h
    exact fun b H' W' l o' r => ⟨a, W', st', ev, o', e.mono l, r, FinS.mono l h⟩
  | exn x st' => rw [q] at h; exact fun cls d H' W' l o' r => h cls d σ H' W' l o' (e.mono l) r
end
theorem PE.imp {X : Cx} {e : Expr} {t t' : TE} (h : PE X e t) (i : ∀ σ H Q, t' σ H Q → t σ H Q) : PE X e t' := ⟨fun pins s σ H Q I q => h.run pins s σ H Q I (i _ _ _ q)⟩
theorem PT.imp {X : Cx} {e : Expr} {t t' : TT} (h : PT X e t) (i : ∀ σ H Q, t' σ H Q → t σ H Q) : PT X e t' := ⟨fun pins s σ H Q I q => h.run pins s σ H Q I (i _ _ _ q)⟩
theorem PA.imp {X : Cx} {e : List Expr} {t t' : TA} (h : PA X e t) (i : ∀ σ H Q, t' σ H Q → t σ H Q) : PA X e t' := ⟨fun pos pins s σ H Q I q => h.run pos pins s σ H Q I (i _ _ _ q)⟩
theorem PS.imp {X : Cx} {e : Stmt} {t t' : TS} (h : PS X e t) (i : ∀ D σ H, t' D σ H → t D σ H) : PS X e t' := ⟨fun pins s σ H D I q => h.run pins s σ H D I (i _ _ _ q)⟩
theorem PSs.imp {X : Cx} {e : List Stmt} {t t' : TS} (h : PSs X e t) (i : ∀ D σ H, t' D σ H → t D σ H) : PSs X e t' := ⟨fun pins s σ H D I q => h.run pins s σ H D I (i _ _ _ q)⟩
end Sim
end

section
/-! Sim 2: expressions. -/
namespace Sim
open PySem PySem.Spec PyProof.Rows L2
section
variable {C : Cn} {α β γ δ : Type} {rel : Wd → β → α → Prop} {rel2 : Wd → δ → γ → Prop} {W W' : Wd} {σ : Sg} {Wx : WX} {H H' : Hp} {st : Store}
def FinO (C : Cn) (rel : Wd → β → α → Prop) (W : Wd) (Q : β → Hp → Prop) : Option (α × Store) → Prop
  | some (a, st') => ∀ b H' W', W.le W' → WOk C W' H' st' → rel W' b a → Q b H'
  | none => False
theorem fin_of {Q : β → Hp → Prop} {o : O α} (h : Fin C rel W σ Wx Q (M.of o st)) : FinO C rel W Q (o st) := by
  have h : Fin C rel W σ Wx Q (match o st with | some (a, st') => .ok a st' | none => .stuck) := h
  cases q : o st with
  | none => rw [q] at h; exact h
  | some x => obtain ⟨a, st'⟩ := x; rw [q] at h; exact h
theorem Fin.imp {Q Q' : β → Hp → Prop} {r : Res α} (h : Fin C rel W σ Wx Q r) (i : ∀ b H, Q b H → Q' b H) : Fin C rel W σ Wx Q' r := by
  cases r with
  | stuck => exact h
  | ok a st => exact fun b H' W'' l o r => i _ _ (h b H' W'' l o r)
  | exn e st => exact h
theorem fin_bind {m : M α} {f : α → M γ} {Q : δ → Hp → Prop} (h : Fin C rel2 W σ Wx Q (m.bind f st)) :
    Fin C rel W σ Wx (fun b H1 => ∃ a W' st', W.le W' ∧ WOk C W' H1 st' ∧ rel W' b a ∧ Fin C rel2 W' σ Wx Q (f a st')) (m st) := by
  have h : Fin C rel2 W σ Wx Q (match m st with
    | .ok a st' => f a st'
    | .exn e st' => .exn e st'
    | .stuck => .stuck) := h
  cases q : m st with
  | stuck => rw [q] at h; exact h
  | ok a st' =>
    rw [q] at h
    exact fun b H' W' l o' r => ⟨a, W', st', l, o', r, Fin.mono l h⟩
  | exn x st' => rw [q] at h; exact h
/-- first step of a reading -/
theorem lift1 {ma : Ev → M α} {f : α → Ev → M γ} {Q : δ → Hp → Prop} {R : β → Hp → Prop} (h : Lift C rel2 Wx (fun ev => (ma ev).bind fun a => f a ev) σ H Q)
    (k : ∀ b H1 a W st ev, WOk C W H1 st → EvR C W σ ev → rel W b a → Fin C rel2 W σ Wx Q (f a ev st) → R b H1) : Lift C rel Wx ma σ H R := by
  obtain ⟨W, ev, st, o, e, h⟩ := h
  exact ⟨W, ev, st, o, e, (fin_bind (rel := rel) h).imp fun b H1 ⟨a, W', st', l, o', r, q⟩ => k b H1 a W' st' ev o' (e.mono l) r q⟩
/-- further steps -/
theorem lift2 {ma : Ev → M α} {f : α → M γ} {Q : δ → Hp → Prop} {R : β → Hp → Prop} {ev : Ev} (o : WOk C W H st) (e : EvR C W σ ev) (h : Fin C rel2 W σ Wx Q ((ma ev).bind f st))
    (k : ∀ b H1 a W' st', W.le W' → WOk C W' H1 st' → rel W' b a → Fin C rel2 W' σ Wx Q (f a st') → R b H1) : Lift C rel Wx ma σ H R :=
  ⟨W, ev, st, o, e, (fin_bind (rel := rel) h).imp fun b H1 ⟨a, W', st', l, o', r, q⟩ => k b H1 a W' st' l o' r q⟩
end

/-! ### judgements -/
abbrev SE (X : Cx) (Wx : WX) (e : Expr) (m : ME) : Prop := PE X e (LE (cn X) Wx m)
abbrev SA (X : Cx) (Wx : WX) (e : List Expr) (m : MA) : Prop := PA X e (LA (cn X) Wx m)
abbrev STt (X : Cx) (Wx : WX) (e : Expr) (m : MT) : Prop := PT X e (LT (cn X) Wx m)
abbrev SW (X : Cx) (Wx : WX) (e : Expr) (m : MT) : Prop := PW X e (LT (cn X) Wx m)
abbrev SS (X : Cx) (Wx : WX) (e : Stmt) (m : MS) : Prop := PS X e (LS (cn X) Wx m)
abbrev SSs (X : Cx) (Wx : WX) (e : List Stmt) (m : MS) : Prop := PSs X e (LS (cn X) Wx m)
theorem PW.imp {X : Cx} {e : Expr} {t t' : TT} (h : PW X e t) (i : ∀ σ H Q, t' σ H Q → t σ H Q) : PW X e t' := ⟨fun w pins s σ H Q I q => h.run w pins s σ H Q I (i _ _ _ q)⟩

/-! ### leaves -/
def eVar (i : Nat) : ME := fun ev st => match ev[i]? with
  | some (some v) => .ok v st
  | _ => .stuck
def eC (d : D) : ME := fun _ st => .ok (.p d) st
section
variable {X : Cx} {Wx : WX} {e a b : Expr} {pos : Pos} {ma mb : ME}
theorem se_var (i : Nat) {x : Str} {pos : Pos} (hN : X.N[i]? = some x := by rfl) (hv : Vis X.env.scope x := by first | exact Or.inl rfl | exact Or.inr (Or.inl rfl) | exact Or.inr (Or.inr rfl)) (hd : (x == ("__debug__" : Str)) = false := by decide)
    (hcd : (x == ("__classdict__" : Str)) = false := by decide) : SE X Wx (.Name x pos) (eVar i) := by
  refine PE.imp (pe_var (i := i) hN hv hd hcd) fun σ H Q h => ?_
  obtain ⟨W, ev, st, o, r, h⟩ := h
  have h : Fin (cn X) (RelV' (cn X)) W σ Wx Q (match ev[i]? with | some (some v) => .ok v st | _ => .stuck) := h
  cases q : ev[i]? with
  | none => rw [q] at h; exact h.elim
  | some u =>
    cases u with
    | none => rw [q] at h; exact h.elim
    | some v =>
      rw [q] at h
      obtain ⟨x, h1, h2⟩ := r.2 i v q
      exact ⟨x, h1, h x H W (Wd.le.refl W) o h2⟩
theorem se_c {v : V} {d : D} (h : PE X e (tC v)) (r : ∀ G, RelD (cn X) G v d) : SE X Wx e (eC d) :=
  PE.imp h fun σ H Q ⟨W, ev, st, o, _, h⟩ => h v H W (Wd.le.refl W) o (.p (r W.G))
theorem se_int {i j pos} : SE X Wx (.Constant (.int i) j pos) (eC (.int i)) := se_c pe_int fun _ => .int i
theorem se_bl {b j pos} : SE X Wx (.Constant (.bool b) j pos) (eC (.bl b)) := se_c pe_bl fun _ => .bl b
theorem se_non {j pos} : SE X Wx (.Constant .none j pos) (eC .non) := se_c pe_non fun _ => .non
theorem se_str {x j pos} : SE X Wx (.Constant (.str x) j pos) (eC (.str x)) := se_c pe_str fun _ => .str x
/-- a def, a class of the text as a value -/
theorem se_glob {x : Str} {f : Addr} {pos : Pos} (hm : X.mg x = some (.ref f)) (hg : Gl X x := by rfl) (hd : (x == ("__debug__" : Str)) = false := by decide) : SE X Wx (.Name x pos) (eC (.glob x)) :=
  se_c (pe_glob hg hm (v := .ref f) rfl hd) fun _ => .glob hm
/-- a module's int -/
theorem se_gint {x : Str} {i : Int} {t : Tok} {pos : Pos} (hm : X.mg x = some (.int i t)) (hg : Gl X x := by rfl) (hd : (x == ("__debug__" : Str)) = false := by decide) : SE X Wx (.Name x pos) (eC (.int i)) :=
  se_c (pe_glob hg hm (v := .int i) ⟨t, rfl⟩ hd) fun _ => .int i
/-- a built-in type as a value -/
theorem se_ty {x : Str} {n : String} {pos : Pos} (hm : X.mg x = none) (hv : bootBuiltins x = some (.type n)) (hg : Gl X x := by rfl) (hn : x ≠ "__name__" := by decide) (hd : (x == ("__debug__" : Str)) = false := by decide) : SE X Wx (.Name x pos) (eC (.ty n)) :=
  se_c (pe_bltn hg hm hv (v := .ty n) rfl hn hd) fun _ => .ty n

/-! ### operators by values -/
def R2of (C : Cn) (g : Vl → Vl → O Vl) : R2 := fun x y H Q => ∃ W st a b, WOk C W H st ∧ RelV' C W x a ∧ RelV' C W y b ∧ FinO C (RelV' C) W Q (g a b st)
def R1of (C : Cn) (g : Vl → O Vl) : V → Hp → VK → Prop := fun x H Q => ∃ W st a, WOk C W H st ∧ RelV' C W x a ∧ FinO C (RelV' C) W Q (g a st)
def Rnof (C : Cn) (g : List Vl → O Vl) : List V → Hp → VK → Prop := fun xs H Q => ∃ W st as, WOk C W H st ∧ RelVs C W xs as ∧ FinO C (RelV' C) W Q (g as st)
def eOp (g : Vl → Vl → O Vl) (ma mb : ME) : ME := fun ev => (ma ev).bind fun x => (mb ev).bind fun y => M.of (g x y)
def eUn (g : Vl → O Vl) (ma : ME) : ME := fun ev => (ma ev).bind fun x => M.of (g x)
theorem le_op {g : Vl → Vl → O Vl} {C : Cn} {σ : Sg} {H : Hp} {Q : VK} (h : LE C Wx (eOp g ma mb) σ H Q) : tOp (R2of C g) (LE C Wx ma) (LE C Wx mb) σ H Q :=
  lift1 h fun x H1 a W st ev o e r h1 => lift2 (rel := RelV' C) o e h1 fun y H2 b W' st' l o' r' h2 => ⟨W', st', a, b, o', r.mono l, r', fin_of h2⟩
theorem le_un {g : Vl → O Vl} {C : Cn} {σ : Sg} {H : Hp} {Q : VK} (h : LE C Wx (eUn g ma) σ H Q) : tUn (R1of C g) (LE C Wx ma) σ H Q :=
  lift1 h fun x H1 a W st ev o e r h1 => ⟨W, st, a, o, r, fin_of h1⟩
theorem se_op {op : Operator} {g : Vl → Vl → O Vl} (ho : OpR X (binaryOp op) (R2of (cn X) g)) (ha : SE X Wx a ma) (hb : SE X Wx b mb) : SE X Wx (.BinOp a op b pos) (eOp g ma mb) :=
  PE.imp (pe_op ho ha hb) fun _ _ _ => le_op
theorem se_un {op : UnaryOp} {g : Vl → O Vl} (ho : UnR X (unaryOp op) (R1of (cn X) g)) (ha : SE X Wx a ma) : SE X Wx (.UnaryOp op a pos) (eUn g ma) :=
  PE.imp (pe_un ho ha) fun _ _ _ => le_un
theorem se_cmp {op : CmpOp} {g : Vl → Vl → O Vl} (ho : OpR X (compareOp op) (R2of (cn X) g)) (ha : SE X Wx a ma) (hb : SE X Wx b mb) (hm : behindInMarks op b = false := by first | exact nobehind _ (by decide) (by decide) | rfl) : SE X Wx (.Compare a [op] [b] pos) (eOp g ma mb) :=
  PE.imp (pe_cmpR ho ha hb hm) fun _ _ _ => le_op
theorem se_ix {g : Vl → Vl → O Vl} (ho : IxR X (R2of (cn X) g)) (ha : SE X Wx a ma) (hb : SE X Wx b mb) (hs : PlainIx b := by exact fun _ _ => rfl) : SE X Wx (.Subscript a b pos) (eOp g ma mb) :=
  PE.imp (pe_ix ho ha hb hs) fun _ _ _ => le_op
end

/-! ### tests -/
/-- a bool out of a value -/
def asB : Vl → M Bool
  | .p (.bl k) => fun st => .ok k st
  | _ => fun _ => .stuck
def tV (m : ME) : MT := fun ev => (m ev).bind asB
def tCmp (g : Vl → Vl → O Vl) (ma mb : ME) : MT := tV (eOp g ma mb)
theorem M.bind_assoc {α β γ : Type} (m : M α) (f : α → M β) (g : β → M γ) : (m.bind f).bind g = m.bind fun a => (f a).bind g := by
  funext st
  show (match (match m st with | .ok a st' => f a st' | .exn e st' => .exn e st' | .stuck => .stuck) with | .ok a st' => g a st' | .exn e st' => .exn e st' | .stuck => .stuck) = (match m st with | .ok a st' => (f a).bind g st' | .exn e st' => .exn e st' | .stuck => .stuck)
  cases m st <;> rfl
section
variable {X : Cx} {Wx : WX} {e a b : Expr} {pos : Pos} {ma mb : ME} {ta tb : MT}
theorem fin_asB {C : Cn} {W : Wd} {σ : Sg} {Q : Bool → Hp → Prop} {v : Vl} {st : Store} {x : V} {H : Hp} (o : WOk C W H st) (r : RelV' C W x v) (h : Fin C relB W σ Wx Q (asB v st)) : ∃ k, x = .bl k ∧ Q k H := by
  cases v with
  | c k => exact h.elim
  | p d =>
    cases d with
    | bl k => cases r with
      | p r => cases r; exact ⟨k, rfl, h k H W (Wd.le.refl W) o rfl⟩
    | _ => exact h.elim
theorem st_cmp {op : CmpOp} {g : Vl → Vl → O Vl} (ho : OpR X (compareOp op) (R2of (cn X) g)) (ha : SE X Wx a ma) (hb : SE X Wx b mb) (hm : behindInMarks op b = false := by first | exact nobehind _ (by decide) (by decide) | rfl) : STt X Wx (.Compare a [op] [b] pos) (tCmp g ma mb) := by
  refine PT.imp (pt_cmpR ho ha hb hm) fun σ H Q h => ?_
  have h : Lift (cn X) relB Wx (fun ev => (eOp g ma mb ev).bind asB) σ H Q := h
  have h2 : LE (cn X) Wx (eOp g ma mb) σ H (fun x H1 => ∃ k, x = .bl k ∧ Q k H1) := lift1 h fun x H1 v W st ev o e r q => fin_asB o r q
  exact le_op h2
theorem st_val (ha : SE X Wx a ma) (he : ∀ whole, isTrue a X.env whole = (do let v ← whole; standAt a.pos; holding [v] (truthy v)) := by intro _; rfl) : STt X Wx a (tV ma) :=
  PT.imp (pt_val ha he) fun σ H Q h => lift1 h fun x H1 v W st ev o e r q => fin_asB o r q
end
/-- a value's truth -/
def truth (v : Vl) : O Bool := fun st => match v with
  | .p .non => some (false, st)
  | .p (.bl b) => some (b, st)
  | .p (.int i) => some (i != 0, st)
  | .p (.str x) => if x.length ≤ 16777216 then some ((x.length : Int) != 0, st) else none
  | .p (.lst xs) => some (!xs.isEmpty, st)
  | .p (.rl xs) => some (!xs.isEmpty, st)
  | .p (.tup xs) => some (!xs.isEmpty, st)
  | .p (.dic xs) => some (!xs.isEmpty, st)
  | .c k => match st[k]? with
    | some (.lst xs) => some (!xs.isEmpty, st)
    | some (.dic xs) => some (!xs.isEmpty, st)
    | _ => none
  | _ => none
def tTru (m : ME) : MT := fun ev => (m ev).bind fun v => M.of (truth v)
section
variable {C : Cn} {W : Wd} {σ : Sg} {H : Hp} {st : Store}
theorem RelDs.isEmpty {vs : List V} {ds : List D} {G : Hp} (r : RelDs C G vs ds) : (!vs.isEmpty) = !ds.isEmpty := by cases r <;> rfl
theorem RelKs.isEmpty {vs : List (Key × V)} {ds : List (Key × D)} {G : Hp} (r : RelKs C G vs ds) : (!vs.isEmpty) = !ds.isEmpty := by cases r <;> rfl
/-- what a cell's value is -/
theorem cell_of (o : WOk C W H st) {k : Nat} {x : V} {c : Cell} (r : RelV' C W x (.c k)) (e : st[k]? = some c) : ∃ a, x = .ref a ∧ W.al[k]? = some a ∧ CellOk C W.G H a c := by
  cases r with
  | c ha => exact ⟨_, rfl, ha, o.cel _ _ _ ha e⟩
theorem fin_truth (o : WOk C W H st) {v : Vl} {x : V} (r : RelV' C W x v) {Q : Bool → Hp → Prop} (h : FinO C relB W Q (truth v st)) : ∃ k, TruV C.K x H k ∧ Q k H := by
  have sz : sizeLine = 16777216 := sizeLine_eq
  have go : ∀ k, truth v st = some (k, st) → Q k H := fun k e => by rw [e] at h; exact h k H W (Wd.le.refl W) o rfl
  cases v with
  | c k =>
    cases e : st[k]? with
    | none => simp only [truth, e] at h; exact h.elim
    | some c =>
      cases c with
      | dead => simp only [truth, e] at h; exact h.elim
      | ins _ _ => simp only [truth, e] at h; exact h.elim
      | lst xs =>
        obtain ⟨a, rfl, ha, _, vs, hv, rv⟩ := cell_of o r e
        exact ⟨!vs.isEmpty, .inl ⟨vs, SqL.of hv, rfl⟩, go _ (by simp only [truth, e, rv.isEmpty])⟩
      | dic xs =>
        obtain ⟨a, rfl, ha, _, vs, hv, rv⟩ := cell_of o r e
        exact ⟨!vs.isEmpty, .inr (.inr ⟨vs, hv, rfl⟩), go _ (by simp only [truth, e, rv.isEmpty])⟩
  | p d =>
    cases r with
    | p r =>
      cases r with
      | non => exact ⟨false, rfl, go _ rfl⟩
      | bl b => exact ⟨b, rfl, go _ rfl⟩
      | int i => exact ⟨i != 0, rfl, go _ rfl⟩
      | str y =>
        by_cases hy : y.length ≤ 16777216
        · exact ⟨(y.length : Int) != 0, ⟨by rw [sz]; exact hy, rfl⟩, go _ (by simp only [truth, if_pos hy])⟩
        · simp only [truth, if_neg hy] at h; exact h.elim
      | lst hv rv => exact ⟨_, .inl ⟨_, SqL.of (o.same _ _ hv), rfl⟩, go _ (by simp only [truth, rv.isEmpty])⟩
      | rl hv rv => exact ⟨_, .inl ⟨_, o.same.seq hv, rfl⟩, go _ (by simp only [truth, rv.isEmpty])⟩
      | tup hv rv => exact ⟨_, .inr (.inl ⟨_, (hv.mono o.same).sq, rfl⟩), go _ (by simp only [truth, rv.isEmpty])⟩
      | dic hv rv => exact ⟨_, .inr (.inr ⟨_, o.same _ _ hv, rfl⟩), go _ (by simp only [truth, rv.isEmpty])⟩
      | ty n => exact h.elim
      | glob _ => exact h.elim
      | ins _ _ _ => exact h.elim
end
section
variable {X : Cx} {Wx : WX} {e a b : Expr} {rest : List Expr} {pos : Pos} {ma mb : ME} {ta tb : MT}
theorem st_tru (ha : SE X Wx a ma) (he : ∀ whole, isTrue a X.env whole = (do let v ← whole; standAt a.pos; holding [v] (truthy v)) := by intro _; rfl) : STt X Wx a (tTru ma) :=
  PT.imp (pt_truth ha he) fun σ H Q h => lift1 h fun x H1 v W st ev o e r q => fin_truth o r (fin_of q)
def tNot (t : MT) : MT := fun ev => (t ev).bind fun k st => .ok (!k) st
theorem st_not (ha : STt X Wx a ta) : STt X Wx (.UnaryOp .Not a pos) (tNot ta) :=
  PT.imp (pt_not ha) fun σ H Q h => lift1 h fun x H1 v W st ev o e r q => by
    have r' : x = v := r
    subst r'
    exact q _ H1 W (Wd.le.refl W) o rfl
def tAnd (t u : MT) : MT := fun ev => (t ev).bind fun k => if k = true then u ev else fun st => .ok false st
def tOr (t u : MT) : MT := fun ev => (t ev).bind fun k => if k = true then (fun st => .ok true st) else u ev
theorem sw_and1 (ha : STt X Wx a ta) : SW X Wx (.BoolOp .And [a] pos) ta := pw_and1 ha
theorem sw_or1 (ha : STt X Wx a ta) : SW X Wx (.BoolOp .Or [a] pos) ta := pw_or1 ha
theorem lt_and {C : Cn} {σ : Sg} {H : Hp} {Q : Bool → Hp → Prop} (h : LT C Wx (tAnd ta tb) σ H Q) : L2.tAnd (LT C Wx ta) (LT C Wx tb) σ H Q :=
  lift1 h fun x H1 v W st ev o e r q => by
    have r' : x = v := r
    subst r'
    cases x with
    | true => exact iteT ⟨W, ev, st, o, e, q⟩
    | false => exact iteF (q false H1 W (Wd.le.refl W) o rfl)
theorem lt_or {C : Cn} {σ : Sg} {H : Hp} {Q : Bool → Hp → Prop} (h : LT C Wx (tOr ta tb) σ H Q) : L2.tOr (LT C Wx ta) (LT C Wx tb) σ H Q :=
  lift1 h fun x H1 v W st ev o e r q => by
    have r' : x = v := r
    subst r'
    cases x with
    | false => exact iteF ⟨W, ev, st, o, e, q⟩
    | true => exact iteT (q true H1 W (Wd.le.refl W) o rfl)
theorem sw_and (ha : STt X Wx a ta) (hb : SW X Wx (.BoolOp .And (b :: rest) pos) tb) : SW X Wx (.BoolOp .And (a :: b :: rest) pos) (tAnd ta tb) := PW.imp (pw_and ha hb) fun _ _ _ => lt_and
theorem sw_or (ha : STt X Wx a ta) (hb : SW X Wx (.BoolOp .Or (b :: rest) pos) tb) : SW X Wx (.BoolOp .Or (a :: b :: rest) pos) (tOr ta tb) := PW.imp (pw_or ha hb) fun _ _ _ => lt_or
theorem st_w (h : SW X Wx a ta) : STt X Wx a ta := PW.pt h
/-! and, or, not, if as values -/
def eAnd (m u : ME) : ME := fun ev => (m ev).bind fun x => (M.of (truth x)).bind fun k => if k = true then u ev else fun st => .ok x st
def eOr (m u : ME) : ME := fun ev => (m ev).bind fun x => (M.of (truth x)).bind fun k => if k = true then (fun st => .ok x st) else u ev
def eNot (m : ME) : ME := fun ev => (m ev).bind fun x => (M.of (truth x)).bind fun k st => .ok (.p (.bl (!k))) st
theorem fin_tru_bind {C : Cn} {W : Wd} {σ : Sg} {H : Hp} {st : Store} {δ γ : Type} {rel2 : Wd → δ → γ → Prop} {Q : δ → Hp → Prop} {v : Vl} {x : V} {f : Bool → M γ} (o : WOk C W H st) (r : RelV' C W x v) (h : Fin C rel2 W σ Wx Q ((M.of (truth v)).bind f st)) :
    ∃ k, TruV C.K x H k ∧ Fin C rel2 W σ Wx Q (f k st) := by
  have h1 := fin_bind (rel := relB) h
  have nw : ∀ k st', truth v st = some (k, st') → st' = st := fun k st' e => by
    cases v with
    | c j =>
      simp only [truth] at e
      split at e
      · cases e; rfl
      · cases e; rfl
      · cases e
    | p d =>
      cases d <;> simp only [truth] at e <;> first | (cases e; rfl) | cases e | (split at e <;> cases e; rfl)
  have h2 := fin_of h1
  cases q : truth v st with
  | none => rw [q] at h2; exact h2.elim
  | some p =>
    obtain ⟨k, st'⟩ := p
    have e := nw k st' q
    subst e
    have h3 : FinO C relB W (fun b H' => H' = H → b = k ∧ Fin C rel2 W σ Wx Q (f k st')) (truth v st') := by
      rw [q]
      rintro b H' W' l o' rfl
      intro _
      refine ⟨rfl, ?_⟩
      have hh : Fin C rel2 W σ Wx Q ((M.of (truth v)).bind f st') := h
      have e2 : (M.of (truth v)).bind f st' = f b st' := by
        simp only [M.bind, M.of, q]
      rw [e2] at hh
      exact hh
    obtain ⟨k', t, z⟩ := fin_truth o r h3
    obtain ⟨e1, z⟩ := z rfl
    subst e1
    exact ⟨k', t, z⟩
theorem se_and (ha : SE X Wx a ma) (hb : SE X Wx (.BoolOp .And (b :: rest) pos) mb) : SE X Wx (.BoolOp .And (a :: b :: rest) pos) (eAnd ma mb) :=
  PE.imp (pe_andT ha hb) fun σ H Q h => lift1 h fun x H1 v W st ev o e r q => by
    obtain ⟨k, t, q⟩ := fin_tru_bind o r q
    refine ⟨k, t, ?_⟩
    cases k with
    | true => exact iteT ⟨W, ev, st, o, e, q⟩
    | false => exact iteF (q x H1 W (Wd.le.refl W) o r)
theorem se_or (ha : SE X Wx a ma) (hb : SE X Wx (.BoolOp .Or (b :: rest) pos) mb) : SE X Wx (.BoolOp .Or (a :: b :: rest) pos) (eOr ma mb) :=
  PE.imp (pe_orT ha hb) fun σ H Q h => lift1 h fun x H1 v W st ev o e r q => by
    obtain ⟨k, t, q⟩ := fin_tru_bind o r q
    refine ⟨k, t, ?_⟩
    cases k with
    | false => exact iteF ⟨W, ev, st, o, e, q⟩
    | true => exact iteT (q x H1 W (Wd.le.refl W) o r)
theorem se_one {op} (h : SE X Wx a ma) : SE X Wx (.BoolOp op [a] pos) ma := pe_one h
theorem se_not (ha : SE X Wx a ma) : SE X Wx (.UnaryOp .Not a pos) (eNot ma) :=
  PE.imp (pe_notT ha) fun σ H Q h => lift1 h fun x H1 v W st ev o e r q => by
    obtain ⟨k, t, q⟩ := fin_tru_bind o r q
    exact ⟨k, t, q _ H1 W (Wd.le.refl W) o (.p (.bl _))⟩
def eIf (t : MT) (m u : ME) : ME := fun ev => (t ev).bind fun k => if k = true then m ev else u ev
theorem se_if {c : Expr} (hc : STt X Wx c ta) (ha : SE X Wx a ma) (hb : SE X Wx b mb) : SE X Wx (.IfExp c a b pos) (eIf ta ma mb) :=
  PE.imp (pe_ifExp hc ha hb) fun σ H Q h => lift1 h fun x H1 v W st ev o e r q => by
    have r' : x = v := r
    subst r'
    cases x with
    | true => exact iteT ⟨W, ev, st, o, e, q⟩
    | false => exact iteF ⟨W, ev, st, o, e, q⟩
end

/-! ### lists of arguments, displays -/
def aNil : MA := fun _ st => .ok [] st
def aCons (m : ME) (r : MA) : MA := fun ev => (m ev).bind fun x => (r ev).bind fun xs st => .ok (x :: xs) st
section
variable {X : Cx} {Wx : WX} {e : Expr} {es : List Expr} {pos : Pos} {m : ME} {r : MA}
theorem sa_nil : SA X Wx [] aNil := PA.imp pa_nil fun σ H Q ⟨W, ev, st, o, _, h⟩ => h [] H W (Wd.le.refl W) o .nil
theorem sa_cons (ha : SE X Wx e m) (hr : SA X Wx es r) (hs : starEach (e :: es) X.env = (false, eval e X.env) :: starEach es X.env := by rfl) : SA X Wx (e :: es) (aCons m r) :=
  PA.imp (pa_cons ha hr hs) fun σ H Q h => lift1 h fun x H1 a W st ev o e r h1 => lift2 (rel := RelVs (cn X)) o e h1 fun y H2 b W' st' l o' r' h2 => h2 _ H2 W' (Wd.le.refl W') o' (.cons (r.mono l) r')
end
/-- a value as data: a list or an instance that is held by a cell is frozen -/
def frz1 : Vl → O D
  | .p d => fun st => some (d, st)
  | .c k => fun st => match st[k]? with
    | some (.lst xs) => some (.lst xs, st.set k .dead)
    | some (.ins c fs) => some (.ins c fs, st.set k .dead)
    | some (.dic kvs) => some (.dic kvs, st.set k .dead)
    | _ => none
def frzs : List Vl → O (List D)
  | [] => fun st => some ([], st)
  | v :: r => fun st => match frz1 v st with
    | none => none
    | some (d, st1) => match frzs r st1 with
      | none => none
      | some (ds, st2) => some (d :: ds, st2)
section
variable {C : Cn} {W : Wd} {σ : Sg} {H : Hp} {st : Store}
theorem frz1_ok (o : WOk C W H st) {v : Vl} {x : V} {d : D} {st' : Store} (r : RelV' C W x v) (e : frz1 v st = some (d, st')) : ∃ W', W.le W' ∧ WOk C W' H st' ∧ RelD C W'.G x d := by
  cases v with
  | p d' =>
    cases e
    cases r with
    | p r => exact ⟨W, Wd.le.refl W, o, r⟩
  | c k =>
    simp only [frz1] at e
    split at e
    · rename_i xs h
      cases e
      obtain ⟨a, rfl, ha, hg, vs, hv, rv⟩ := cell_of o r h
      obtain ⟨l, o'⟩ := o.freeze ha hg hv
      exact ⟨_, l, o', .lst (by show upd W.G a _ a = _; exact upd_same) (rv.mono l.g)⟩
    · rename_i c fs h
      cases e
      obtain ⟨a, rfl, ha, hg, A, dx, gs, hm, hv, rv⟩ := cell_of o r h
      obtain ⟨l, o'⟩ := o.freeze ha hg hv
      exact ⟨_, l, o', .ins hm (by show upd W.G a _ a = _; exact upd_same) (rv.mono l.g)⟩
    · rename_i kvs h
      cases e
      obtain ⟨a, rfl, ha, hg, gs, hv, rv⟩ := cell_of o r h
      obtain ⟨l, o'⟩ := o.freeze ha hg hv
      exact ⟨_, l, o', .dic (by show upd W.G a _ a = _; exact upd_same) (rv.mono l.g)⟩
    · cases e
theorem frzs_ok : ∀ {vs : List Vl} {xs : List V} {W : Wd} {st : Store} {ds : List D} {st' : Store}, WOk C W H st → RelVs C W xs vs → frzs vs st = some (ds, st') → ∃ W', W.le W' ∧ WOk C W' H st' ∧ RelDs C W'.G xs ds
  | [], _, W, st, ds, st', o, r, e => by
    cases r
    cases e
    exact ⟨W, Wd.le.refl W, o, .nil⟩
  | v :: vs, _, W, st, ds, st', o, r, e => by
    cases r with
    | cons h r =>
      simp only [frzs] at e
      split at e
      · cases e
      · rename_i d st1 h1
        split at e
        · cases e
        · rename_i ds2 st2 h2
          cases e
          obtain ⟨W1, l1, o1, r1⟩ := frz1_ok o h h1
          obtain ⟨W2, l2, o2, r2⟩ := frzs_ok o1 (r.mono l1) h2
          exact ⟨W2, l1.trans l2, o2, .cons (r1.mono l2.g) r2⟩
end
def gLst (vs : List Vl) : O Vl := fun st => match frzs vs st with
  | some (ds, st') => if ds.length ≤ 16777216 then some (.p (.lst ds), st') else none
  | none => none
def gTup (vs : List Vl) : O Vl := fun st => match frzs vs st with
  | some (ds, st') => if ds.length ≤ 16777216 then some (.p (.tup ds), st') else none
  | none => none
/-- a display that is a cell -/
def gLstM (vs : List Vl) : O Vl := fun st => match frzs vs st with
  | some (ds, st') => if ds.length ≤ 16777216 then some (.c st'.length, st' ++ [.lst ds]) else none
  | none => none
def eA (g : List Vl → O Vl) (as : MA) : ME := fun ev => (as ev).bind fun vs => M.of (g vs)
section
variable {X : Cx} {Wx : WX} {es : List Expr} {pos : Pos} {m : MA}
theorem disp_core {C : Cn} {W : Wd} {H : Hp} {st : Store} {Q : VK} {vs : List Vl} {xs : List V} {g : List D → HO} {k : List D → D} (o : WOk C W H st) (r : RelVs C W xs vs) {mk : List V → HO}
    (hk : ∀ (G : Hp) p ds, G p = some (mk xs) → RelDs C G xs ds → RelD C G (.ref p) (k ds))
    (h : FinO C (RelV' C) W Q (match frzs vs st with | some (ds, st') => if ds.length ≤ 16777216 then some (.p (k ds), st') else none | none => none)) : xs.length ≤ sizeLine ∧ ∀ p, H p = none → Q (.ref p) (upd H p (mk xs)) := by
  have sz : sizeLine = 16777216 := sizeLine_eq
  cases q : frzs vs st with
  | none => rw [q] at h; exact h.elim
  | some u =>
    obtain ⟨ds, st'⟩ := u
    rw [q] at h
    obtain ⟨W1, l1, o1, r1⟩ := frzs_ok o r q
    have hl := r1.length
    by_cases hz : ds.length ≤ 16777216
    · have h : FinO C (RelV' C) W Q (if ds.length ≤ 16777216 then some (.p (k ds), st') else none) := h
      rw [if_pos hz] at h
      refine ⟨by omega, fun p hp => ?_⟩
      obtain ⟨l2, o2⟩ := o1.grow (u := mk xs) hp
      exact h _ _ _ (l1.trans l2) o2 (.p (hk _ _ _ upd_same (r1.mono l2.g)))
    · have h : FinO C (RelV' C) W Q (if ds.length ≤ 16777216 then some (.p (k ds), st') else none) := h
      rw [if_neg hz] at h; exact h.elim
theorem se_lst (h : SA X Wx es m) : SE X Wx (.List es pos) (eA gLst m) :=
  PE.imp (pe_lst h) fun σ H Q h => lift1 h fun xs H1 vs W st ev o e r q => disp_core (k := .lst) (mk := .lst) (g := fun _ => .lst []) o r (fun G p ds h r => .lst h r) (fin_of q)
theorem se_tup {n} (h : SA X Wx es m) : SE X Wx (.Tuple es n pos) (eA gTup m) :=
  PE.imp (pe_tup h) fun σ H Q h => lift1 h fun xs H1 vs W st ev o e r q => disp_core (k := .tup) (mk := .tup) (g := fun _ => .lst []) o r (fun G p ds h r => .tup (.inl h) r) (fin_of q)
theorem se_lstM (h : SA X Wx es m) : SE X Wx (.List es pos) (eA gLstM m) :=
  PE.imp (pe_lst h) fun σ H Q h => lift1 h fun xs H1 vs W st ev o e r q => by
    have sz : sizeLine = 16777216 := sizeLine_eq
    have q := fin_of q
    unfold gLstM at q
    cases z : frzs vs st with
    | none => rw [z] at q; exact q.elim
    | some u =>
      obtain ⟨ds, st'⟩ := u
      rw [z] at q
      obtain ⟨W1, l1, o1, r1⟩ := frzs_ok o r z
      have hl := r1.length
      have q : FinO (cn X) (RelV' (cn X)) W Q (if ds.length ≤ 16777216 then some (.c st'.length, st' ++ [.lst ds]) else none) := q
      by_cases hz : ds.length ≤ 16777216
      · rw [if_pos hz] at q
        refine ⟨by omega, fun p hp => ?_⟩
        obtain ⟨l2, o2⟩ := o1.newCell (u := .lst xs) (c := .lst ds) hp ⟨o1.same.free hp, xs, upd_same, r1⟩
        exact q _ _ _ (l1.trans l2) o2 (.c (by show (W1.al ++ [p])[st'.length]? = some p; rw [← o1.len, List.getElem?_append_right (Nat.le_refl _)]; simp))
      · rw [if_neg hz] at q; exact q.elim
end
end Sim
end

section
/-! Sim 3: what the operators and the built-ins do, by values. -/
namespace Sim
open PySem PySem.Spec PyProof.Rows L2
theorem szl : sizeLine = 16777216 := sizeLine_eq

/-! ### views -/
/-- a list that may be read -/
def listV (st : Store) : Vl → Option (List D)
  | .p (.lst xs) => some xs
  | .p (.rl xs) => some xs
  | .c k => match st[k]? with | some (.lst xs) => some xs | _ => none
  | _ => none
/-- a list of the program's own -/
def ownV (st : Store) : Vl → Option (List D)
  | .p (.lst xs) => some xs
  | .c k => match st[k]? with | some (.lst xs) => some xs | _ => none
  | _ => none
def tupV : Vl → Option (List D)
  | .p (.tup xs) => some xs
  | _ => none
def seqV (st : Store) (v : Vl) : Option (List D) := (listV st v).or (tupV v)
section
variable {C : Cn} {W : Wd} {H : Hp} {st : Store} {v : Vl} {x : V} {ds : List D}
theorem ownV_ok (o : WOk C W H st) (r : RelV' C W x v) (e : ownV st v = some ds) : ∃ a vs, x = .ref a ∧ H a = some (.lst vs) ∧ RelDs C W.G vs ds := by
  cases v with
  | c k =>
    simp only [ownV] at e
    split at e
    · rename_i xs h
      cases e
      obtain ⟨a, rfl, ha, hg, vs, hv, rv⟩ := cell_of o r h
      exact ⟨a, vs, rfl, hv, rv⟩
    · cases e
  | p d =>
    cases d <;> simp only [ownV] at e <;> cases e
    cases r with
    | p r => cases r with
      | lst h rv => exact ⟨_, _, rfl, o.same _ _ h, rv⟩
theorem listV_ok (o : WOk C W H st) (r : RelV' C W x v) (e : listV st v = some ds) : ∃ a vs, x = .ref a ∧ SqL C.K H a vs ∧ RelDs C W.G vs ds := by
  cases v with
  | c k =>
    simp only [listV] at e
    split at e
    · rename_i xs h
      cases e
      obtain ⟨a, rfl, ha, hg, vs, hv, rv⟩ := cell_of o r h
      exact ⟨a, vs, rfl, SqL.of hv, rv⟩
    · cases e
  | p d =>
    cases d <;> simp only [listV] at e <;> cases e
    · cases r with
      | p r => cases r with
        | lst h rv => exact ⟨_, _, rfl, SqL.of (o.same _ _ h), rv⟩
    · cases r with
      | p r => cases r with
        | rl h rv => exact ⟨_, _, rfl, o.same.seq h, rv⟩
theorem tupV_ok (o : WOk C W H st) (r : RelV' C W x v) (e : tupV v = some ds) : ∃ a vs, x = .ref a ∧ SqT C.K H a vs ∧ RelDs C W.G vs ds := by
  cases v with
  | c k => cases e
  | p d =>
    cases d <;> simp only [tupV] at e <;> cases e
    cases r with
    | p r => cases r with
      | tup h rv => exact ⟨_, _, rfl, (h.mono o.same).sq, rv⟩
theorem seqV_ok (o : WOk C W H st) (r : RelV' C W x v) (e : seqV st v = some ds) : ∃ a vs, x = .ref a ∧ (SqL C.K H a vs ∨ SqT C.K H a vs) ∧ RelDs C W.G vs ds := by
  unfold seqV at e
  cases q : listV st v with
  | some xs =>
    rw [q] at e
    cases e
    obtain ⟨a, vs, h1, h2, h3⟩ := listV_ok o r q
    exact ⟨a, vs, h1, .inl h2, h3⟩
  | none =>
    rw [q] at e
    obtain ⟨a, vs, h1, h2, h3⟩ := tupV_ok (ds := ds) o r (by simpa using e)
    exact ⟨a, vs, h1, .inr h2, h3⟩
variable {Q : VK} {d : D} {st' : Store}
theorem fin_val (o : WOk C W H st) (h : FinO C (RelV' C) W Q (some (.p d, st))) (r : RelD C W.G x d) : Q x H := h x H W (Wd.le.refl W) o (.p r)
theorem fin_vl (o : WOk C W H st) (h : FinO C (RelV' C) W Q (some (v, st))) (r : RelV' C W x v) : Q x H := h x H W (Wd.le.refl W) o r
theorem fin_new (o : WOk C W H st) (h : FinO C (RelV' C) W Q (some (.p d, st))) {p : Addr} {u : HO} (hp : H p = none) (r : ∀ G, G p = some u → Same W.G G → RelD C G (.ref p) d) : Q (.ref p) (upd H p u) := by
  obtain ⟨l, o'⟩ := o.grow (u := u) hp
  exact h _ _ _ l o' (.p (r _ upd_same l.g))
end
def gI (f : Int → Int → Option D) (a b : Vl) : O Vl := fun st => match a, b with
  | .p (.int i), .p (.int j) => (f i j).map fun d => (.p d, st)
  | _, _ => none
theorem rel_int {C : Cn} {W : Wd} {x : V} {i : Int} (r : RelV' C W x (.p (.int i))) : x = .int i := by
  cases r with
  | p r => cases r; rfl
theorem rel_bl {C : Cn} {W : Wd} {x : V} {i : Bool} (r : RelV' C W x (.p (.bl i))) : x = .bl i := by
  cases r with
  | p r => cases r; rfl
theorem rel_str {C : Cn} {W : Wd} {x : V} {i : Str} (r : RelV' C W x (.p (.str i))) : x = .str i := by
  cases r with
  | p r => cases r; rfl
theorem opI_of {X : Cx} {g : Value → Value → Sem Value} {f : Int → Int → Option D} {Co : Int → Int → Prop} {k : Int → Int → V} (ho : OpR X g (rI Co k)) (hf : ∀ i j d, f i j = some d → Co i j ∧ ∀ G, RelD (cn X) G (k i j) d) : OpR X g (R2of (cn X) (gI f)) := by
  intro pins s σ H x y v u Q I rx ry h
  obtain ⟨W, st, a, b, o, ra, rb, h⟩ := h
  unfold gI at h
  split at h
  · rename_i i j
    cases rel_int ra
    cases rel_int rb
    cases e : f i j with
    | none => rw [e] at h; exact h.elim
    | some d =>
      rw [e] at h
      exact ho pins s σ H _ _ v u Q I rx ry ⟨i, j, rfl, rfl, (hf i j d e).1, fin_val o h ((hf i j d e).2 _)⟩
  · exact h.elim
def eitherG (g g' : Vl → Vl → O Vl) : Vl → Vl → O Vl := fun a b st => (g a b st).or (g' a b st)
theorem OpR.either {X : Cx} {f : Value → Value → Sem Value} {g g' : Vl → Vl → O Vl} (h : OpR X f (R2of (cn X) g)) (h' : OpR X f (R2of (cn X) g')) : OpR X f (R2of (cn X) (eitherG g g')) := by
  intro pins s σ H x y v u Q I rx ry hh
  obtain ⟨W, st, a, b, o, ra, rb, q⟩ := hh
  unfold eitherG at q
  cases e : g a b st with
  | some z => rw [e] at q; exact h pins s σ H x y v u Q I rx ry ⟨W, st, a, b, o, ra, rb, by rw [e]; exact q⟩
  | none => rw [e] at q; exact h' pins s σ H x y v u Q I rx ry ⟨W, st, a, b, o, ra, rb, q⟩

/-! ### + - * // % ** -/
def gAdd (a b : Vl) : O Vl := fun st => match a, b with
  | .p (.int i), .p (.int j) => some (.p (.int (i + j)), st)
  | .p (.str x), .p (.str y) => if x.length + y.length ≤ 16777216 then some (.p (.str (x ++ y)), st) else none
  | .p (.tup xs), .p (.tup ys) => if xs.length + ys.length ≤ 16777216 then some (.p (.tup (xs ++ ys)), st) else none
  | a, b => match ownV st a, ownV st b with
    | some xs, some ys => if xs.length + ys.length ≤ 16777216 then some (.p (.lst (xs ++ ys)), st) else none
    | _, _ => none
theorem og_add {X : Cx} : OpR X (binaryOp .Add) (R2of (cn X) gAdd) := by
  intro pins s σ H x y v u Q I rx ry h
  obtain ⟨W, st, a, b, o, ra, rb, h⟩ := h
  have sz := szl
  unfold gAdd at h
  split at h
  · cases rel_int ra
    cases rel_int rb
    exact op_add pins s σ H _ _ v u Q I rx ry ⟨_, _, rfl, rfl, fin_val o h (.int _)⟩
  · cases rel_str ra
    cases rel_str rb
    split at h
    · exact op_add_str pins s σ H _ _ v u Q I rx ry ⟨_, _, rfl, rfl, by omega, fin_val o h (.str _)⟩
    · exact h.elim
  · split at h
    · rename_i xs ys hz
      obtain ⟨p, vs, rfl, hv, rv⟩ := tupV_ok (ds := xs) o ra rfl
      obtain ⟨q, ws, rfl, hw, rw'⟩ := tupV_ok (ds := ys) o rb rfl
      have l1 := rv.length
      have l2 := rw'.length
      refine op_catA pins s σ H _ _ v u Q I rx ry ⟨p, q, vs, ws, rfl, rfl, hv, hw, by omega, fun e => ?_, fun _ e => ?_, fun _ _ p' hp => ?_⟩
      · subst e
        have e2 : xs = [] := List.length_eq_zero_iff.mp (by simpa using l1.symm)
        subst e2
        exact fin_vl o (by simpa using h) rb
      · subst e
        have e2 : ys = [] := List.length_eq_zero_iff.mp (by simpa using l2.symm)
        subst e2
        exact fin_vl o (by simpa using h) ra
      · exact fin_new o h hp fun G hG sm => .tup (.inl hG) ((rv.append rw').mono sm)
    · exact h.elim
  · split at h
    · rename_i xs ys e1 e2
      obtain ⟨p, vs, rfl, hv, rv⟩ := ownV_ok o ra e1
      obtain ⟨q, ws, rfl, hw, rw'⟩ := ownV_ok o rb e2
      have l1 := rv.length
      have l2 := rw'.length
      split at h
      · exact op_cat pins s σ H _ _ v u Q I rx ry ⟨p, q, vs, ws, rfl, rfl, hv, hw, by omega, fun p' hp => fin_new o h hp fun G hG sm => .lst hG ((rv.append rw').mono sm)⟩
      · exact h.elim
    · exact h.elim
def gSub : Vl → Vl → O Vl := gI fun i j => some (.int (i - j))
theorem og_sub {X : Cx} : OpR X (binaryOp .Sub) (R2of (cn X) gSub) := opI_of (Co := fun _ _ => True) (k := fun i j => .int (i - j)) (by
  intro pins s σ H x y v u Q I rx ry ⟨i, j, e1, e2, _, q⟩
  exact op_sub pins s σ H x y v u Q I rx ry ⟨i, j, e1, e2, q⟩) fun i j d e => by cases e; exact ⟨trivial, fun _ => .int _⟩
/-- a product: one factor below 2^64, or both together below a million bits -/
def mulOk (i j : Int) : Bool := decide (-(2 ^ 64) < i ∧ i < 2 ^ 64) || decide (-(2 ^ 64) < j ∧ j < 2 ^ 64) || decide (i.natAbs.log2 + j.natAbs.log2 < 1000000)
def gMulI : Vl → Vl → O Vl := gI fun i j => if mulOk i j = true then some (.int (i * j)) else none
theorem og_mulI {X : Cx} : OpR X (binaryOp .Mult) (R2of (cn X) gMulI) := by
  refine opI_of (Co := fun i j => mulOk i j = true) (k := fun i j => .int (i * j)) ?_ fun i j d e => ?_
  · intro pins s σ H x y v u Q I rx ry ⟨i, j, e1, e2, c, q⟩
    have c : mulOk i j = true := c
    unfold mulOk at c
    rw [Bool.or_eq_true, Bool.or_eq_true, decide_eq_true_eq, decide_eq_true_eq, decide_eq_true_eq] at c
    rcases c with (c | c) | c
    · exact op_mul pins s σ H x y v u Q I rx ry ⟨i, j, e1, e2, .inl c, q⟩
    · exact op_mul pins s σ H x y v u Q I rx ry ⟨i, j, e1, e2, .inr c, q⟩
    · exact op_mulW pins s σ H x y v u Q I rx ry ⟨i, j, e1, e2, c, q⟩
  · split at e
    · cases e; exact ⟨by assumption, fun _ => .int _⟩
    · cases e
/-- a list, a tuple so many times -/
def gRep (a b : Vl) : O Vl := fun st => match b with
  | .p (.int k) => match ownV st a with
    | some xs => if 0 ≤ k ∧ k ≤ 16777216 ∧ xs.length * k.toNat ≤ 16777216 then some (.p (.lst (List.replicate k.toNat xs).flatten), st) else none
    | none => match a with
      | .p (.tup xs) => if xs ≠ [] ∧ 2 ≤ k ∧ k ≤ 1000 ∧ xs.length ≤ 1000 then some (.p (.tup (List.replicate k.toNat xs).flatten), st) else none
      | _ => none
  | _ => none
theorem og_rep {X : Cx} : OpR X (binaryOp .Mult) (R2of (cn X) gRep) := by
  intro pins s σ H x y v u Q I rx ry h
  obtain ⟨W, st, a, b, o, ra, rb, h⟩ := h
  have sz := szl
  unfold gRep at h
  split at h
  · rename_i k
    cases rel_int rb
    split at h
    · rename_i xs e1
      obtain ⟨p, vs, rfl, hv, rv⟩ := ownV_ok o ra e1
      have l1 := rv.length
      split at h
      · rename_i hk
        exact op_rep pins s σ H _ _ v u Q I rx ry ⟨p, k, vs, rfl, rfl, hv, by omega, by omega, by rw [l1, sz]; exact hk.2.2, fun p' hp => fin_new o h hp fun G hG sm => .lst hG ((rv.reps _).mono sm)⟩
      · exact h.elim
    · split at h
      · rename_i xs _
        obtain ⟨p, vs, rfl, hv, rv⟩ := tupV_ok (ds := xs) o ra rfl
        have l1 := rv.length
        split at h
        · rename_i hk
          refine op_repT pins s σ H _ _ v u Q I rx ry ⟨p, k, vs, rfl, rfl, hv, fun e => ?_, by omega, by omega, by omega, fun p' hp => fin_new o h hp fun G hG sm => .tup (.inl hG) ((rv.reps _).mono sm)⟩
          subst e
          exact hk.1 (List.length_eq_zero_iff.mp (by simpa using l1.symm))
        · exact h.elim
      · exact h.elim
  · exact h.elim
def gMul : Vl → Vl → O Vl := eitherG gMulI gRep
theorem og_mul {X : Cx} : OpR X (binaryOp .Mult) (R2of (cn X) gMul) := OpR.either og_mulI og_rep
def divOk (j : Int) : Bool := decide (0 < j ∧ j.natAbs.log2 < 9000) || decide (j ≠ 0 ∧ j.natAbs < 1073741824)
def gFdiv : Vl → Vl → O Vl := gI fun i j => if divOk j = true then some (.int (i.fdiv j)) else none
theorem og_fdiv {X : Cx} : OpR X (binaryOp .FloorDiv) (R2of (cn X) gFdiv) := by
  refine opI_of (Co := fun _ j => divOk j = true) (k := fun i j => .int (i.fdiv j)) ?_ fun i j d e => ?_
  · intro pins s σ H x y v u Q I rx ry ⟨i, j, e1, e2, c, q⟩
    have c : divOk j = true := c
    unfold divOk at c
    rw [Bool.or_eq_true, decide_eq_true_eq, decide_eq_true_eq] at c
    rcases c with c | c
    · exact op_fdivW pins s σ H x y v u Q I rx ry ⟨i, j, e1, e2, c, by show Q (V.int (i / j)) H; rw [← Int.fdiv_eq_ediv_of_nonneg _ (Int.le_of_lt c.1)]; exact q⟩
    · exact op_fdivN pins s σ H x y v u Q I rx ry ⟨i, j, e1, e2, c, q⟩
  · split at e
    · cases e; exact ⟨by assumption, fun _ => .int _⟩
    · cases e
def gMod : Vl → Vl → O Vl := gI fun i j => if j ≠ 0 then some (.int (i.fmod j)) else none
theorem og_mod {X : Cx} : OpR X (binaryOp .Mod) (R2of (cn X) gMod) := by
  refine opI_of (Co := fun _ j => j ≠ 0) (k := fun i j => .int (i.fmod j)) op_modN fun i j d e => ?_
  split at e
  · cases e; exact ⟨by assumption, fun _ => .int _⟩
  · cases e
def gPow : Vl → Vl → O Vl := gI fun i j => if 0 ≤ j ∧ j ≤ 1000000 ∧ i.natAbs < 2 ^ 64 then some (.int (i ^ j.toNat)) else none
theorem og_pow {X : Cx} : OpR X (binaryOp .Pow) (R2of (cn X) gPow) := by
  refine opI_of (Co := CPow) (k := fun i j => .int (i ^ j.toNat)) op_pow fun i j d e => ?_
  split at e
  · cases e; exact ⟨by assumption, fun _ => .int _⟩
  · cases e
def gNeg (a : Vl) : O Vl := fun st => match a with
  | .p (.int i) => some (.p (.int (-i)), st)
  | _ => none
theorem og_neg {X : Cx} : UnR X (unaryOp .USub) (R1of (cn X) gNeg) := by
  intro pins s σ H x v Q I rx h
  obtain ⟨W, st, a, o, ra, h⟩ := h
  unfold gNeg at h
  split at h
  · cases rel_int ra
    exact un_neg pins s σ H _ v Q I rx ⟨_, rfl, fin_val o h (.int _)⟩
  · exact h.elim

/-! ### order -/
def gLt : Vl → Vl → O Vl := gI fun i j => some (.bl (decide (i < j)))
def gLe : Vl → Vl → O Vl := gI fun i j => some (.bl (decide (i ≤ j)))
def gGt : Vl → Vl → O Vl := gI fun i j => some (.bl (decide (j < i)))
def gGe : Vl → Vl → O Vl := gI fun i j => some (.bl (decide (j ≤ i)))
theorem og_cmpI {X : Cx} {op : CmpOp} {p : Int → Int → Bool} (ho : OpR X (compareOp op) (rI0 fun i j => .bl (p i j))) : OpR X (compareOp op) (R2of (cn X) (gI fun i j => some (.bl (p i j)))) :=
  opI_of (Co := fun _ _ => True) (k := fun i j => .bl (p i j)) (by
    intro pins s σ H x y v u Q I rx ry ⟨i, j, e1, e2, _, q⟩
    exact ho pins s σ H x y v u Q I rx ry ⟨i, j, e1, e2, q⟩) fun i j d e => by cases e; exact ⟨trivial, fun _ => .bl _⟩
theorem og_lt {X : Cx} : OpR X (compareOp .Lt) (R2of (cn X) gLt) := og_cmpI op_lt
theorem og_le {X : Cx} : OpR X (compareOp .LtE) (R2of (cn X) gLe) := og_cmpI op_le
theorem og_gt {X : Cx} : OpR X (compareOp .Gt) (R2of (cn X) gGt) := og_cmpI op_gt
theorem og_ge {X : Cx} : OpR X (compareOp .GtE) (R2of (cn X) gGe) := og_cmpI op_ge

/-! ### data as the library has it; == -/
mutual
def D.py : D → Option PyData
  | .non => some .none
  | .bl b => some (.bool b)
  | .int i => some (.int i)
  | .str x => some (.str x)
  | .lst xs => (D.pys xs).map .list
  | .rl xs => (D.pys xs).map .list
  | .tup xs => (D.pys xs).map .tuple
  | _ => none
def D.pys : List D → Option (List PyData)
  | [] => some []
  | x :: r => match D.py x, D.pys r with
    | some a, some b => some (a :: b)
    | _, _ => none
end
section
variable {C : Cn} {G H : Hp}
mutual
theorem py_dp (sm : Same G H) : ∀ {d : D} {v : V} {e : PyData}, RelD C G v d → D.py d = some e → Dp C.K H v e
  | .non, _, _, r, h => by cases r; cases h; exact .non
  | .bl b, _, _, r, h => by cases r; cases h; exact .bl b
  | .int i, _, _, r, h => by cases r; cases h; exact .int i
  | .str x, _, _, r, h => by cases r; cases h; exact .str x
  | .lst xs, _, _, r, h => by
    cases r with
    | lst h1 r1 =>
      simp only [D.py] at h
      cases q : D.pys xs with
      | none => rw [q] at h; cases h
      | some es => rw [q] at h; cases h; exact .lst (SqL.of (sm _ _ h1)) (pys_dp sm r1 q)
  | .rl xs, _, _, r, h => by
    cases r with
    | rl h1 r1 =>
      simp only [D.py] at h
      cases q : D.pys xs with
      | none => rw [q] at h; cases h
      | some es => rw [q] at h; cases h; exact .lst (sm.seq h1) (pys_dp sm r1 q)
  | .tup xs, _, _, r, h => by
    cases r with
    | tup h1 r1 =>
      simp only [D.py] at h
      cases q : D.pys xs with
      | none => rw [q] at h; cases h
      | some es => rw [q] at h; cases h; exact .tup (h1.mono sm).sq (pys_dp sm r1 q)
  | .ty _, _, _, _, h => by cases h
  | .glob _, _, _, _, h => by cases h
  | .ins _ _, _, _, _, h => by cases h
  | .dic _, _, _, _, h => by cases h
theorem pys_dp (sm : Same G H) : ∀ {ds : List D} {vs : List V} {es : List PyData}, RelDs C G vs ds → D.pys ds = some es → DpAll C.K H vs es
  | [], _, _, r, h => by cases r; cases h; exact .nil
  | d :: ds, _, _, r, h => by
    cases r with
    | cons r1 r2 =>
      simp only [D.pys] at h
      cases q1 : D.py d with
      | none => rw [q1] at h; cases h
      | some e =>
        cases q2 : D.pys ds with
        | none => rw [q1, q2] at h; cases h
        | some es => rw [q1, q2] at h; cases h; exact .cons (py_dp sm r1 q1) (pys_dp sm r2 q2)
end
end
def Vl.py (st : Store) : Vl → Option PyData
  | .p d => d.py
  | .c k => match st[k]? with | some (.lst xs) => (D.pys xs).map .list | _ => none
theorem vl_dp {C : Cn} {W : Wd} {H : Hp} {st : Store} {v : Vl} {x : V} {e : PyData} (o : WOk C W H st) (r : RelV' C W x v) (h : v.py st = some e) : Dp C.K H x e := by
  cases v with
  | p d => cases r with
    | p r => exact py_dp o.same r h
  | c k =>
    simp only [Vl.py] at h
    split at h
    · rename_i xs hc
      obtain ⟨a, rfl, ha, hg, vs, hv, rv⟩ := cell_of o r hc
      cases q : D.pys xs with
      | none => rw [q] at h; cases h
      | some es => rw [q] at h; cases h; exact .lst (SqL.of hv) (pys_dp o.same rv q)
    · cases h
/-- two texts -/
def gStr2 (f : Bool → Bool) (a b : Vl) : O Vl := fun st => match a, b with
  | .p (.str x), .p (.str y) => some (.p (.bl (f (decide (x = y)))), st)
  | _, _ => none
def gPy2 (f : Bool → Bool) (a b : Vl) : O Vl := fun st => match a.py st, b.py st with
  | some d, some e => if SeqAt.shaped d = true ∧ SeqAt.shaped e = true then some (.p (.bl (f (PyData.eqv d e))), st) else none
  | _, _ => none
def gEq : Vl → Vl → O Vl := eitherG (gStr2 id) (gPy2 id)
def gNe : Vl → Vl → O Vl := eitherG (gStr2 not) (gPy2 not)
theorem dec_vstr {x y : Str} : decide (V.str x = V.str y) = decide (x = y) := by
  by_cases h : x = y
  · subst h; simp
  · rw [decide_eq_false h, decide_eq_false fun z => h (V.str.inj z)]
theorem og_eqS {X : Cx} : OpR X (compareOp .Eq) (R2of (cn X) (gStr2 id)) := by
  intro pins s σ H x y v u Q I rx ry h
  obtain ⟨W, st, a, b, o, ra, rb, h⟩ := h
  unfold gStr2 at h
  split at h
  · cases rel_str ra
    cases rel_str rb
    exact op_eq pins s σ H _ _ v u Q I rx ry ⟨rfl, by rw [dec_vstr]; exact fin_val o h (.bl _)⟩
  · exact h.elim
theorem og_neS {X : Cx} : OpR X (compareOp .NotEq) (R2of (cn X) (gStr2 not)) := by
  intro pins s σ H x y v u Q I rx ry h
  obtain ⟨W, st, a, b, o, ra, rb, h⟩ := h
  unfold gStr2 at h
  split at h
  · cases rel_str ra
    cases rel_str rb
    exact op_ne pins s σ H _ _ v u Q I rx ry ⟨rfl, by rw [dec_vstr]; exact fin_val o h (.bl _)⟩
  · exact h.elim
theorem og_eqP {X : Cx} (hu : X.A.units + 64 < cLine) : OpR X (compareOp .Eq) (R2of (cn X) (gPy2 id)) := by
  intro pins s σ H x y v u Q I rx ry h
  obtain ⟨W, st, a, b, o, ra, rb, h⟩ := h
  unfold gPy2 at h
  split at h
  · rename_i d e h1 h2
    split at h
    · rename_i hs
      exact op_eqD hu pins s σ H x y v u Q I rx ry ⟨d, e, vl_dp o ra h1, vl_dp o rb h2, hs.1, hs.2, fin_val o h (.bl _)⟩
    · exact h.elim
  · exact h.elim
theorem og_neP {X : Cx} (hu : X.A.units + 64 < cLine) : OpR X (compareOp .NotEq) (R2of (cn X) (gPy2 not)) := by
  intro pins s σ H x y v u Q I rx ry h
  obtain ⟨W, st, a, b, o, ra, rb, h⟩ := h
  unfold gPy2 at h
  split at h
  · rename_i d e h1 h2
    split at h
    · rename_i hs
      exact op_neD hu pins s σ H x y v u Q I rx ry ⟨d, e, vl_dp o ra h1, vl_dp o rb h2, hs.1, hs.2, fin_val o h (.bl _)⟩
    · exact h.elim
  · exact h.elim
theorem og_eq {X : Cx} (hu : X.A.units + 64 < cLine) : OpR X (compareOp .Eq) (R2of (cn X) gEq) := OpR.either og_eqS (og_eqP hu)
theorem og_ne {X : Cx} (hu : X.A.units + 64 < cLine) : OpR X (compareOp .NotEq) (R2of (cn X) gNe) := OpR.either og_neS (og_neP hu)
def gIn (neg : Bool) (a b : Vl) : O Vl := fun st => match a.py st, b.py st with
  | some d, some (.list es) => if SeqAt.shaped d = true ∧ SeqAt.shaped (.list es) = true then some (.p (.bl (let k := es.any fun z => PyData.eqv z d; if neg then !k else k)), st) else none
  | _, _ => none
theorem og_in {X : Cx} (hu : X.A.units + 65 < cLine) : OpR X (compareOp .In) (R2of (cn X) (gIn false)) := by
  intro pins s σ H x y v u Q I rx ry h
  obtain ⟨W, st, a, b, o, ra, rb, h⟩ := h
  unfold gIn at h
  split at h
  · rename_i d es h1 h2
    split at h
    · rename_i hs
      exact op_inD hu pins s σ H x y v u Q I rx ry ⟨d, es, vl_dp o ra h1, vl_dp o rb h2, hs.1, hs.2, fin_val o h (.bl _)⟩
    · exact h.elim
  · exact h.elim
theorem og_notIn {X : Cx} (hu : X.A.units + 65 < cLine) : OpR X (compareOp .NotIn) (R2of (cn X) (gIn true)) := by
  intro pins s σ H x y v u Q I rx ry h
  obtain ⟨W, st, a, b, o, ra, rb, h⟩ := h
  unfold gIn at h
  split at h
  · rename_i d es h1 h2
    split at h
    · rename_i hs
      exact op_notInD hu pins s σ H x y v u Q I rx ry ⟨d, es, vl_dp o ra h1, vl_dp o rb h2, hs.1, hs.2, fin_val o h (.bl _)⟩
    · exact h.elim
  · exact h.elim
/-- is, is not: with None at the right, or two truths -/
def isV : Vl → Vl → Option Bool
  | a, .p .non => some (match a with | .p .non => true | _ => false)
  | .p (.bl a), .p (.bl b) => some (a == b)
  | _, _ => none
def gIs (neg : Bool) (a b : Vl) : O Vl := fun st => (isV a b).map fun k => (.p (.bl (if neg then !k else k)), st)
theorem isV_non {C : Cn} {W : Wd} {a b : Vl} {x y : V} {k : Bool} (ra : RelV' C W x a) (rb : RelV' C W y b) (e : isV a b = some k) : (y = .non ∧ k = decide (x = .non)) ∨ ∃ i j, x = .bl i ∧ y = .bl j ∧ k = decide (i = j) := by
  unfold isV at e
  split at e
  · cases e
    cases rb with
    | p rb =>
      cases rb
      refine .inl ⟨rfl, ?_⟩
      split
      · cases ra with
        | p ra => cases ra; rfl
      · rename_i hn
        refine (decide_eq_false fun z => ?_).symm
        subst z
        cases ra with
        | p ra => cases ra; exact hn rfl
  · rename_i i j
    cases e
    cases rel_bl ra
    cases rel_bl rb
    exact .inr ⟨i, j, rfl, rfl, by cases i <;> cases j <;> rfl⟩
  · cases e
theorem og_is {X : Cx} : OpR X (compareOp .Is) (R2of (cn X) (gIs false)) := by
  intro pins s σ H x y v u Q I rx ry h
  obtain ⟨W, st, a, b, o, ra, rb, h⟩ := h
  unfold gIs at h
  cases e : isV a b with
  | none => rw [e] at h; exact h.elim
  | some k =>
    rw [e] at h
    rcases isV_non ra rb e with ⟨rfl, hk⟩ | ⟨i, j, rfl, rfl, hk⟩
    · exact op_isN pins s σ H x _ v u Q I rx ry ⟨rfl, by rw [← hk]; exact fin_val o h (.bl _)⟩
    · exact op_isBl pins s σ H _ _ v u Q I rx ry ⟨i, j, rfl, rfl, by rw [← hk]; exact fin_val o h (.bl _)⟩
theorem og_isNot {X : Cx} : OpR X (compareOp .IsNot) (R2of (cn X) (gIs true)) := by
  intro pins s σ H x y v u Q I rx ry h
  obtain ⟨W, st, a, b, o, ra, rb, h⟩ := h
  unfold gIs at h
  cases e : isV a b with
  | none => rw [e] at h; exact h.elim
  | some k =>
    rw [e] at h
    rcases isV_non ra rb e with ⟨rfl, hk⟩ | ⟨i, j, rfl, rfl, hk⟩
    · exact op_notN pins s σ H x _ v u Q I rx ry ⟨rfl, by rw [← hk]; exact fin_val o h (.bl _)⟩
    · exact op_notBl pins s σ H _ _ v u Q I rx ry ⟨i, j, rfl, rfl, by rw [← hk]; exact fin_val o h (.bl _)⟩

/-! ### places and slices -/
def gIx (a b : Vl) : O Vl := fun st => match b with
  | .p (.int i) => match seqV st a with
    | some xs => (atI xs i).map fun d => (.p d, st)
    | none => match a with
      | .p (.str z) => if z.length ≤ 16777216 then (atI z.cps.toList i).map fun c => (.p (.str ⟨#[c]⟩), st) else none
      | _ => none
  | _ => none
theorem RelDs.atI {C : Cn} {G : Hp} {vs : List V} {ds : List D} {i : Int} {d : D} (r : RelDs C G vs ds) (e : L2.atI ds i = some d) : ∃ v, L2.atI vs i = some v ∧ RelD C G v d := by
  unfold L2.atI at e ⊢
  rw [r.length]
  cases q : ixN ds.length i with
  | none => rw [q] at e; cases e
  | some j =>
    rw [q] at e
    exact r.get (by simpa using e)
theorem og_ix {X : Cx} : IxR X (R2of (cn X) gIx) := by
  intro va sl pins s σ H x y v u Q I rx ry h pl
  obtain ⟨W, st, a, b, o, ra, rb, h⟩ := h
  unfold gIx at h
  split at h
  · rename_i i
    cases rel_int rb
    split at h
    · rename_i xs e1
      obtain ⟨p, vs, rfl, hv, rv⟩ := seqV_ok o ra e1
      cases e : atI xs i with
      | none => rw [e] at h; exact h.elim
      | some d =>
        rw [e] at h
        obtain ⟨z, hz, rz⟩ := RelDs.atI rv e
        rcases hv with hv | hv
        · exact ix_list va sl pins s σ H _ _ v u Q I rx ry ⟨p, vs, i, z, rfl, rfl, hv, hz, fin_val o h rz⟩ pl
        · exact ix_tup va sl pins s σ H _ _ v u Q I rx ry ⟨p, vs, i, z, rfl, rfl, hv, hz, fin_val o h rz⟩ pl
    · split at h
      · rename_i z _
        cases rel_str ra
        split at h
        · rename_i hz
          cases e : atI z.cps.toList i with
          | none => rw [e] at h; exact h.elim
          | some c =>
            rw [e] at h
            exact ix_str va sl pins s σ H _ _ v u Q I rx ry ⟨z, i, c, rfl, rfl, by rw [szl]; exact hz, e, fin_val o h (.str _)⟩ pl
        · exact h.elim
      · exact h.elim
  · exact h.elim
/-- a part of a list -/
def cutD (xs : List D) (lo hi : Option Int) : List D := (xs.drop (HT.sIx xs.length 0 lo)).take (HT.sIx xs.length xs.length hi - HT.sIx xs.length 0 lo)
theorem RelDs.cut {C : Cn} {G : Hp} {vs : List V} {ds : List D} (lo hi : Option Int) (r : RelDs C G vs ds) : RelDs C G (cutV vs lo hi) (cutD ds lo hi) := by
  unfold cutV cutD
  rw [r.length]
  exact (r.drop _).take _
def gSl (a : Vl) (lo hi : Option Int) : O Vl := fun st => match listV st a with
  | some xs => some (.p (.lst (cutD xs lo hi)), st)
  | none => match a with
    | .p (.tup xs) => some (.p (.tup (cutD xs lo hi)), st)
    | _ => none
abbrev MO := Ev → M (Option Int)
def oNone : MO := fun _ st => .ok none st
def asI : Vl → M (Option Int)
  | .p (.int i) => fun st => .ok (some i) st
  | _ => fun _ => .stuck
def oSome (m : ME) : MO := fun ev => (m ev).bind asI
def eSl (ma : ME) (lo hi : MO) : ME := fun ev => (ma ev).bind fun x => (lo ev).bind fun l => (hi ev).bind fun u => M.of (gSl x l u)
abbrev relI : Wd → Option Int → Option Int → Prop := fun _ b a => b = a
abbrev SO (X : Cx) (Wx : WX) (e : Option Expr) (m : MO) : Prop := PO X e (Lift (cn X) relI Wx m)
theorem PO.imp {X : Cx} {e : Option Expr} {t t' : TO} (h : PO X e t) (i : ∀ σ H Q, t' σ H Q → t σ H Q) : PO X e t' := ⟨fun pins s σ H Q I q => h.run pins s σ H Q I (i _ _ _ q)⟩
section
variable {X : Cx} {Wx : WX} {e a : Expr} {lo hi : Option Expr} {ma : ME} {ml mh : MO} {p2 pos : Pos}
theorem so_none : SO X Wx none oNone := PO.imp po_none fun σ H Q ⟨W, ev, st, o, e, h⟩ => h none H W (Wd.le.refl W) o rfl
theorem so_some (h : SE X Wx e ma) : SO X Wx (some e) (oSome ma) := PO.imp (po_some h) fun σ H Q h => lift1 h fun x H1 v W st ev o e r q => by
  cases v with
  | c k => exact q.elim
  | p d =>
    cases d with
    | int i => cases rel_int r; exact ⟨i, rfl, q _ H1 W (Wd.le.refl W) o rfl⟩
    | _ => exact q.elim
theorem rsl_ok {C : Cn} {W : Wd} {H : Hp} {st : Store} {Q : VK} {v : Vl} {x : V} {l u : Option Int} (o : WOk C W H st) (r : RelV' C W x v) (h : FinO C (RelV' C) W Q (gSl v l u st)) : rSlL C.K x l u H Q ∨ rSlA C.K x l u H Q := by
  unfold gSl at h
  split at h
  · rename_i xs e1
    obtain ⟨p, vs, rfl, hv, rv⟩ := listV_ok o r e1
    exact .inl ⟨p, vs, rfl, hv, fun p' hp => fin_new o h hp fun G hG sm => .lst hG ((rv.cut l u).mono sm)⟩
  · split at h
    · rename_i xs _
      obtain ⟨p, vs, rfl, hv, rv⟩ := tupV_ok (ds := xs) o r rfl
      refine .inr ⟨p, vs, rfl, hv, fun hw => ?_, fun _ p' hp => fin_new o h hp fun G hG sm => .tup (.inl hG) ((rv.cut l u).mono sm)⟩
      have e : cutD xs l u = xs := by
        unfold cutD
        rw [← rv.length, hw.1, hw.2, List.drop_zero, Nat.sub_zero, rv.length, List.take_length]
      rw [e] at h
      exact fin_vl o h r
    · exact h.elim
theorem se_sl (ha : SE X Wx a ma) (hl : SO X Wx lo ml) (hh : SO X Wx hi mh) : SE X Wx (.Subscript a (.Slice lo hi none p2) pos) (eSl ma ml mh) :=
  PE.imp (pe_slice (sl_list.or sl_tupA) ha hl hh) fun σ H Q h => lift1 h fun x H1 v W st ev o e r h1 => by
    have h2 := lift2 (rel := relI) (ma := ml) (f := fun l => (mh ev).bind fun u => M.of (gSl v l u)) (R := fun l H2 => Lift (cn X) relI Wx mh σ H2 fun u H3 => rSlL X.K x l u H3 Q ∨ rSlA X.K x l u H3 Q) o e h1
      fun l H2 l' W' st' le o' rl h2 => by
        have rl' : l = l' := rl
        subst rl'
        refine lift2 (rel := relI) (ma := mh) (f := fun u => M.of (gSl v l u)) o' (e.mono le) h2 fun u H3 u' W2 st2 le2 o2 ru h3 => ?_
        have ru' : u = u' := ru
        subst ru'
        exact rsl_ok o2 ((r.mono le).mono le2) (fin_of h3)
    exact h2
end
end Sim
end

section
/-! Sim 4: defs, their promise (the guards of repr are clear), calls. -/
namespace Sim
open PySem PySem.Spec PyProof.Rows L2

/-- no repr runs around -/
abbrev Clr (A : Around) : Prop := A.guards = some []
theorem Clr.deeper {A : Around} (h : Clr A) (env : Env) : Clr (A.deeper env) := h
theorem Clr.make {A : Around} (h : Clr A) (C : Addr) (us : List Value) (kw : List (Str × Value)) : Clr (A.under (.builtin "type.__call__" ⟨.ref C :: us, kw⟩)) := by
  have e : (Code.builtin "type.__call__" ⟨.ref C :: us, kw⟩).guards = [] := by
    show (if (Code.builtin "type.__call__" ⟨.ref C :: us, kw⟩).isGuard = true then _ else []) = []
    rw [if_neg (by simp [Code.isGuard, guardIds])]
  show pushGuards (Code.builtin "type.__call__" ⟨.ref C :: us, kw⟩).guards A.guards = some []
  rw [e]
  exact h

/-- THE PROMISE of a def, where no repr runs around; what it lets out lies as HandS's CX says -/
structure FnG (P : Program) (w : World) (K : PySem.W.Frag) (mg : Str → Option Value) (base : Heap) (k : Nat) (f : Addr) (fd : FuncData) (ps : List Str) (sp : Sp) : Prop where
  len : ∀ vs H Q E, sp vs H Q E → vs.length = ps.length
  run : ∀ (A : Around) (outer : List Env) (s : Shared) (H : Hp) (args : Args) (us : List Value) (vs : List V) (Q : VK) (E : XK), Clr A → Room k A → Env0 P w K mg base A outer s H →
    BindsTo s fd args (ps.zip us) → Vals vs us → sp vs H Q E → codeAny (model P w) A (.call (.ref f) args) (CR (L2.CX P w) outer P w H s Q E) s
section
variable {P : Program} {w : World} {K : PySem.W.Frag} {mg : Str → Option Value} {base : Heap} {k : Nat} {f : Addr} {fd : FuncData} {ps N : List Str} {sp : Sp}
theorem FnG.mono {j : Nat} (F : FnG P w K mg base j f fd ps sp) (h : j ≤ k) : FnG P w K mg base k f fd ps sp :=
  ⟨F.len, fun A outer s H args us vs Q E c hr => F.run A outer s H args us vs Q E c (hr.mono h)⟩
theorem FnG.imp {sp' : Sp} (F : FnG P w K mg base k f fd ps sp) (h : ∀ vs H Q E, sp' vs H Q E → sp vs H Q E) : FnG P w K mg base k f fd ps sp' :=
  ⟨fun vs H Q E q => F.len vs H Q E (h _ _ _ _ q), fun A outer s H args us vs Q E c hr e b r q => F.run A outer s H args us vs Q E c hr e b r (h _ _ _ _ q)⟩
/-- a def by its body -/
theorem fnG_body {x qual : Str} {params : Arguments} {body : List Stmt} {scope : Scope} {dvs : List V} {kws : List (Str × V)} (F : FunD K x qual params body scope dvs kws f fd) (S : FnScope N ps scope) (len : ∀ vs H Q E, sp vs H Q E → vs.length = ps.length)
    (hbody : ∀ (cdv : Value) (A : Around) (outer : List Env) (s : Shared) (H : Hp) (vs : List V) (Q : VK) (E : XK), Clr A → Room k (A.deeper (envOfC qual scope s.heap.objs.size f cdv)) → sp vs H Q E →
      ∃ t, PSs (cxOf (L2.CX P w) P w K mg base N qual scope f cdv A outer s H E) body t ∧ t { nx := fun _ H' => Q .non H', rt := Q } (L2.start N vs) H) : FnG P w K mg base (k + 1) f fd ps sp := by
  obtain ⟨oc, od, dV, kV, doc, pm, an, cdv, ct, osl, rfl, lk, hcd, _, _⟩ := F.ex
  refine ⟨len, fun A outer s H args us vs Q E hc room e0 bnd rel asked => ?_⟩
  have n1 := len _ _ _ _ asked
  have kin : K.In s.heap := e0.mod.kin.keeps fun b o e => (e0.bs b o e).1
  have own : ∀ q ∈ ps.zip us, scope.names.lookup q.1 = some .local ∨ (scope.names.lookup q.1 = some .cell ∧ ((cellsFrom (s.heap.objs.size + 1) scope.names []).lookup q.1).isSome = true) := by
    rintro ⟨n, v⟩ hq
    rcases S.par n (List.of_mem_zip hq).1 with z | z
    · exact Or.inl z
    · exact Or.inr ⟨z, PySem.W.cellsFrom_some _ _ _ (Or.inl z)⟩
  refine codeAny_call_function room.depth (kin _ _ lk) rfl S.co S.gen rfl (PySem.W.codeRec_of kin hcd) (bnd _ _ _ _ (wpAny_newFunctionEnv_cells S.kind own fun env heq s1 made => ?_))
  subst heq
  obtain ⟨t, der, rd⟩ := hbody cdv A outer s H vs Q E hc (room.deeper _) asked
  have J : Inv (cxOf (L2.CX P w) P w K mg base N qual scope f cdv A outer s H E) [] (L2.start N vs) H s1 := inv_start S room.hd e0 n1 rel made
  refine ⟨(e0.mod.nolimit.keeps fun b o e => (e0.bs b o e).1).keeps made.toInCall.keep, codeAny_func (wpAny_mono (der.run [] s1 (L2.start N vs) H _ J rd) (fun fl s' z => ?_) fun _ _ z => z)⟩
  have close : ∀ {σ' : Sg} {H' : Hp} {v : V} {u : Value}, Inv (cxOf (L2.CX P w) P w K mg base N qual scope f cdv A outer s H E) [] σ' H' s' → RelV v u → Q v H' → CE outer P w H s Q u s' :=
    fun {_ H' v _} I' r' q' => ⟨v, H', I'.os, I'.bare, I'.base, I'.hok, r', q'⟩
  cases fl with
  | next => obtain ⟨σ', H', I', q'⟩ := z; exact close (v := .non) I' rfl q'
  | ret u => obtain ⟨v, σ', H', I', r', q'⟩ := z; exact close I' r' q'
  | brk => obtain ⟨_, _, _, q'⟩ := z; exact q'.elim
  | cont => obtain ⟨_, _, _, q'⟩ := z; exact q'.elim
end

/-! ### the mirror's own promise -/
section
variable (C : Cn)
def FinD (W : Wd) (E : XK) (Q : VK) : Res Vl → Prop
  | .ok a st' => ∀ x H' W', W.le W' → WOk C W' H' st' → RelV' C W' x a → Q x H'
  | .exn e st' => ∀ cls d H' W', W.le W' → WOk C W' H' st' → ExnR C W' e cls d → E cls d H'
  | .stuck => False
/-- a def does what m does -/
def spM (n : Nat) (m : List Vl → M Vl) : Sp := fun vs H Q E => ∃ W as st, as.length = n ∧ WOk C W H st ∧ RelVs C W vs as ∧ FinD C W E Q (m as st)
end
/-- the def's end: data is handed back with the store cut back; a new cell is frozen -/
def exitV (n : Nat) (v : Vl) (st : Store) : Res Vl := match v with
  | .p d => .ok (.p d) (st.take n)
  | .c k => if k < n then .ok (.c k) (st.take n) else match frz1 (.c k) st with
    | some (d, st') => .ok (.p d) (st'.take n)
    | none => .stuck
/-- the same, but the new cell goes on as a cell (it must be the first new one) -/
def exitC (n : Nat) (v : Vl) (st : Store) : Res Vl := match v with
  | .p d => .ok (.p d) (st.take n)
  | .c k => if k ≤ n then .ok (.c k) (st.take (n + 1)) else .stuck
def mFunWith (ex : Nat → Vl → Store → Res Vl) (n N : Nat) (body : MS) : List Vl → M Vl := fun as st =>
  match body (as.map some ++ List.replicate (N - n) none) st with
  | .rt v st' => ex st.length v st'
  | .nx _ st' => .ok (.p .non) (st'.take st.length)
  | .ex e _ st' => .exn e (st'.take st.length)
  | _ => .stuck
abbrev mFun := mFunWith exitV
section
variable {C : Cn} {W W' : Wd} {H : Hp} {st st' : Store}
theorem Wd.le.cut {n : Nat} (l : W.le W') (h : W.al.length ≤ n) : W.le ⟨W'.G, W'.al.take n⟩ := by
  obtain ⟨t, e⟩ := l.a
  refine ⟨l.g, t.take (n - W.al.length), ?_⟩
  show W'.al.take n = _
  rw [e, List.take_append, List.take_of_length_le h]
theorem fin_exit {E : XK} {Q : VK} {v : Vl} (n : Nat) (hn : W.al.length = n) (l : W.le W') (o : WOk C W' H st') {x : V} (r : RelV' C W' x v) (h : FinD C W E Q (exitV n v st')) : Q x H := by
  cases v with
  | p d =>
    cases r with
    | p r => exact h x H _ (l.cut (Nat.le_of_eq hn)) (o.cut n) (.p r)
  | c k =>
    simp only [exitV] at h
    by_cases hk : k < n
    · rw [if_pos hk] at h
      cases r with
      | c ha => exact h _ H _ (l.cut (Nat.le_of_eq hn)) (o.cut n) (.c (by show (W'.al.take n)[k]? = _; rw [List.getElem?_take, if_pos hk]; exact ha))
    · rw [if_neg hk] at h
      cases q : frz1 (.c k) st' with
      | none => rw [q] at h; exact h.elim
      | some z =>
        obtain ⟨d, st2⟩ := z
        rw [q] at h
        obtain ⟨W2, l2, o2, r2⟩ := frz1_ok o r q
        exact h x H _ ((l.trans l2).cut (Nat.le_of_eq hn)) (o2.cut n) (.p r2)
theorem fin_exitC {E : XK} {Q : VK} {v : Vl} (n : Nat) (hn : W.al.length = n) (l : W.le W') (o : WOk C W' H st') {x : V} (r : RelV' C W' x v) (h : FinD C W E Q (exitC n v st')) : Q x H := by
  cases v with
  | p d =>
    cases r with
    | p r => exact h x H _ (l.cut (Nat.le_of_eq hn)) (o.cut n) (.p r)
  | c k =>
    simp only [exitC] at h
    by_cases hk : k ≤ n
    · rw [if_pos hk] at h
      cases r with
      | c ha => exact h _ H _ (l.cut (by omega)) (o.cut (n + 1)) (.c (by show (W'.al.take (n + 1))[k]? = _; rw [List.getElem?_take, if_pos (by omega)]; exact ha))
    · rw [if_neg hk] at h; exact h.elim
end
theorem RelVs.get {C : Cn} {W : Wd} : ∀ {vs : List V} {ds : List Vl} {i : Nat} {d : Vl}, RelVs C W vs ds → ds[i]? = some d → ∃ v, vs[i]? = some v ∧ RelV' C W v d
  | _, _, _, _, .nil, e => by simp at e
  | _, _, 0, _, .cons h _, e => by simp at e; subst e; exact ⟨_, rfl, h⟩
  | _, _, i + 1, d, .cons _ r, e => by
    obtain ⟨v, h1, h2⟩ := RelVs.get (i := i) (d := d) r (by simpa using e)
    exact ⟨v, by simpa using h1, h2⟩
theorem RelVs.append {C : Cn} {W : Wd} : ∀ {vs ws : List V} {ds es : List Vl}, RelVs C W vs ds → RelVs C W ws es → RelVs C W (vs ++ ws) (ds ++ es)
  | _, _, _, _, .nil, s => s
  | _, _, _, _, .cons h r, s => .cons h (RelVs.append r s)
theorem evR_start {C : Cn} {W : Wd} {vs : List V} {as : List Vl} {N : List Str} (r : RelVs C W vs as) : EvR C W (L2.start N vs) (as.map some ++ List.replicate (N.length - as.length) none) := by
  have hl := r.length
  unfold L2.start
  refine ⟨by simp [hl], fun i v e => ?_⟩
  by_cases hi : i < as.length
  · rw [List.getElem?_append_left (by simpa using hi), List.getElem?_map] at e
    cases q : as[i]? with
    | none => rw [q] at e; cases e
    | some a =>
      rw [q] at e
      cases e
      obtain ⟨x, h1, h2⟩ := r.get q
      exact ⟨x, by rw [List.getElem?_append_left (by rw [List.length_map, hl]; exact hi), List.getElem?_map, h1]; rfl, h2⟩
  · rw [List.getElem?_append_right (by simpa using hi), List.getElem?_replicate] at e
    split at e <;> cases e
section
variable {P : Program} {w : World} {K : PySem.W.Frag} {mg : Str → Option Value} {base : Heap} {k : Nat} {f : Addr} {fd : FuncData} {ps N : List Str}
/-- THE RULE: a def's body does what the combinators do; so the def does -/
theorem fnG_with {ex : Nat → Vl → Store → Res Vl} (hex : ∀ {C : Cn} {W W' : Wd} {H : Hp} {st' : Store} {E : XK} {Q : VK} {v : Vl} {n : Nat}, W.al.length = n → W.le W' → WOk C W' H st' → ∀ {x : V}, RelV' C W' x v → FinD C W E Q (ex n v st') → Q x H)
    {x qual : Str} {params : Arguments} {body : List Stmt} {scope : Scope} {dvs : List V} {kws : List (Str × V)} {m : MS} {n M : Nat} (F : FunD K x qual params body scope dvs kws f fd) (S : FnScope N ps scope) (hn : ps.length = n) (hM : N.length = M)
    (hbody : ∀ (X : Cx) (E : XK), (∃ (cdv : Value) (A : Around) (outer : List Env) (s : Shared) (H : Hp), X = cxOf (L2.CX P w) P w K mg base N qual scope f cdv A outer s H E) → Clr X.A → Room k X.A → Takes X (fun cls d _ H => E cls d H) →
      SSs X (fun cls d _ H => E cls d H) body m) : FnG P w K mg base (k + 1) f fd ps (spM ⟨K, mg⟩ n (mFunWith ex n M m)) := by
  subst hn hM
  refine fnG_body F S (fun vs H Q E ⟨W, as, st, hl, _, r, _⟩ => r.length.trans hl) fun cdv A outer s H vs Q E hc hr hsp => ?_
  refine ⟨_, hbody _ E ⟨cdv, A, outer, s, H, rfl⟩ hc hr (takes_of rfl rfl rfl rfl), ?_⟩
  obtain ⟨W, as, st, hl, o, r, h⟩ := hsp
  refine ⟨W, _, st, o, by have e := evR_start (N := N) r; rw [hl] at e; exact e, ?_⟩
  have h : FinD ⟨K, mg⟩ W E Q (match m (as.map some ++ List.replicate (N.length - ps.length) none) st with
    | .rt v st' => ex st.length v st'
    | .nx _ st' => .ok (.p .non) (st'.take st.length)
    | .ex e _ st' => .exn e (st'.take st.length)
    | _ => .stuck) := h
  cases q : m (as.map some ++ List.replicate (N.length - ps.length) none) st with
  | stuck => rw [q] at h; exact h
  | bk _ _ => rw [q] at h; exact h.elim
  | ct _ _ => rw [q] at h; exact h.elim
  | nx ev st' =>
    rw [q] at h
    intro σ' H' W' l o' _
    exact h .non H' _ (l.cut (Nat.le_of_eq o.len)) (o'.cut _) (.p .non)
  | rt v st' =>
    rw [q] at h
    intro x H' W' l o' r'
    exact hex o.len l o' r' h
  | ex e ev st' =>
    rw [q] at h
    intro cls d σ' H' W' l o' _ r'
    exact h cls d H' _ (l.cut (Nat.le_of_eq o.len)) (o'.cut _) r'
theorem fnG {x qual : Str} {params : Arguments} {body : List Stmt} {scope : Scope} {dvs : List V} {kws : List (Str × V)} {m : MS} {n M : Nat} (F : FunD K x qual params body scope dvs kws f fd) (S : FnScope N ps scope) (hn : ps.length = n) (hM : N.length = M)
    (hbody : ∀ (X : Cx) (E : XK), (∃ (cdv : Value) (A : Around) (outer : List Env) (s : Shared) (H : Hp), X = cxOf (L2.CX P w) P w K mg base N qual scope f cdv A outer s H E) → Clr X.A → Room k X.A → Takes X (fun cls d _ H => E cls d H) →
      SSs X (fun cls d _ H => E cls d H) body m) : FnG P w K mg base (k + 1) f fd ps (spM ⟨K, mg⟩ n (mFun n M m)) :=
  fnG_with (fun hn l o _ r h => fin_exit _ hn l o r h) F S hn hM hbody
theorem fnGC {x qual : Str} {params : Arguments} {body : List Stmt} {scope : Scope} {dvs : List V} {kws : List (Str × V)} {m : MS} {n M : Nat} (F : FunD K x qual params body scope dvs kws f fd) (S : FnScope N ps scope) (hn : ps.length = n) (hM : N.length = M)
    (hbody : ∀ (X : Cx) (E : XK), (∃ (cdv : Value) (A : Around) (outer : List Env) (s : Shared) (H : Hp), X = cxOf (L2.CX P w) P w K mg base N qual scope f cdv A outer s H E) → Clr X.A → Room k X.A → Takes X (fun cls d _ H => E cls d H) →
      SSs X (fun cls d _ H => E cls d H) body m) : FnG P w K mg base (k + 1) f fd ps (spM ⟨K, mg⟩ n (mFunWith exitC n M m)) :=
  fnG_with (fun hn l o _ r h => fin_exitC _ hn l o r h) F S hn hM hbody
end

/-! ### calls of defs -/
/-- the values of a call in the parameters' order: us by place, ws by keyword, its the defaults -/
def arrOf (perm : List Nat) {α : Type} (us its ws : List α) : List α := perm.filterMap fun i => (us ++ ws ++ its)[i]?
theorem Paired.app {α β : Type} {R : α → β → Prop} : ∀ {xs ys : List α} {us ws : List β}, Paired R xs us → Paired R ys ws → Paired R (xs ++ ys) (us ++ ws)
  | _, _, _, _, .nil, s => s
  | _, _, _, _, .cons r t, s => .cons r (Paired.app t s)
theorem Paired.at {α β : Type} {R : α → β → Prop} : ∀ {xs : List α} {us : List β}, Paired R xs us → ∀ i : Nat, (xs[i]? = none ∧ us[i]? = none) ∨ ∃ x u, xs[i]? = some x ∧ us[i]? = some u ∧ R x u
  | _, _, .nil, i => .inl ⟨by simp, by simp⟩
  | _, _, .cons r _, 0 => .inr ⟨_, _, rfl, rfl, r⟩
  | _, _, .cons _ t, i + 1 => by simpa using Paired.at t i
theorem arrOf_rel {α β : Type} {R : α → β → Prop} {vs ds zs : List α} {us its ws : List β} (h1 : Paired R vs us) (h2 : Paired R ds its) (h3 : Paired R zs ws) : ∀ perm : List Nat, Paired R (arrOf perm vs ds zs) (arrOf perm us its ws)
  | [] => .nil
  | i :: r => by
    have ih := arrOf_rel h1 h2 h3 r
    unfold arrOf at ih ⊢
    rw [List.filterMap_cons, List.filterMap_cons]
    rcases Paired.at (Paired.app (Paired.app h1 h3) h2) i with ⟨e1, e2⟩ | ⟨x, u, e1, e2, rr⟩
    · rw [e1, e2]; exact ih
    · rw [e1, e2]; exact .cons rr ih
/-- how the values of a call come to the parameters: n by place, keywords ks, then the defaults dvs -/
def Bd (K : PySem.W.Frag) (fd : FuncData) (ps : List Str) (n : Nat) (ks : List Str) (dvs : List V) (perm : List Nat) : Prop :=
  ∃ its : List Value, Vals dvs its ∧ ∀ (s : Shared) (us ws : List Value), K.In s.heap → us.length = n → ws.length = ks.length → BindsTo s fd ⟨us, ks.zip ws⟩ (ps.zip (arrOf perm us its ws))
section
variable {K : PySem.W.Frag} {x qual : Str} {params : Arguments} {body : List Stmt} {scope : Scope} {dvs : List V} {f : Addr} {fd : FuncData} {ps ks : List Str} {n : Nat} {perm : List Nat}
theorem bd_plain (F : FunD K x qual params body scope [] [] f fd)
    (h : ∀ (kV doc pm : Value) (an : Option Addr) (cdv ct : Value) (us ws : List Value), us.length = n → ws.length = ks.length → bindArgs (PySem.W.fnOf x qual params body scope .none kV doc pm an cdv ct) ⟨us, ks.zip ws⟩ = pure (ps.zip (arrOf perm us [] ws))) : Bd K fd ps n ks [] perm := by
  obtain ⟨oc, od, dV, kV, doc, pm, an, cdv, ct, osl, rfl, lk, hcd, hD, hK⟩ := F.ex
  rcases hD with ⟨_, rfl⟩ | ⟨e, _⟩
  · exact ⟨[], .nil, fun s us ws _ h1 h2 => .of_eq (h kV doc pm an cdv ct us ws h1 h2)⟩
  · exact absurd rfl e
theorem bd_dfl (F : FunD K x qual params body scope dvs [] f fd) (hd : dvs ≠ [])
    (h : ∀ (T : Addr) (kV doc pm : Value) (an : Option Addr) (cdv ct : Value) (us its ws : List Value), us.length = n → its.length = dvs.length → ws.length = ks.length →
      ∃ k, bindArgs (PySem.W.fnOf x qual params body scope (.ref T) kV doc pm an cdv ct) ⟨us, ks.zip ws⟩ = seqItems? (.ref T) >>= k ∧ k (some its.toArray) = pure (ps.zip (arrOf perm us its ws))) : Bd K fd ps n ks dvs perm := by
  obtain ⟨oc, od, dV, kV, doc, pm, an, cdv, ct, osl, rfl, lk, hcd, hD, hK⟩ := F.ex
  rcases hD with ⟨e, _⟩ | ⟨_, T, o, its, m, rfl, lT, oT, rT⟩
  · exact absurd e hd
  · refine ⟨its, rT, fun s us ws X h1 h2 => BindsTo.of_looks fun M => ?_⟩
    obtain ⟨k, e1, e2⟩ := h T kV doc pm an cdv ct us its ws h1 rT.length.symm h2
    rw [e1]
    exact looks_items X lT oT (.of_pure e2)
end
theorem RelVs.paired {C : Cn} {W : Wd} : ∀ {vs : List V} {as : List Vl}, RelVs C W vs as → Paired (RelV' C W) vs as
  | _, _, .nil => .nil
  | _, _, .cons h r => .cons h (RelVs.paired r)
theorem RelVs.of {C : Cn} {W : Wd} : ∀ {vs : List V} {as : List Vl}, Paired (RelV' C W) vs as → RelVs C W vs as
  | _, _, .nil => .nil
  | _, _, .cons h r => .cons h (RelVs.of r)
/-- a call: the positional values, the keywords' values, then the def -/
def eCall (n k N : Nat) (dfl : List Vl) (perm : List Nat) (m : List Vl → M Vl) (as ks : MA) : ME := fun ev => (as ev).bind fun vs => (ks ev).bind fun zs =>
  if vs.length = n ∧ zs.length = k ∧ (arrOf perm vs dfl zs).length = N then m (arrOf perm vs dfl zs) else fun _ => .stuck
abbrev SK (X : Cx) (Wx : WX) (kws : List Keyword) (m : MA) : Prop := PK X kws (LA (cn X) Wx m)
theorem PK.imp {X : Cx} {e : List Keyword} {t t' : TA} (h : PK X e t) (i : ∀ σ H Q, t' σ H Q → t σ H Q) : PK X e t' := ⟨fun pos pins s σ H Q I q => h.run pos pins s σ H Q I (i _ _ _ q)⟩
section
variable {X : Cx} {Wx : WX} {k n j N : Nat} {f : Addr} {fd : FuncData} {ps ks : List Str} {dvs : List V} {dfl : List Vl} {perm : List Nat} {m : List Vl → M Vl} {ma mk : MA} {x : Str} {p pos : Pos} {e : Expr} {es : List Expr} {kws : List Keyword} {nm : Option Str} {kpos : Pos} {me : ME}
theorem sk_nil : SK X Wx [] aNil := PK.imp pk_nil fun σ H Q ⟨W, ev, st, o, _, h⟩ => h [] H W (Wd.le.refl W) o .nil
theorem sk_cons (ha : SE X Wx e me) (hr : SK X Wx kws mk) : SK X Wx (⟨nm, e, kpos⟩ :: kws) (aCons me mk) :=
  PK.imp (pk_cons ha hr) fun σ H Q h => lift1 h fun x H1 a W st ev o e r h1 => lift2 (rel := RelVs (cn X)) o e h1 fun y H2 b W' st' l o' r' h2 => h2 _ H2 W' (Wd.le.refl W') o' (.cons (r.mono l) r')
/-- what is raised in a callee is wished for at the caller's slots -/
theorem pass_at (tk : Takes X Wx) {σ : Sg} : ∀ (pins : List (Addr × Obj)) (H : Hp) (s : Shared) (e : Value) (s' : Shared), Inv X pins σ H s → L2.CX X.prog X.w X.stack H s (fun cls d H' => Wx cls d σ H') e s' → X.xe e s' :=
  fun pins H s e s' I c => tk e s' (by
    have q := XE.of_call (W := fun cls d σ' H' => σ' = σ ∧ Wx cls d σ H') (E := fun cls d H' => Wx cls d σ H') I (fun cls d H' h => ⟨rfl, h⟩) c
    obtain ⟨a, B, sI, pins', σ', H', cls, d, e1, I', nb, up, sky, na, os, ag, rfl, wx⟩ := q
    exact ⟨a, B, sI, pins', σ', H', cls, d, e1, I', nb, up, sky, na, os, ag, wx⟩)
theorem run_g {sp : Sp} {pins : List (Addr × Obj)} {σ : Sg} {H : Hp} {s : Shared} {Q : VK} {args : Args} {us : List Value} {vs : List V} (F : FnG X.prog X.w X.K X.mg X.base k f fd ps sp) (hc : Clr X.A) (hr : Room k X.A) (tk : Takes X Wx)
    (I : Inv X pins σ H s) (hb : BindsTo s fd args (ps.zip us)) (r : Vals vs us) (h : sp vs H Q fun cls d H' => Wx cls d σ H') : wpAny (model X.prog X.w) X.A (call (.ref f) args.pos args.kw) (EP X pins σ Q) X.xe s := by
  refine wpAny_call (codeAny_mono (F.run X.A X.stack s H args us vs Q _ hc hr I.env0 hb r h) fun rs s' hq => ?_)
  match rs, hq with
  | .error e, hq => exact pass_at tk pins H s e s' I hq
  | .ok (.ret u), hq => exact I.after hq
  | .ok .next, hq => exact hq.elim
  | .ok .brk, hq => exact hq.elim
  | .ok .cont, hq => exact hq.elim
/-- what the mirror's result gives the caller -/
theorem fin_call {C : Cn} {W : Wd} {σ : Sg} {H : Hp} {st : Store} {Q : VK} {vs : List V} {as : List Vl} (hl : as.length = N) (o : WOk C W H st) (r : RelVs C W vs as) (h : Fin C (RelV' C) W σ Wx Q (m as st)) : spM C N m vs H Q fun cls d H' => Wx cls d σ H' := by
  refine ⟨W, as, st, hl, o, r, ?_⟩
  cases q : m as st with
  | stuck => rw [q] at h; exact h
  | ok a st' => rw [q] at h; exact h
  | exn e st' => rw [q] at h; exact h
/-- behind the arguments -/
theorem call_core {pins : List (Addr × Obj)} {σ : Sg} {H : Hp} {s : Shared} {Q : VK} {us ws : List Value} {vs zs : List V} {as bs : List Vl} {W : Wd} {st : Store} (F : FnG X.prog X.w X.K X.mg X.base k f fd ps (spM (cn X) N m)) (hc : Clr X.A) (hr : Room k X.A) (tk : Takes X Wx)
    (hb : Bd X.K fd ps n ks dvs perm) (hd : ∀ W, RelVs (cn X) W dvs dfl) (I : Inv X pins σ H s) (r1 : Vals vs us) (r2 : Vals zs ws) (o : WOk (cn X) W H st) (q1 : RelVs (cn X) W vs as) (q2 : RelVs (cn X) W zs bs)
    (h : Fin (cn X) (RelV' (cn X)) W σ Wx Q ((if as.length = n ∧ bs.length = ks.length ∧ (arrOf perm as dfl bs).length = N then m (arrOf perm as dfl bs) else fun _ => .stuck) st)) : wpAny (model X.prog X.w) X.A (call (.ref f) us (ks.zip ws)) (EP X pins σ Q) X.xe s := by
  obtain ⟨its, rd, bind⟩ := hb
  by_cases hl : as.length = n ∧ bs.length = ks.length ∧ (arrOf perm as dfl bs).length = N
  · rw [if_pos hl] at h
    have l1 : us.length = n := by rw [← r1.length, q1.length]; exact hl.1
    have l2 : ws.length = ks.length := by rw [← r2.length, q2.length]; exact hl.2.1
    exact run_g (args := ⟨us, ks.zip ws⟩) F hc hr tk I (bind s us ws I.kIn l1 l2) (arrOf_rel r1 rd r2 perm) (fin_call hl.2.2 o (.of (arrOf_rel q1.paired (hd W).paired q2.paired perm)) h)
  · rw [if_neg hl] at h; exact h.elim
theorem lift_all {C : Cn} {σ : Sg} {H : Hp} {ma mk : MA} {f : List Vl → List Vl → M Vl} {Q : VK} {R : List V → List V → Hp → Prop} (h : LE C Wx (fun ev => (ma ev).bind fun vs => (mk ev).bind fun zs => f vs zs) σ H Q)
    (k : ∀ vs zs H2 W st as bs, WOk C W H2 st → RelVs C W vs as → RelVs C W zs bs → Fin C (RelV' C) W σ Wx Q (f as bs st) → R vs zs H2) : LA C Wx ma σ H fun vs H1 => LA C Wx mk σ H1 fun zs H2 => R vs zs H2 :=
  lift1 h fun vs H1 as W st ev o e r h1 => lift2 (rel := RelVs C) o e h1 fun zs H2 bs W' st' l o' r' h2 => k vs zs H2 W' st' as bs o' (r.mono l) r' h2
/-- f(e, .., k = v, ..) -/
theorem se_call (F : FnG X.prog X.w X.K X.mg X.base k f fd ps (spM (cn X) N m)) (hc : Clr X.A) (hr : Room k X.A) (tk : Takes X Wx) (hm : X.mg x = some (.ref f)) (hkp : PySem.W.keepIn X.K (.ref f) = true) (hb : Bd X.K fd ps n ks dvs perm) (hd : ∀ W, RelVs (cn X) W dvs dfl)
    (ha : SA X Wx (e :: es) ma) (hk : SK X Wx kws mk) (hkn : ks.length = j := by rfl) (hg : Gl X x := by rfl) (hall : (backToKw pos (keywordEach kws X.env)).all (·.1.isSome) = true := by rfl) (hks : (backToKw pos (keywordEach kws X.env)).filterMap (·.1) = ks := by rfl)
    (hdb : (x == ("__debug__" : Str)) = false := by decide) (he : starEach (e :: es) X.env = (false, eval e X.env) :: starEach es X.env := by rfl)
    (hpl : ((backTo pos (starEach (e :: es) X.env)).any (·.1) || (backToKw pos (keywordEach kws X.env)).any (·.1.isNone)) = false := by rfl) :
    SE X Wx (.Call (.Name x p) (e :: es) kws pos) (eCall n j N dfl perm m ma mk) := by
  subst hkn
  refine ⟨fun pins s σ H Q I h => ?_⟩
  refine wpAny_Call_Name_kw (ld_glob I hg hm (PySem.W.callWith_KW (h₀ := X.base) I.ok.mod.kin hkp hall ?_ hpl he) hdb)
  have h2 := lift_all (R := fun vs zs H2 => ∃ W st as bs, WOk (cn X) W H2 st ∧ RelVs (cn X) W vs as ∧ RelVs (cn X) W zs bs ∧ Fin (cn X) (RelV' (cn X)) W σ Wx Q ((if as.length = n ∧ bs.length = ks.length ∧ (arrOf perm as dfl bs).length = N then m (arrOf perm as dfl bs) else fun _ => .stuck) st)) h
    fun vs zs H2 W st as bs o q1 q2 q => ⟨W, st, as, bs, o, q1, q2, q⟩
  refine thn (ha.run pos pins s σ H _ I h2) fun us s1 ⟨vs, H1, I1, r1, q1⟩ => ?_
  refine thn (hk.run pos pins s1 σ H1 _ I1 q1) fun ws s2 ⟨zs, H2, I2, r2, W, st, as, bs, o, a1, a2, q⟩ => ⟨I2.kIn, ?_⟩
  rw [hks]
  exact call_core F hc hr tk hb hd I2 r1 r2 o a1 a2 q
/-- f(k = v, ..) -/
theorem se_callk (F : FnG X.prog X.w X.K X.mg X.base k f fd ps (spM (cn X) N m)) (hc : Clr X.A) (hr : Room k X.A) (tk : Takes X Wx) (hm : X.mg x = some (.ref f)) (hkp : PySem.W.keepIn X.K (.ref f) = true) (hb : Bd X.K fd ps n ks dvs perm) (hd : ∀ W, RelVs (cn X) W dvs dfl)
    (hk : SK X Wx kws mk) (hkn : ks.length = j := by rfl) (hg : Gl X x := by rfl) (hall : (backToKw pos (keywordEach kws X.env)).all (·.1.isSome) = true := by rfl) (hks : (backToKw pos (keywordEach kws X.env)).filterMap (·.1) = ks := by rfl)
    (hdb : (x == ("__debug__" : Str)) = false := by decide) (hpl : ((backTo pos (starEach [] X.env)).any (·.1) || (backToKw pos (keywordEach kws X.env)).any (·.1.isNone)) = false := by rfl) :
    SE X Wx (.Call (.Name x p) [] kws pos) (eCall n j N dfl perm m aNil mk) := by
  subst hkn
  refine ⟨fun pins s σ H Q I h => ?_⟩
  refine wpAny_Call_Name_kw (ld_glob I hg hm (PySem.W.callWith_KW0 (h₀ := X.base) I.ok.mod.kin hkp hall ?_ hpl) hdb)
  have h2 := lift_all (R := fun vs zs H2 => ∃ W st as bs, WOk (cn X) W H2 st ∧ RelVs (cn X) W vs as ∧ RelVs (cn X) W zs bs ∧ Fin (cn X) (RelV' (cn X)) W σ Wx Q ((if as.length = n ∧ bs.length = ks.length ∧ (arrOf perm as dfl bs).length = N then m (arrOf perm as dfl bs) else fun _ => .stuck) st)) h
    fun vs zs H2 W st as bs o q1 q2 q => ⟨W, st, as, bs, o, q1, q2, q⟩
  obtain ⟨W0, ev0, st0, o0, e0, h3⟩ := h2
  have h4 := h3 [] H W0 (Wd.le.refl W0) o0 .nil
  refine thn (hk.run pos pins s σ H _ I h4) fun ws s2 ⟨zs, H2, I2, r2, W, st, as, bs, o, a1, a2, q⟩ => ⟨I2.kIn, ?_⟩
  rw [hks]
  exact call_core F hc hr tk hb hd I2 .nil r2 o a1 a2 q
/-- f() -/
theorem se_call0 (F : FnG X.prog X.w X.K X.mg X.base k f fd ps (spM (cn X) N m)) (hc : Clr X.A) (hr : Room k X.A) (tk : Takes X Wx) (hm : X.mg x = some (.ref f)) (hkp : PySem.W.keepIn X.K (.ref f) = true) (hb : Bd X.K fd ps n [] dvs perm) (hd : ∀ W, RelVs (cn X) W dvs dfl) (hg : Gl X x := by rfl)
    (hdb : (x == ("__debug__" : Str)) = false := by decide) : SE X Wx (.Call (.Name x p) [] [] pos) (eCall n 0 N dfl perm m aNil aNil) := by
  refine ⟨fun pins s σ H Q I h => ?_⟩
  refine wpAny_Call_Name_kw (ld_glob I hg hm (PySem.W.callWith_K0 I.kIn hkp ?_) hdb)
  have h2 := lift_all (R := fun vs zs H2 => ∃ W st as bs, WOk (cn X) W H2 st ∧ RelVs (cn X) W vs as ∧ RelVs (cn X) W zs bs ∧ Fin (cn X) (RelV' (cn X)) W σ Wx Q ((if as.length = n ∧ bs.length = 0 ∧ (arrOf perm as dfl bs).length = N then m (arrOf perm as dfl bs) else fun _ => .stuck) st)) h
    fun vs zs H2 W st as bs o q1 q2 q => ⟨W, st, as, bs, o, q1, q2, q⟩
  obtain ⟨W0, ev0, st0, o0, e0, h3⟩ := h2
  have h4 := h3 [] H W0 (Wd.le.refl W0) o0 .nil
  obtain ⟨W1, ev1, st1, o1, e1, h5⟩ := h4
  obtain ⟨W, st, as, bs, o, a1, a2, q⟩ := h5 [] H W1 (Wd.le.refl W1) o1 .nil
  exact call_core (us := []) (ws := []) F hc hr tk hb hd I .nil .nil o a1 a2 q
end
end Sim
end

section
/-! Sim 5: what a loop walks, targets, statements, comprehensions. -/
namespace Sim
open PySem PySem.Spec PyProof.Rows L2 RZ

/-! ### what is walked -/
inductive Src where
  | seq (v : Vl) | ints (lo : Int) (n : Nat) | zip (a b : Vl) | enum (v : Vl)
/-- the i-th item: none: no rule; some none: the end -/
def Src.item (i : Nat) (st : Store) : Src → Option (Option D)
  | .seq v => (seqV st v).map fun xs => xs[i]?
  | .ints lo n => some (if i < n then some (.int (lo + i)) else none)
  | .zip a b => match listV st a, listV st b with
    | some xs, some ys => some (match xs[i]?, ys[i]? with | some x, some y => some (.tup [x, y]) | _, _ => none)
    | _, _ => match tupV a, tupV b with
      | some xs, some ys => some (match xs[i]?, ys[i]? with | some x, some y => some (.tup [x, y]) | _, _ => none)
      | _, _ => none
  | .enum v => (listV st v).map fun xs => (xs[i]?).map fun x => .tup [.int (i : Nat), x]
/-- the iterator J does what src tells, in every world from W on -/
def TurnR (C : Cn) (W' : Wd) (H : Hp) (st : Store) (J : It) (i : Nat) : Option (Option D) → Prop
  | none => True
  | some none => J.stop i H
  | some (some d) => J.go i H ∧ ∀ x H', J.yld i H x H' → ∃ W2, W'.le W2 ∧ WOk C W2 H' st ∧ RelD C W2.G x d
def SrcR (C : Cn) (W : Wd) (J : It) (src : Src) : Prop := ∀ W' H st, W.le W' → WOk C W' H st → ∀ i, TurnR C W' H st J i (src.item i st)
theorem SrcR.mono {C : Cn} {W W' : Wd} {J : It} {src : Src} (l : W.le W') (h : SrcR C W J src) : SrcR C W' J src := fun W2 H st l2 => h W2 H st (l.trans l2)
section
variable {C : Cn} {W : Wd} {H : Hp} {st : Store}
theorem RelDs.none {G : Hp} {vs : List V} {ds : List D} {i : Nat} (r : RelDs C G vs ds) (e : ds[i]? = none) : vs.length ≤ i := by
  rw [r.length]
  exact List.getElem?_eq_none_iff.mp e
theorem src_list {a : Addr} {v : Vl} (r : RelV' C W (.ref a) v) (hl : ∃ xs, listV st v = some xs) (o : WOk C W H st) : SrcR C W (Itl C.K a) (.seq v) := by
  intro W' H' st' l o' i
  show TurnR _ _ _ _ _ _ ((seqV st' v).map fun xs => xs[i]?)
  cases q : listV st' v with
  | some xs =>
    have e : seqV st' v = some xs := by unfold seqV; rw [q]; rfl
    rw [e]
    obtain ⟨a', vs, ea, hv, rv⟩ := listV_ok o' (r.mono l) q
    cases ea
    show TurnR _ _ _ _ _ _ (some xs[i]?)
    cases z : xs[i]? with
    | none => exact ⟨vs, hv, rv.none z⟩
    | some d =>
      obtain ⟨x, hx, rx⟩ := rv.get z
      refine ⟨⟨vs, x, hv, hx⟩, fun y H2 ⟨e1, e2⟩ => ?_⟩
      subst e1
      have e3 := e2 vs hv
      rw [hx] at e3
      cases e3
      exact ⟨W', Wd.le.refl W', o', rx⟩
  | none =>
    have e : seqV st' v = none := by
      unfold seqV
      rw [q]
      cases v with
      | c k => rfl
      | p d => cases d <;> first | rfl | (obtain ⟨xs, hx⟩ := hl; simp [listV] at hx)
    rw [e]
    trivial
theorem src_tup {a : Addr} {v : Vl} (r : RelV' C W (.ref a) v) (hl : ∃ xs, tupV v = some xs) (o : WOk C W H st) : SrcR C W (Itt C.K a) (.seq v) := by
  intro W' H' st' l o' i
  obtain ⟨xs, hx⟩ := hl
  cases v with
  | c k => cases hx
  | p d =>
    cases d <;> simp only [tupV] at hx <;> cases hx
    obtain ⟨a', vs, ea, hv, rv⟩ := tupV_ok (ds := xs) o' (r.mono l) rfl
    cases ea
    show TurnR _ _ _ _ _ _ (some xs[i]?)
    cases z : xs[i]? with
    | none => exact ⟨vs, hv, rv.none z⟩
    | some d =>
      obtain ⟨x, hx, rx⟩ := rv.get z
      refine ⟨⟨vs, x, hv, hx⟩, fun y H2 ⟨e1, e2⟩ => ?_⟩
      subst e1
      have e3 := e2 vs hv
      rw [hx] at e3
      cases e3
      exact ⟨W', Wd.le.refl W', o', rx⟩
theorem src_ints {W : Wd} (lo : Int) (n : Nat) : SrcR C W (Itr lo n) (.ints lo n) := by
  intro W' H' st' l o' i
  show TurnR _ _ _ _ _ _ (some (if i < n then some (D.int (lo + i)) else none))
  by_cases hi : i < n
  · rw [if_pos hi]
    refine ⟨hi, fun x H2 ⟨e1, e2⟩ => ?_⟩
    subst e1 e2
    exact ⟨W', Wd.le.refl W', o', .int _⟩
  · rw [if_neg hi]
    exact Nat.le_of_not_lt hi
theorem src_enum {a : Addr} {v : Vl} (r : RelV' C W (.ref a) v) : SrcR C W (Ite C.K a) (.enum v) := by
  intro W' H' st' l o' i
  show TurnR _ _ _ _ _ _ ((listV st' v).map fun xs => (xs[i]?).map fun x => D.tup [.int (i : Nat), x])
  cases q : listV st' v with
  | none => trivial
  | some xs =>
    obtain ⟨a', vs, ea, hv, rv⟩ := listV_ok o' (r.mono l) q
    cases ea
    show TurnR _ _ _ _ _ _ (some ((xs[i]?).map fun x => D.tup [.int (i : Nat), x]))
    cases z : xs[i]? with
    | none => exact ⟨vs, hv, rv.none z⟩
    | some d =>
      obtain ⟨x, hx, rx⟩ := rv.get z
      refine ⟨⟨vs, x, hv, hx⟩, fun y H2 ⟨T, u, e0, hT, e1, e2⟩ => ?_⟩
      subst e0 e1
      have e3 := e2 vs hv
      rw [hx] at e3
      cases e3
      obtain ⟨l2, o2⟩ := o'.grow (u := .tup [.int (i : Nat), x]) hT
      exact ⟨_, l2, o2, .tup (.inl upd_same) (.cons (.int _) (.cons (rx.mono l2.g) .nil))⟩
theorem src_zipL {a b : Addr} {v u : Vl} (r : RelV' C W (.ref a) v) (r2 : RelV' C W (.ref b) u) (hl : tupV v = none ∨ tupV u = none) : SrcR C W (Itz C.K a b) (.zip v u) := by
  intro W' H' st' l o' i
  simp only [Src.item]
  split
  · rename_i xs ys q1 q2
    obtain ⟨_, vs, ea, hv, rv⟩ := listV_ok o' (r.mono l) q1
    obtain ⟨_, ws, eb, hw, rw'⟩ := listV_ok o' (r2.mono l) q2
    cases ea
    cases eb
    cases z1 : xs[i]? with
    | none => exact ⟨vs, ws, hv, hw, .inl (rv.none z1)⟩
    | some d1 => cases z2 : ys[i]? with
      | none => exact ⟨vs, ws, hv, hw, .inr (rw'.none z2)⟩
      | some d2 =>
        obtain ⟨x, hx, rx⟩ := rv.get z1
        obtain ⟨y, hy, ry⟩ := rw'.get z2
        refine ⟨⟨vs, ws, x, y, hv, hw, hx, hy⟩, fun t H2 ⟨T, x', y', e0, hT, e1, e2, e3⟩ => ?_⟩
        subst e0 e1
        have e4 := e2 vs hv
        rw [hx] at e4
        cases e4
        have e5 := e3 ws hw
        rw [hy] at e5
        cases e5
        obtain ⟨l2, o2⟩ := o'.grow (u := .tup [x, y]) hT
        exact ⟨_, l2, o2, .tup (.inl upd_same) (.cons (rx.mono l2.g) (.cons (ry.mono l2.g) .nil))⟩
  · split
    · rename_i q1 q2
      rcases hl with z | z
      · rw [q1] at z; cases z
      · rw [q2] at z; cases z
    · trivial
theorem src_zipT {a b : Addr} {xs ys : List D} (r : RelV' C W (.ref a) (.p (.tup xs))) (r2 : RelV' C W (.ref b) (.p (.tup ys))) : SrcR C W (ItzT C.K a b) (.zip (.p (.tup xs)) (.p (.tup ys))) := by
  intro W' H' st' l o' i
  obtain ⟨_, vs, ea, hv, rv⟩ := tupV_ok (ds := xs) o' (r.mono l) rfl
  obtain ⟨_, ws, eb, hw, rw'⟩ := tupV_ok (ds := ys) o' (r2.mono l) rfl
  cases ea
  cases eb
  show TurnR _ _ _ _ _ _ (some (match xs[i]?, ys[i]? with | some x, some y => some (D.tup [x, y]) | _, _ => none))
  cases z1 : xs[i]? with
  | none => exact ⟨vs, ws, hv, hw, .inl (rv.none z1)⟩
  | some d1 => cases z2 : ys[i]? with
    | none => exact ⟨vs, ws, hv, hw, .inr (rw'.none z2)⟩
    | some d2 =>
      obtain ⟨x, hx, rx⟩ := rv.get z1
      obtain ⟨y, hy, ry⟩ := rw'.get z2
      refine ⟨⟨vs, ws, x, y, hv, hw, hx, hy⟩, fun t H2 ⟨T, x', y', e0, hT, e1, e2, e3⟩ => ?_⟩
      subst e0 e1
      have e4 := e2 vs hv
      rw [hx] at e4
      cases e4
      have e5 := e3 ws hw
      rw [hy] at e5
      cases e5
      obtain ⟨l2, o2⟩ := o'.grow (u := .tup [x, y]) hT
      exact ⟨_, l2, o2, .tup (.inl upd_same) (.cons (rx.mono l2.g) (.cons (ry.mono l2.g) .nil))⟩
end
abbrev MI := Ev → M Src
abbrev relS (C : Cn) : Wd → It → Src → Prop := fun W J s => SrcR C W J s
abbrev SI (X : Cx) (Wx : WX) (tg e : Expr) (m : MI) : Prop := PI X tg e (Lift (cn X) (relS (cn X)) Wx m)
theorem PI.imp {X : Cx} {tg e : Expr} {t t' : TI} (h : PI X tg e t) (i : ∀ σ H Q, t' σ H Q → t σ H Q) : PI X tg e t' := ⟨fun pins s σ H Q I q => h.run pins s σ H Q I (i _ _ _ q)⟩
end Sim
end

section
/-! Sim 6: walked things in the text, targets, statements, loops, comprehensions. -/
namespace Sim
open PySem PySem.Spec PyProof.Rows L2 RZ

def iSeq (m : ME) : MI := fun ev => (m ev).bind fun v st => match seqV st v with
  | some _ => .ok (.seq v) st
  | none => .stuck
def srcR1 (vs : List Vl) : M Src := fun st => match vs with
  | [.p (.int j)] => if -(2 ^ 62) ≤ j ∧ j < 2 ^ 62 then .ok (.ints 0 j.toNat) st else .stuck
  | _ => .stuck
def iRng1 (m : MA) : MI := fun ev => (m ev).bind srcR1
def srcR2 (vs : List Vl) : M Src := fun st => match vs with
  | [.p (.int i), .p (.int j)] => if -(2 ^ 62) ≤ i ∧ i < 2 ^ 62 ∧ -(2 ^ 62) ≤ j ∧ j < 2 ^ 62 then .ok (.ints i (j - i).toNat) st else .stuck
  | _ => .stuck
def iRng2 (m : MA) : MI := fun ev => (m ev).bind srcR2
def srcE (vs : List Vl) : M Src := fun st => match vs with
  | [v] => (match listV st v with | some _ => .ok (.enum v) st | none => .stuck)
  | _ => .stuck
def iEnum (m : MA) : MI := fun ev => (m ev).bind srcE
def srcZ (vs : List Vl) : M Src := fun st => match vs with
  | [v, u] => (match listV st v, listV st u with
    | some _, some _ => .ok (.zip v u) st
    | _, _ => match v, u with
      | .p (.tup xs), .p (.tup ys) => .ok (.zip (.p (.tup xs)) (.p (.tup ys))) st
      | _, _ => .stuck)
  | _ => .stuck
def iZip (m : MA) : MI := fun ev => (m ev).bind srcZ
theorem listV_tup {st : Store} {v : Vl} {xs : List D} (h : listV st v = some xs) : tupV v = none := by
  cases v with
  | c k => rfl
  | p d => cases d <;> first | rfl | cases h
section
variable {X : Cx} {Wx : WX} {tg e e2 : Expr} {m : ME} {ma : MA} {p pos tpos : Pos} {elts : List Expr} {kk : Nat}
theorem si_seq (he : SE X Wx e m) : SI X Wx tg e (iSeq m) := by
  refine ⟨fun pins s σ H R I h => ?_⟩
  have h2 : LE (cn X) Wx m σ H fun x H1 => ∃ a, x = .ref a ∧ ((∃ xs, SqL X.K H1 a xs) ∧ R (Itl X.K a) H1 ∨ (∃ xs, SqT X.K H1 a xs) ∧ R (Itt X.K a) H1) := lift1 h fun x H1 v W st ev o ee r q => by
    have q : Fin (cn X) (relS (cn X)) W σ Wx R (match seqV st v with | some _ => .ok (.seq v) st | none => .stuck) := q
    cases z : seqV st v with
    | none => rw [z] at q; exact q.elim
    | some xs =>
      rw [z] at q
      cases z1 : listV st v with
      | some ys =>
        obtain ⟨a, vs, rfl, hv, rv⟩ := listV_ok o r z1
        exact ⟨a, rfl, .inl ⟨⟨vs, hv⟩, q _ H1 W (Wd.le.refl W) o (src_list r ⟨ys, z1⟩ o)⟩⟩
      | none =>
        have z2 : tupV v = some xs := by unfold seqV at z; rw [z1] at z; simpa using z
        obtain ⟨a, vs, rfl, hv, rv⟩ := tupV_ok o r z2
        exact ⟨a, rfl, .inr ⟨⟨vs, hv⟩, q _ H1 W (Wd.le.refl W) o (src_tup r ⟨xs, z2⟩ o)⟩⟩
  refine thn (he.run pins s σ H _ I h2) fun u s1 ⟨x, H1, I1, r1, a, ea, q⟩ => ?_
  subst ea
  cases r1
  have fresh : ∀ b ∈ [s1.heap.objs.size], FpOk X pins H1 b := fun b hb => by
    have eb : b = s1.heap.objs.size := by simpa using hb
    rw [eb]
    exact I1.fpOk (Nat.le_refl _) (I1.hok.fresh (Nat.le_refl _))
  rcases q with ⟨⟨xs, hq⟩, q⟩ | ⟨⟨xs, hq⟩, q⟩
  · obtain ⟨its, rv, pl, _⟩ := I1.list hq
    exact wpAny_pyIter_list pl.isList ⟨_, [s1.heap.objs.size], _, _, H1, rfl, I1.kept (t' := s1.toks) fun b o z => Heap.get?_push_of_some _ z, turn_list a _, ⟨_, Heap.get?_push_size _ rfl, rfl, rfl⟩, fresh, q⟩
  · obtain ⟨its, rv, pl, _⟩ := I1.tuple hq
    exact wpAny_pyIter_tuple (show s1.heap.IsTuple a its.toArray from pl) ⟨_, [s1.heap.objs.size], _, _, H1, rfl, I1.kept (t' := s1.toks) fun b o z => Heap.get?_push_of_some _ z, turn_tuple a _, ⟨_, Heap.get?_push_size _ rfl, rfl, rfl⟩, fresh, q⟩
theorem rel1 {C : Cn} {W : Wd} {xs : List V} {v : Vl} (r : RelVs C W xs [v]) : ∃ x, xs = [x] ∧ RelV' C W x v := by
  cases r with
  | cons h r => cases r; exact ⟨_, rfl, h⟩
theorem rel2 {C : Cn} {W : Wd} {xs : List V} {v u : Vl} (r : RelVs C W xs [v, u]) : ∃ x y, xs = [x, y] ∧ RelV' C W x v ∧ RelV' C W y u := by
  cases r with
  | cons h r => obtain ⟨y, rfl, h2⟩ := rel1 r; exact ⟨_, _, rfl, h, h2⟩
theorem si_range1 (hm : X.mg "range" = none) (ha : SA X Wx [e] ma) (hg : Gl X "range" := by rfl) (hs : starEach [e] X.env = [(false, eval e X.env)] := by rfl) : SI X Wx tg (.Call (.Name "range" p) [e] [] pos) (iRng1 ma) :=
  PI.imp (pi_range1 hg hm ha hs) fun σ H R h => lift1 h fun xs H1 vs W st ev o ee r q => by
    replace q : Fin (cn X) (relS (cn X)) W σ Wx R (srcR1 vs st) := q
    unfold srcR1 at q
    split at q
    · rename_i j
      obtain ⟨x, rfl, h1⟩ := rel1 r
      cases rel_int h1
      split at q
      · rename_i hj
        exact ⟨j, rfl, hj.1, hj.2, q _ H1 W (Wd.le.refl W) o (src_ints _ _)⟩
      · exact q.elim
    · exact q.elim
theorem si_range2 (hm : X.mg "range" = none) (ha : SA X Wx [e, e2] ma) (hg : Gl X "range" := by rfl) (hs : starEach [e, e2] X.env = [(false, eval e X.env), (false, eval e2 X.env)] := by rfl) (hs2 : starEach [e2] X.env = [(false, eval e2 X.env)] := by rfl) : SI X Wx tg (.Call (.Name "range" p) [e, e2] [] pos) (iRng2 ma) :=
  PI.imp (pi_range2 hg hm ha hs hs2) fun σ H R h => lift1 h fun xs H1 vs W st ev o ee r q => by
    replace q : Fin (cn X) (relS (cn X)) W σ Wx R (srcR2 vs st) := q
    unfold srcR2 at q
    split at q
    · rename_i i j
      obtain ⟨x, y, rfl, h1, h2⟩ := rel2 r
      cases rel_int h1
      cases rel_int h2
      split at q
      · rename_i hj
        exact ⟨i, j, rfl, hj, q _ H1 W (Wd.le.refl W) o (src_ints _ _)⟩
      · exact q.elim
    · exact q.elim
theorem si_enum (hm : X.mg "enumerate" = none) (ha : SA X Wx [e] ma) (hg : Gl X "enumerate" := by rfl) (hs : starEach [e] X.env = [(false, eval e X.env)] := by rfl) : SI X Wx (.Tuple elts kk tpos) (.Call (.Name "enumerate" p) [e] [] pos) (iEnum ma) :=
  PI.imp (pi_enum hg hm ha hs) fun σ H R h => lift1 h fun xs H1 vs W st ev o ee r q => by
    replace q : Fin (cn X) (relS (cn X)) W σ Wx R (srcE vs st) := q
    unfold srcE at q
    split at q
    · rename_i v
      obtain ⟨x, rfl, h1⟩ := rel1 r
      split at q
      · rename_i ys z
        obtain ⟨a, ws, rfl, hv, rv⟩ := listV_ok o h1 z
        exact ⟨a, ws, rfl, hv, q _ H1 W (Wd.le.refl W) o (src_enum h1)⟩
      · exact q.elim
    · exact q.elim
theorem si_zip (hm : X.mg "zip" = none) (ha : SA X Wx [e, e2] ma) (hg : Gl X "zip" := by rfl) (hs : starEach [e, e2] X.env = (false, eval e X.env) :: starEach [e2] X.env := by rfl) (hpl : (backTo pos (starEach [e2] X.env)).any (·.1) = false := by rfl) :
    SI X Wx (.Tuple elts kk tpos) (.Call (.Name "zip" p) [e, e2] [] pos) (iZip ma) :=
  PI.imp (pi_zipA hg hm ha hs hpl) fun σ H R h => lift1 h fun xs H1 vs W st ev o ee r q => by
    replace q : Fin (cn X) (relS (cn X)) W σ Wx R (srcZ vs st) := q
    unfold srcZ at q
    split at q
    · rename_i v u
      obtain ⟨x, y, rfl, h1, h2⟩ := rel2 r
      split at q
      · rename_i z1 z2
        obtain ⟨a, ws, rfl, hv, rv⟩ := listV_ok o h1 z1
        obtain ⟨b, zs, rfl, hw, rw'⟩ := listV_ok o h2 z2
        exact ⟨a, b, ws, zs, rfl, .inl ⟨hv, hw, q _ H1 W (Wd.le.refl W) o (src_zipL h1 h2 (.inl (listV_tup z1)))⟩⟩
      · split at q
        · rename_i xs ys _
          obtain ⟨a, ws, rfl, hv, rv⟩ := tupV_ok (ds := xs) o h1 rfl
          obtain ⟨b, zs, rfl, hw, rw'⟩ := tupV_ok (ds := ys) o h2 rfl
          exact ⟨a, b, ws, zs, rfl, .inr ⟨hv, hw, q _ H1 W (Wd.le.refl W) o (src_zipT h1 h2)⟩⟩
        · exact q.elim
    · exact q.elim
end

/-! ### targets -/
inductive Tgt where
  | nm (i : Nat) | tp (ts : List Tgt)
mutual
def Tgt.put : Tgt → D → Ev → Option Ev
  | .nm i, d, ev => some (ev.set i (some (.p d)))
  | .tp ts, d, ev => match d with
    | .tup ds => Tgt.puts ts ds ev
    | _ => none
def Tgt.puts : List Tgt → List D → Ev → Option Ev
  | [], [], ev => some ev
  | t :: ts, d :: ds, ev => match Tgt.put t d ev with
    | some ev1 => Tgt.puts ts ds ev1
    | none => none
  | _, _, _ => none
end
mutual
def gOf (K : PySem.W.Frag) : Tgt → TG
  | .nm i => gName i
  | .tp ts => L2.gTup K ts.length (gsOf K ts)
def gsOf (K : PySem.W.Frag) : List Tgt → TGs
  | [] => gNil
  | t :: ts => gCons (gOf K t) (gsOf K ts)
end
mutual
def Tgt.ixs : Tgt → List Nat
  | .nm i => [i]
  | .tp ts => Tgt.ixss ts
def Tgt.ixss : List Tgt → List Nat
  | [] => []
  | t :: ts => Tgt.ixs t ++ Tgt.ixss ts
end
theorem wipe_set_out {σ : Sg} {i : Nat} {x : Option V} : ∀ {vs : List Nat}, i ∉ vs → wipe (σ.set i x) vs = (wipe σ vs).set i x
  | [], _ => rfl
  | v :: vs, h => by
    have h1 : i ≠ v := fun e => h (e ▸ List.mem_cons_self)
    show (wipe (σ.set i x) vs).set v none = ((wipe σ vs).set v none).set i x
    rw [wipe_set_out fun z => h (List.mem_cons_of_mem _ z), List.set_comm _ _ h1]
theorem wipe_set_in {σ : Sg} {i : Nat} {x : Option V} : ∀ {vs : List Nat}, i ∈ vs → wipe (σ.set i x) vs = wipe σ vs
  | [], h => by cases h
  | v :: vs, h => by
    show (wipe (σ.set i x) vs).set v none = (wipe σ vs).set v none
    by_cases hi : i ∈ vs
    · rw [wipe_set_in hi]
    · have e : i = v := (List.mem_cons.mp h).resolve_right hi
      subst e
      rw [wipe_set_out hi, List.set_set]
mutual
theorem gOf_ok {C : Cn} {W : Wd} {H : Hp} {st : Store} (o : WOk C W H st) : ∀ {t : Tgt} {v : V} {d : D} {σ : Sg} {ev ev' : Ev} {Q : Sg → Hp → Prop}, EvR C W σ ev → RelD C W.G v d → t.put d ev = some ev' →
    (∀ σ', EvR C W σ' ev' → (∀ vs, (∀ i ∈ t.ixs, i ∈ vs) → wipe σ' vs = wipe σ vs) → Q σ' H) → gOf C.K t v σ H Q
  | .nm i, v, d, σ, ev, ev', Q, e, r, h, k => by
    simp only [Tgt.put] at h
    cases h
    simp only [gOf]
    exact k _ (e.set (.p r)) fun vs hv => wipe_set_in (hv i (by simp [Tgt.ixs]))
  | .tp ts, v, d, σ, ev, ev', Q, e, r, h, k => by
    cases d with
    | tup ds =>
      cases r with
      | tup ht rd =>
        rename_i a us
        simp only [Tgt.put] at h
        simp only [gOf]
        have hl : ∀ {ts : List Tgt} {ds : List D} {ev ev' : Ev}, Tgt.puts ts ds ev = some ev' → ds.length = ts.length := by
          intro ts
          induction ts with
          | nil => intro ds ev ev' h; cases ds with
            | nil => rfl
            | cons _ _ => simp [Tgt.puts] at h
          | cons t ts ih => intro ds ev ev' h; cases ds with
            | nil => simp [Tgt.puts] at h
            | cons d ds =>
              simp only [Tgt.puts] at h
              split at h
              · exact congrArg (· + 1) (ih h)
              · cases h
        exact ⟨a, us, rfl, (ht.mono o.same).sq, by rw [rd.length, hl h], gsOf_ok o e rd h fun σ' e' w => k σ' e' fun vs hv => w vs (by simpa [Tgt.ixs] using hv)⟩
    | _ => simp [Tgt.put] at h
theorem gsOf_ok {C : Cn} {W : Wd} {H : Hp} {st : Store} (o : WOk C W H st) : ∀ {ts : List Tgt} {us : List V} {ds : List D} {σ : Sg} {ev ev' : Ev} {Q : Sg → Hp → Prop}, EvR C W σ ev → RelDs C W.G us ds → Tgt.puts ts ds ev = some ev' →
    (∀ σ', EvR C W σ' ev' → (∀ vs, (∀ i ∈ Tgt.ixss ts, i ∈ vs) → wipe σ' vs = wipe σ vs) → Q σ' H) → gsOf C.K ts us σ H Q
  | [], us, ds, σ, ev, ev', Q, e, r, h, k => by
    cases ds with
    | cons _ _ => simp [Tgt.puts] at h
    | nil =>
      cases r
      simp only [Tgt.puts] at h
      cases h
      simp only [gsOf]
      exact ⟨rfl, k σ e fun _ _ => rfl⟩
  | t :: ts, us, ds, σ, ev, ev', Q, e, r, h, k => by
    cases ds with
    | nil => simp [Tgt.puts] at h
    | cons d ds =>
      cases r with
      | cons r1 r2 =>
        simp only [Tgt.puts] at h
        split at h
        · rename_i ev1 h1
          simp only [gsOf]
          exact ⟨_, _, rfl, gOf_ok o e r1 h1 fun σ1 e1 w1 => gsOf_ok o e1 r2 h fun σ2 e2 w2 => k σ2 e2 fun vs hv => (w2 vs fun i hi => hv i (by simp only [Tgt.ixss]; exact List.mem_append_right _ hi)).trans (w1 vs fun i hi => hv i (by simp only [Tgt.ixss]; exact List.mem_append_left _ hi))⟩
        · cases h
end
abbrev SG (X : Cx) (tg : Expr) (t : Tgt) : Prop := PG X tg (gOf X.K t)
abbrev SGs (X : Cx) (tg : List Expr) (t : List Tgt) : Prop := PGs X tg (gsOf X.K t)
section
variable {X : Cx} {pos : Pos}
theorem sg_nm (i : Nat) {x : Str} (hN : X.N.Nodup) (hi : X.N[i]? = some x := by rfl) (hx : Loc X.env.scope x := by first | exact Or.inl rfl | exact Or.inr rfl) (hf : X.fn x = true ∨ X.env.scope.names.lookup x = some .local := by first | exact .inl rfl | exact .inr rfl | assumption) : SG X (.Name x pos) (.nm i) := by
  show PG X _ (gOf X.K (.nm i))
  simp only [gOf]
  exact pg_name hN hi hx hf
theorem sgs_nil : SGs X [] [] := by
  show PGs X [] (gsOf X.K [])
  simp only [gsOf]
  exact pgs_nil
theorem sgs_cons {e : Expr} {es : List Expr} {t : Tgt} {ts : List Tgt} (h1 : SG X e t) (h2 : SGs X es ts) (hs : (assignEach (e :: es) X.env).map (·.2) = assign e X.env :: (assignEach es X.env).map (·.2) := by rfl) : SGs X (e :: es) (t :: ts) := by
  show PGs X (e :: es) (gsOf X.K (t :: ts))
  simp only [gsOf]
  exact pgs_cons h1 h2 hs
theorem sg_tp {es : List Expr} {k : Nat} {ts : List Tgt} (hc : X.calm = true) (h : SGs X es ts) (hn : (assignEach es X.env).length = ts.length := by rfl) (hst : (assignEach es X.env).findIdx? (·.1) = none := by rfl) : SG X (.Tuple es k pos) (.tp ts) := by
  show PG X _ (gOf X.K (.tp ts))
  simp only [gOf]
  exact pg_tup hc h hn hst
end

/-! ### statements -/
@[irreducible] def FU : Nat := 1099511627776
theorem FU_big : 1099511627776 ≤ FU := by unfold FU; exact Nat.le_refl _
def sBind {α : Type} (m : Ev → M α) (f : α → MS) : MS := fun ev st => match m ev st with
  | .ok a st' => f a ev st'
  | .exn e st' => .ex e ev st'
  | .stuck => .stuck
def sPass : MS := fun ev st => .nx ev st
def sBk : MS := fun ev st => .bk ev st
def sCt : MS := fun ev st => .ct ev st
def sSeq (a b : MS) : MS := fun ev st => match a ev st with
  | .nx ev' st' => b ev' st'
  | r => r
def sAsg (i : Nat) (m : ME) : MS := sBind m fun v ev st => .nx (ev.set i (some v)) st
def sPar (i j : Nat) (m : MA) : MS := sBind m fun vs ev st => match vs with
  | [v, u] => .nx ((ev.set i (some v)).set j (some u)) st
  | _ => .stuck
def sPar3 (i j l : Nat) (m : MA) : MS := sBind m fun vs ev st => match vs with
  | [v, u, w] => .nx (((ev.set i (some v)).set j (some u)).set l (some w)) st
  | _ => .stuck
/-- a tuple unpacked -/
def sAsgT (t : Tgt) (m : ME) : MS := sBind m fun v ev st => match v with
  | .p d => (match t.put d ev with | some ev' => .nx ev' st | none => .stuck)
  | _ => .stuck
def sIf (t : MT) (a b : MS) : MS := sBind t fun k => if k = true then a else b
def sRet (m : ME) : MS := sBind m fun v _ st => .rt v st
def sRetN : MS := fun _ st => .rt (.p .non) st
def sExpr (m : ME) : MS := sBind m fun _ ev st => .nx ev st
/-- o[i] = e -/
def gSet (o i v : Vl) : O Unit := fun st => match o, i with
  | .c k, .p (.int j) => match st[k]? with
    | some (.lst xs) => match frz1 v st with
      | some (d, st1) => match ixN xs.length j with
        | some n => (match st1[k]? with | some (.lst ys) => some ((), st1.set k (.lst (ys.set n d))) | _ => none)
        | none => none
      | none => none
    | _ => none
  | _, _ => none
def sSet (mo mi mv : ME) : MS := sBind mv fun v => sBind mo fun o => sBind mi fun i => sBind (fun _ => M.of (gSet o i v)) fun _ => sPass
section
variable {X : Cx} {Wx : WX} {e : Expr} {m : ME} {ma : MA} {t : MT} {a b : MS} {st : Stmt} {rest sa sb : List Stmt} {pos pos' : Pos}
theorem ls_bind {α β : Type} {rel : Wd → β → α → Prop} {C : Cn} {ma : Ev → M α} {f : α → MS} {D : Ends} {σ : Sg} {H : Hp} {R : β → Hp → Prop} (h : LS C Wx (sBind ma f) D σ H)
    (k : ∀ b H1 a W st ev, WOk C W H1 st → EvR C W σ ev → rel W b a → FinS C W Wx D (f a ev st) → R b H1) : Lift C rel Wx ma σ H R := by
  obtain ⟨W, ev, st, o, e, h⟩ := lift_bindS (rel := rel) h
  exact ⟨W, ev, st, o, e, h.imp fun b H1 ⟨a, W1, st1, ev1, o1, e1, r1, q⟩ => k b H1 a W1 st1 ev1 o1 e1 r1 q⟩
theorem ls_bind2 {α β : Type} {rel : Wd → β → α → Prop} {C : Cn} {ma : Ev → M α} {f : α → MS} {D : Ends} {σ : Sg} {H : Hp} {R : β → Hp → Prop} {W : Wd} {st : Store} {ev : Ev} (o : WOk C W H st) (e : EvR C W σ ev) (h : FinS C W Wx D (sBind ma f ev st))
    (k : ∀ b H1 a W' st', W.le W' → WOk C W' H1 st' → rel W' b a → FinS C W' Wx D (f a ev st') → R b H1) : Lift C rel Wx ma σ H R := by
  refine ⟨W, ev, st, o, e, ?_⟩
  have h : FinS C W Wx D (match ma ev st with | .ok a st' => f a ev st' | .exn e st' => .ex e ev st' | .stuck => .stuck) := h
  cases q : ma ev st with
  | stuck => rw [q] at h; exact h
  | ok x st' => rw [q] at h; exact fun b H' W' l o' r => k b H' x W' st' l o' r (FinS.mono l h)
  | exn x st' => rw [q] at h; exact fun cls d H' W' l o' r => h cls d σ H' W' l o' (e.mono l) r
theorem ss_pass : SS X Wx (.Pass pos) sPass := PS.imp ps_pass fun D σ H ⟨W, ev, st, o, e, h⟩ => h σ H W (Wd.le.refl W) o e
theorem ss_break : SS X Wx (.Break pos) sBk := PS.imp ps_break fun D σ H ⟨W, ev, st, o, e, h⟩ => h σ H W (Wd.le.refl W) o e
theorem ss_continue : SS X Wx (.Continue pos) sCt := PS.imp ps_continue fun D σ H ⟨W, ev, st, o, e, h⟩ => h σ H W (Wd.le.refl W) o e
theorem ss_doc {x j pos pos'} : SS X Wx (.Expr (.Constant (.str x) j pos) pos') sPass := PS.imp ps_doc fun D σ H ⟨W, ev, st, o, e, h⟩ => h σ H W (Wd.le.refl W) o e
theorem sss_nil : SSs X Wx [] sPass := PSs.imp pss_nil fun D σ H ⟨W, ev, st, o, e, h⟩ => h σ H W (Wd.le.refl W) o e
theorem sss_one (h : SS X Wx st a) : SSs X Wx [st] a := pss_one h
theorem sss_cons (h1 : SS X Wx st a) (h2 : SSs X Wx rest b) : SSs X Wx (st :: rest) (sSeq a b) :=
  PSs.imp (pss_cons h1 h2) fun D σ H ⟨W, ev, st, o, e, h⟩ => by
    refine ⟨W, ev, st, o, e, ?_⟩
    have h : FinS (cn X) W Wx D (match a ev st with | .nx ev' st' => b ev' st' | r => r) := h
    cases q : a ev st with
    | nx ev' st' => rw [q] at h; exact fun σ' H' W' l o' e' => ⟨W', ev', st', o', e', FinS.mono l h⟩
    | stuck => rw [q] at h; exact h
    | rt _ _ => rw [q] at h; exact h
    | bk _ _ => rw [q] at h; exact h
    | ct _ _ => rw [q] at h; exact h
    | ex _ _ _ => rw [q] at h; exact h
theorem ss_set (i : Nat) {x : Str} (hN : X.N.Nodup) (he : SE X Wx e m) (hi : X.N[i]? = some x := by rfl) (hx : Loc X.env.scope x := by first | exact Or.inl rfl | exact Or.inr rfl) (hs : swapsWith e (some (.Name x pos')) pos.line X.env = pure false := by rfl) (hf : X.fn x = true ∨ X.env.scope.names.lookup x = some .local := by first | exact .inl rfl | exact .inr rfl | assumption) :
    SS X Wx (.Assign [.Name x pos'] e pos) (sAsg i m) :=
  PS.imp (ps_set hN hi hx he hs hf) fun D σ H h => ls_bind h fun x H1 v W st ev o ee r q => q _ H1 W (Wd.le.refl W) o (ee.set r)
theorem ss_ret (he : SE X Wx e m) : SS X Wx (.Return (some e) pos) (sRet m) := PS.imp (ps_ret he) fun D σ H h => ls_bind h fun x H1 v W st ev o ee r q => q x H1 W (Wd.le.refl W) o r
theorem ss_retN : SS X Wx (.Return none pos) sRetN := PS.imp ps_retN fun D σ H ⟨W, ev, st, o, e, h⟩ => h .non H W (Wd.le.refl W) o (.p .non)
theorem ss_expr (he : SE X Wx e m) (hs : swapsWith e none pos.line X.env = pure false := by rfl) : SS X Wx (.Expr e pos) (sExpr m) := PS.imp (ps_expr he hs) fun D σ H h => ls_bind h fun x H1 v W st ev o ee r q => q σ H1 W (Wd.le.refl W) o ee
theorem ss_if {c : Expr} (hc : STt X Wx c t) (ha : SSs X Wx sa a) (hb : SSs X Wx sb b) : SS X Wx (.If c sa sb pos) (sIf t a b) :=
  PS.imp (ps_if hc ha hb) fun D σ H h => ls_bind h fun x H1 v W st ev o ee r q => by
    have r' : x = v := r
    subst r'
    cases x with
    | true => exact iteT ⟨W, ev, st, o, ee, q⟩
    | false => exact iteF ⟨W, ev, st, o, ee, q⟩
theorem ss_par (i j : Nat) {x y : Str} {ea eb : Expr} {px py pt : Pos} {kt k2 pt2} (hc : X.calm = true) (hN : X.N.Nodup) (ha : SA X Wx [ea, eb] ma) (hij : i ≠ j := by decide) (hi : X.N[i]? = some x := by rfl) (hj : X.N[j]? = some y := by rfl)
    (hx : X.env.scope.names.lookup x = some .local := by rfl) (hy : X.env.scope.names.lookup y = some .local := by rfl) (hw : swappedStores [.Tuple [.Name x px, .Name y py] kt pt] (.Tuple [ea, eb] k2 pt2) X.env = pure (some [x, y]) := by rfl)
    (hs : swapsWithSole [.Tuple [.Name x px, .Name y py] kt pt] (.Tuple [ea, eb] k2 pt2) pos.line X.env = pure false := by rfl) : SS X Wx (.Assign [.Tuple [.Name x px, .Name y py] kt pt] (.Tuple [ea, eb] k2 pt2) pos) (sPar i j ma) :=
  PS.imp (ps_par hc hN hi hj hij hx hy ha hw hs) fun D σ H h => ls_bind h fun xs H1 vs W st ev o ee r q => by
    match vs, r, q with
    | [v, u], r, q =>
      obtain ⟨x, y, rfl, h1, h2⟩ := rel2 r
      exact ⟨x, y, rfl, q _ H1 W (Wd.le.refl W) o ((ee.set h1).set h2)⟩
    | [], _, q => exact q.elim
    | [_], _, q => exact q.elim
    | _ :: _ :: _ :: _, _, q => exact q.elim
theorem ss_par3 (i j l : Nat) {x y z : Str} {ea eb ec : Expr} {px py pz pt : Pos} {kt k2 pt2} (hc : X.calm = true) (hN : X.N.Nodup) (ha : SA X Wx [ea, eb, ec] ma) (hij : i ≠ j := by decide) (hil : i ≠ l := by decide) (hjl : j ≠ l := by decide) (hi : X.N[i]? = some x := by rfl) (hj : X.N[j]? = some y := by rfl) (hl : X.N[l]? = some z := by rfl)
    (hx : X.env.scope.names.lookup x = some .local := by rfl) (hy : X.env.scope.names.lookup y = some .local := by rfl) (hz : X.env.scope.names.lookup z = some .local := by rfl) (hw : swappedStores [.Tuple [.Name x px, .Name y py, .Name z pz] kt pt] (.Tuple [ea, eb, ec] k2 pt2) X.env = pure (some [x, y, z]) := by rfl)
    (hs : swapsWithSole [.Tuple [.Name x px, .Name y py, .Name z pz] kt pt] (.Tuple [ea, eb, ec] k2 pt2) pos.line X.env = pure false := by rfl) : SS X Wx (.Assign [.Tuple [.Name x px, .Name y py, .Name z pz] kt pt] (.Tuple [ea, eb, ec] k2 pt2) pos) (sPar3 i j l ma) :=
  PS.imp (ps_par3 hc hN hi hj hl hij hil hjl hx hy hz ha hw hs) fun D σ H h => ls_bind h fun xs H1 vs W st ev o ee r q => by
    match vs, r, q with
    | [v, u, w], r, q =>
      cases r with
      | cons h0 r =>
        obtain ⟨x, y, rfl, h1, h2⟩ := rel2 r
        exact ⟨_, x, y, rfl, q _ H1 W (Wd.le.refl W) o (((ee.set h0).set h1).set h2)⟩
    | [], _, q => exact q.elim
    | [_], _, q => exact q.elim
    | [_, _], _, q => exact q.elim
    | _ :: _ :: _ :: _ :: _, _, q => exact q.elim
theorem ss_asgT {tg : Expr} {t : Tgt} (he : SE X Wx e m) (hg : SG X tg t) (hs : swapsWithSole [tg] e pos.line X.env = pure false := by rfl) (hw : swappedStores [tg] e X.env = pure none := by rfl)
    (h1 : (assignEach [tg] X.env).map (·.2) = [assign tg X.env] := by rfl) : SS X Wx (.Assign [tg] e pos) (sAsgT t m) :=
  PS.imp (ps_asg he hg hs hw h1) fun D σ H h => ls_bind h fun x H1 v W st ev o ee r q => by
    cases v with
    | c k => exact q.elim
    | p d =>
      have q : FinS (cn X) W Wx D (match t.put d ev with | some ev' => .nx ev' st | none => .stuck) := q
      cases z : t.put d ev with
      | none => rw [z] at q; exact q.elim
      | some ev' =>
        rw [z] at q
        cases r with
        | p r => exact gOf_ok o ee r z fun σ' e' _ => q σ' H1 W (Wd.le.refl W) o e'
theorem gSet_ok {C : Cn} {W : Wd} {H : Hp} {st : Store} {o i v : Vl} {x y z : V} (ok : WOk C W H st) (ro : RelV' C W x o) (ri : RelV' C W y i) (rv : RelV' C W z v) {Q : Hp → Prop} (h : FinO C (fun _ (_ : Unit) (_ : Unit) => True) W (fun _ H' => Q H') (gSet o i v st)) : rSetL x y z H Q := by
  unfold gSet at h
  split at h
  · rename_i k j
    cases rel_int ri
    split at h
    · rename_i xs hc
      split at h
      · rename_i d st1 hf
        split at h
        · rename_i n hn
          split at h
          · rename_i ys hc1
            obtain ⟨W1, l1, o1, rd⟩ := frz1_ok ok rv hf
            obtain ⟨a, rfl, ha, hg, vs, hv, rr⟩ := cell_of ok ro hc
            obtain ⟨a', ea, ha', hg', vs', hv', rr'⟩ := cell_of o1 (ro.mono l1) hc1
            cases ea
            have e1 : vs = vs' := by rw [hv] at hv'; cases hv'; rfl
            subst e1
            refine ⟨a, vs, j, n, rfl, rfl, hv, by rw [rr.length]; exact hn, ?_⟩
            exact h () _ W1 l1 (o1.write ha' hg' ⟨hg', _, upd_same, rr'.set rd n⟩) trivial
          · exact h.elim
        · exact h.elim
      · exact h.elim
    · exact h.elim
  · exact h.elim
theorem ss_setI {eo ei ev : Expr} {mo mi mv : ME} {sp : Pos} (ho : SE X Wx eo mo) (hi : SE X Wx ei mi) (hv : SE X Wx ev mv) (hs : swapsWithSole [.Subscript eo ei sp] ev pos.line X.env = pure false := by rfl) (hw : swappedStores [.Subscript eo ei sp] ev X.env = pure none := by rfl)
    (h1 : (assignEach [.Subscript eo ei sp] X.env).map (·.2) = [assign (.Subscript eo ei sp) X.env] := by rfl)
    (ha : ∀ v, assign (.Subscript eo ei sp) X.env v = (do
      let ov ← holding [v] (eval eo X.env)
      let iv ← holding [v, ov] (eval ei X.env)
      standAt sp
      holding [v, ov, iv] (setItem ov iv v)
      release [v, ov, iv] []) := by intro _; rfl) : SS X Wx (.Assign [.Subscript eo ei sp] ev pos) (sSet mo mi mv) :=
  PS.imp (ps_asg hv (pg_sub ho hi set_list ha) hs hw h1) fun D σ H h => ls_bind h fun z H1 v W st en o ee r q =>
    ls_bind2 (rel := RelV' (cn X)) o ee q fun x H2 vo W2 st2 l2 o2 r2 q2 => ls_bind2 (rel := RelV' (cn X)) o2 (ee.mono l2) q2 fun y H3 vi W3 st3 l3 o3 r3 q3 => by
      refine gSet_ok o3 (r2.mono l3) r3 ((r.mono l2).mono l3) ?_
      cases zz : gSet vo vi v st3 with
      | none => simp only [sBind, M.of, zz] at q3; exact q3
      | some u =>
        obtain ⟨_, st4⟩ := u
        simp only [sBind, M.of, zz] at q3
        exact fun _ H' W' l' o' _ => q3 σ H' W' l' o' (((ee.mono l2).mono l3).mono l')
end

/-! ### loops -/
def forN (src : Src) (t : Tgt) (body : MS) : Nat → Nat → Ev → Store → RS
  | 0, _, _, _ => .stuck
  | f + 1, i, ev, st => match src.item i st with
    | none => .stuck
    | some none => .nx ev st
    | some (some d) => match t.put d ev with
      | none => .stuck
      | some ev1 => match body ev1 st with
        | .nx ev2 st2 => forN src t body f (i + 1) ev2 st2
        | .ct ev2 st2 => forN src t body f (i + 1) ev2 st2
        | .bk ev2 st2 => .nx ev2 st2
        | r => r
def sFor (mi : MI) (t : Tgt) (body : MS) : MS := sBind mi fun src ev st => forN src t body FU 0 ev st
def whN (c : MT) (body : MS) : Nat → Ev → Store → RS
  | 0, _, _ => .stuck
  | f + 1, ev, st => match c ev st with
    | .ok true st1 => (match body ev st1 with
      | .nx ev2 st2 => whN c body f ev2 st2
      | .ct ev2 st2 => whN c body f ev2 st2
      | .bk ev2 st2 => .nx ev2 st2
      | r => r)
    | .ok false st1 => .nx ev st1
    | .exn e st1 => .ex e ev st1
    | .stuck => .stuck
def sWhile (c : MT) (body : MS) : MS := fun ev st => whN c body FU ev st
section
variable {X : Cx} {Wx : WX} {iter tg c : Expr} {mi : MI} {t : Tgt} {body : MS} {mc : MT} {sb : List Stmt} {pos : Pos}
theorem ss_for (hp : PassesOwn (model X.prog X.w) X.A X.env X.xe) (hc : X.calm = true) (hi : SI X Wx tg iter mi) (hg : SG X tg t) (hb : SSs X Wx sb body) (hs : ∀ x, foldedSetIterable iter X.env x = pure x := by intro _; rfl) : SS X Wx (.For tg iter sb [] pos) (sFor mi t body) :=
  PS.imp (ps_for hp hc hi hg hb hs) fun D σ H h => ls_bind h fun J H1 src W0 st ev o ee r q => by
    refine ⟨fun i m σ H => ∃ W ev st, W0.le W ∧ WOk (cn X) W H st ∧ EvR (cn X) W σ ev ∧ FinS (cn X) W Wx D (forN src t body m i ev st), ⟨FU, W0, ev, st, Wd.le.refl W0, o, ee, q⟩, ?_⟩
    rintro i m σ H ⟨W, ev, st, l, o, ee, q⟩
    have sr := r W H st l o i
    cases m with
    | zero => exact q.elim
    | succ f =>
      have q : FinS (cn X) W Wx D (match src.item i st with
        | none => .stuck
        | some none => .nx ev st
        | some (some d) => match t.put d ev with
          | none => .stuck
          | some ev1 => match body ev1 st with
            | .nx ev2 st2 => forN src t body f (i + 1) ev2 st2
            | .ct ev2 st2 => forN src t body f (i + 1) ev2 st2
            | .bk ev2 st2 => .nx ev2 st2
            | r => r) := q
      cases z : src.item i st with
      | none => rw [z] at q; exact q.elim
      | some u =>
        cases u with
        | none =>
          rw [z] at q sr
          exact .inl ⟨sr, q σ H W (Wd.le.refl W) o ee⟩
        | some d =>
          rw [z] at q sr
          obtain ⟨go, yl⟩ := sr
          refine .inr ⟨go, fun σ H => ∃ W ev st, W0.le W ∧ WOk (cn X) W H st ∧ EvR (cn X) W σ ev ∧ FinS (cn X) W Wx D (forN src t body f (i + 1) ev st), fun σ' H' n => ⟨f, Nat.lt_succ_self f, n⟩, fun x H' y => ?_⟩
          obtain ⟨W2, l2, o2, rx⟩ := yl x H' y
          cases z2 : t.put d ev with
          | none => simp only [z2] at q; exact q.elim
          | some ev1 =>
            simp only [z2] at q
            refine gOf_ok o2 (ee.mono l2) rx z2 fun σ' e' _ => ⟨W2, ev1, st, o2, e', ?_⟩
            cases z3 : body ev1 st with
            | nx ev2 st2 => rw [z3] at q; exact fun σ'' H'' W' l' o' e'' => ⟨W', ev2, st2, (l.trans l2).trans l', o', e'', FinS.mono (l2.trans l') q⟩
            | ct ev2 st2 => rw [z3] at q; exact fun σ'' H'' W' l' o' e'' => ⟨W', ev2, st2, (l.trans l2).trans l', o', e'', FinS.mono (l2.trans l') q⟩
            | bk ev2 st2 => rw [z3] at q; exact fun σ'' H'' W' l' o' e'' => q σ'' H'' W' (l2.trans l') o' e''
            | stuck => rw [z3] at q; exact q.elim
            | rt v st2 => rw [z3] at q; exact fun x' H'' W' l' o' r' => q x' H'' W' (l2.trans l') o' r'
            | ex x' ev2 st2 => rw [z3] at q; exact fun cls d' σ'' H'' W' l' o' e'' r' => q cls d' σ'' H'' W' (l2.trans l') o' e'' r'
theorem ss_while (hp : PassesOwn (model X.prog X.w) X.A X.env X.xe) (hc : STt X Wx c mc) (hb : SSs X Wx sb body) : SS X Wx (.While c sb [] pos) (sWhile mc body) :=
  PS.imp (ps_while hp hc hb) fun D σ H ⟨W0, ev, st, o, ee, q⟩ => by
    refine ⟨fun m σ H => ∃ W ev st, WOk (cn X) W H st ∧ EvR (cn X) W σ ev ∧ FinS (cn X) W Wx D (whN mc body m ev st), ⟨FU, W0, ev, st, o, ee, q⟩, ?_⟩
    rintro m σ H ⟨W, ev, st, o, ee, q⟩
    cases m with
    | zero => exact q.elim
    | succ f =>
      refine ⟨W, ev, st, o, ee, ?_⟩
      have q : FinS (cn X) W Wx D (match mc ev st with
        | .ok true st1 => (match body ev st1 with
          | .nx ev2 st2 => whN mc body f ev2 st2
          | .ct ev2 st2 => whN mc body f ev2 st2
          | .bk ev2 st2 => .nx ev2 st2
          | r => r)
        | .ok false st1 => .nx ev st1
        | .exn e st1 => .ex e ev st1
        | .stuck => .stuck) := q
      cases z : mc ev st with
      | stuck => rw [z] at q; exact q
      | exn x st1 => rw [z] at q; exact fun cls d H' W' l o' r => q cls d σ H' W' l o' (ee.mono l) r
      | ok k st1 =>
        rw [z] at q
        intro b H1 W1 l1 o1 rb
        have rb' : b = k := rb
        subst rb'
        cases b with
        | false => exact iteF (q σ H1 W1 l1 o1 (ee.mono l1))
        | true =>
          refine iteT ⟨fun σ H => ∃ W ev st, WOk (cn X) W H st ∧ EvR (cn X) W σ ev ∧ FinS (cn X) W Wx D (whN mc body f ev st), fun σ' H' n => ⟨f, Nat.lt_succ_self f, n⟩, W1, ev, st1, o1, ee.mono l1, ?_⟩
          simp only at q
          cases z3 : body ev st1 with
          | nx ev2 st2 => rw [z3] at q; exact fun σ'' H'' W' l' o' e'' => ⟨W', ev2, st2, o', e'', FinS.mono (l1.trans l') q⟩
          | ct ev2 st2 => rw [z3] at q; exact fun σ'' H'' W' l' o' e'' => ⟨W', ev2, st2, o', e'', FinS.mono (l1.trans l') q⟩
          | bk ev2 st2 => rw [z3] at q; exact fun σ'' H'' W' l' o' e'' => q σ'' H'' W' (l1.trans l') o' e''
          | stuck => rw [z3] at q; exact q.elim
          | rt v st2 => rw [z3] at q; exact fun x' H'' W' l' o' r' => q x' H'' W' (l1.trans l') o' r'
          | ex x' ev2 st2 => rw [z3] at q; exact fun cls d' σ'' H'' W' l' o' e'' r' => q cls d' σ'' H'' W' (l1.trans l') o' e'' r'
end
end Sim
end

section
/-! Sim 7: comprehensions, built-in functions, methods of built-in types. -/
namespace Sim
open PySem PySem.Spec PyProof.Rows L2 RZ

/-! ### comprehensions -/
def wipeE (ev : Ev) : List Nat → Ev
  | [] => ev
  | v :: vs => (wipeE ev vs).set v none
theorem EvR.forget {C : Cn} {W : Wd} {σ : Sg} {ev : Ev} {i : Nat} (h : EvR C W σ ev) : EvR C W (σ.set i none) (ev.set i none) := by
  refine ⟨by simp [h.1], fun j u e => ?_⟩
  rw [List.getElem?_set] at e
  by_cases q : i = j
  · rw [if_pos q] at e
    split at e <;> cases e
  · rw [if_neg q] at e
    obtain ⟨x, h1, h2⟩ := h.2 j u e
    exact ⟨x, by rw [List.getElem?_set_ne q]; exact h1, h2⟩
theorem EvR.wipe {C : Cn} {W : Wd} {σ : Sg} {ev : Ev} (h : EvR C W σ ev) : ∀ vs : List Nat, EvR C W (L2.wipe σ vs) (wipeE ev vs)
  | [] => h
  | v :: vs => (EvR.wipe h vs).forget
/-- what is laid behind the item v at the list that cell k holds -/
def pushC (k : Nat) (v : Vl) : O Unit := fun st => match frz1 v st with
  | none => none
  | some (d, st1) => match st1[k]? with
    | some (.lst acc) => if acc.length < 16777216 then some ((), st1.set k (.lst (acc ++ [d]))) else none
    | _ => none
def compN (src : Src) (t : Tgt) (c : MT) (m : ME) (k : Nat) (ev : Ev) : Nat → Nat → Store → Option Store
  | 0, _, _ => none
  | f + 1, i, st => match src.item i st with
    | none => none
    | some none => some st
    | some (some d) => match t.put d ev with
      | none => none
      | some ev1 => match c ev1 st with
        | .ok true st1 => (match m ev1 st1 with
          | .ok v st2 => (match pushC k v st2 with
            | some (_, st3) => compN src t c m k ev f (i + 1) st3
            | none => none)
          | _ => none)
        | .ok false st1 => compN src t c m k ev f (i + 1) st1
        | _ => none
def compG (ex : Nat → List D → Store → Option (Vl × Store)) (mi : MI) (t : Tgt) (c : MT) (m : ME) (vs : List Nat) : ME := fun ev => (mi ev).bind fun src st =>
  match compN src t c m st.length (wipeE ev vs) FU 0 (st ++ [.lst []]) with
  | none => .stuck
  | some st' => match st'[st.length]? with
    | some (.lst acc) => (match ex st.length acc st' with | some (v, st2) => .ok v st2 | none => .stuck)
    | _ => .stuck
/-- the list as data, its cell dropped -/
def exD (n : Nat) (acc : List D) (st : Store) : Option (Vl × Store) := some (.p (.lst acc), st.take n)
/-- the list as a cell -/
def exM (n : Nat) (acc : List D) (st : Store) : Option (Vl × Store) := some (.c n, st.take (n + 1))
abbrev eComp := compG exD
abbrev eCompM := compG exM
abbrev Wx0 : WX := fun _ _ _ _ => False
def tYesM : MT := fun _ st => .ok true st
abbrev SPt (X : Cx) (Wx : WX) (ifs : List Expr) (c : MT) : Prop := PTs X ifs (LT (cn X) Wx c)
theorem PTs.imp {X : Cx} {e : List Expr} {t t' : TT} (h : PTs X e t) (i : ∀ σ H Q, t' σ H Q → t σ H Q) : PTs X e t' := ⟨fun pins s σ H Q I q => h.run pins s σ H Q I (i _ _ _ q)⟩
theorem spt_nil {X : Cx} {Wx : WX} : SPt X Wx [] tYesM := PTs.imp pts_nil fun σ H Q ⟨W, ev, st, o, e, h⟩ => h true H W (Wd.le.refl W) o rfl
theorem spt_one {X : Cx} {Wx : WX} {c : Expr} {t : MT} (h : STt X Wx c t) : SPt X Wx [c] t := pts_one h
def ExOk (ex : Nat → List D → Store → Option (Vl × Store)) : Prop := ∀ {C : Cn} {W W' : Wd} {H : Hp} {st' : Store} {acc : List D} {v : Vl} {st2 : Store} {n : Nat} {D' : Addr}, W.al.length = n → W.le W' → WOk C W' H st' → W'.al[n]? = some D' → st'[n]? = some (.lst acc) → ex n acc st' = some (v, st2) →
  ∃ W2, W.le W2 ∧ WOk C W2 H st2 ∧ RelV' C W2 (.ref D') v
theorem exD_ok : ExOk exD := fun {C W W' H st' acc v st2 n D'} hn l o ha hc e => by
  cases e
  obtain ⟨hg, vs, hv, rv⟩ := o.cel n D' _ ha hc
  obtain ⟨l2, o2⟩ := o.freeze ha hg hv
  have o3 := o2.cut n
  have et : (st'.set n Cell.dead).take n = st'.take n := by rw [List.take_set_of_le (Nat.le_refl n)]
  rw [et] at o3
  exact ⟨_, (l.trans l2).cut (Nat.le_of_eq hn), o3, .p (.lst upd_same (rv.mono l2.g))⟩
theorem exM_ok : ExOk exM := fun {C W W' H st' acc v st2 n D'} hn l o ha hc e => by
  cases e
  exact ⟨_, l.cut (by omega), o.cut (n + 1), .c (by show (W'.al.take (n + 1))[n]? = _; rw [List.getElem?_take, if_pos (by omega)]; exact ha)⟩
section
variable {X : Cx} {Wx : WX} {elt tg iter : Expr} {ifs : List Expr} {scope : Scope} {own : List (Str × Nat)} {pos : Pos} {mi : MI} {t : Tgt} {c : MT} {m : ME} {ex : Nat → List D → Store → Option (Vl × Store)}
theorem pushC_ok {C : Cn} {W : Wd} {H : Hp} {st st3 : Store} {k : Nat} {v : Vl} {y : V} {u : Unit} {L : Addr} (o : WOk C W H st) (hL : W.al[k]? = some L) (r : RelV' C W y v) (e : pushC k v st = some (u, st3)) :
    ∃ acc W', W.le W' ∧ H L = some (.lst acc) ∧ acc.length < sizeLine ∧ WOk C W' (upd H L (.lst (acc ++ [y]))) st3 := by
  unfold pushC at e
  split at e
  · cases e
  · rename_i d st1 hf
    split at e
    · rename_i acc hc
      split at e
      · rename_i hz
        cases e
        obtain ⟨W1, l1, o1, rd⟩ := frz1_ok o r hf
        have hL1 := l1.at hL
        obtain ⟨hg, vs, hv, rv⟩ := o1.cel k L _ hL1 hc
        exact ⟨vs, W1, l1, hv, by rw [rv.length, szl]; exact hz, o1.write hL1 hg ⟨hg, _, upd_same, rv.append (.cons rd .nil)⟩⟩
      · cases e
    · cases e
theorem lc_ok {C : Cn} {σ : Sg} {H : Hp} {Q : VK} (hex : ExOk ex) (ht : ∀ i ∈ t.ixs, i ∈ own.map (·.2)) (h : LE C Wx (compG ex mi t c m (own.map (·.2))) σ H Q) :
    tLc (Lift C (relS C) Wx mi) (gOf C.K t) (LT C Wx0 c) (LE C Wx0 m) (own.map (·.2)) σ H Q :=
  lift1 h fun J H1 src W0 st0 ev o0 ee r q => by
    intro L hL
    generalize hvs : own.map (·.2) = vs at *
    obtain ⟨l1, o1⟩ := o0.newCell (u := .lst []) (c := .lst []) hL ⟨o0.same.free hL, [], upd_same, .nil⟩
    have hk : (W0.al ++ [L])[st0.length]? = some L := by rw [← o0.len, List.getElem?_append_right (Nat.le_refl _)]; simp
    let Fn : Option Store → Prop := fun z => Fin C (RelV' C) W0 σ Wx Q (match z with
      | none => .stuck
      | some st' => match st'[st0.length]? with
        | some (.lst acc) => (match ex st0.length acc st' with | some (v, st2) => .ok v st2 | none => .stuck)
        | _ => .stuck)
    have q : Fn (compN src t c m st0.length (wipeE ev vs) FU 0 (st0 ++ [.lst []])) := q
    refine ⟨fun i f H => ∃ W st, W0.le W ∧ W.al[st0.length]? = some L ∧ WOk C W H st ∧ Fn (compN src t c m st0.length (wipeE ev vs) f i st), ⟨FU, _, _, l1, hk, o1, q⟩, ?_⟩
    rintro i f H ⟨W, st, l, hk, o, q⟩
    have sr := r W H st l o i
    cases f with
    | zero => exact q.elim
    | succ f =>
      have q : Fn (match src.item i st with
        | none => none
        | some none => some st
        | some (some d) => match t.put d (wipeE ev vs) with
          | none => none
          | some ev1 => match c ev1 st with
            | .ok true st1 => (match m ev1 st1 with
              | .ok v st2 => (match pushC st0.length v st2 with
                | some (_, st3) => compN src t c m st0.length (wipeE ev vs) f (i + 1) st3
                | none => none)
              | _ => none)
            | .ok false st1 => compN src t c m st0.length (wipeE ev vs) f (i + 1) st1
            | _ => none) := q
      cases z : src.item i st with
      | none => rw [z] at q; exact q.elim
      | some u =>
        cases u with
        | none =>
          rw [z] at q sr
          refine .inl ⟨sr, ?_⟩
          have q : Fin C (RelV' C) W0 σ Wx Q (match st[st0.length]? with
            | some (.lst acc) => (match ex st0.length acc st with | some (v, st2) => .ok v st2 | none => .stuck)
            | _ => .stuck) := q
          split at q
          · rename_i acc hc
            split at q
            · rename_i v st2 he
              obtain ⟨W2, l2, o2, r2⟩ := hex o0.len l o hk hc he
              exact q _ H W2 l2 o2 r2
            · exact q.elim
          · exact q.elim
        | some d =>
          rw [z] at q sr
          obtain ⟨go, yl⟩ := sr
          refine .inr ⟨go, fun H => ∃ W st, W0.le W ∧ W.al[st0.length]? = some L ∧ WOk C W H st ∧ Fn (compN src t c m st0.length (wipeE ev vs) f (i + 1) st), fun H' n => ⟨f, Nat.lt_succ_self f, n⟩, fun x H' y => ?_⟩
          obtain ⟨W2, l2, o2, rx⟩ := yl x H' y
          cases z2 : t.put d (wipeE ev vs) with
          | none => simp only [z2] at q; exact q.elim
          | some ev1 =>
            simp only [z2] at q
            refine gOf_ok o2 ((ee.mono (l.trans l2)).wipe vs) rx z2 fun σ' e' wp => ⟨?_, ?_⟩
            · rw [wp vs ht]
              have ww : ∀ us : List Nat, (∀ i ∈ us, i ∈ vs) → wipe (wipe σ us) vs = wipe σ vs := by
                intro us
                induction us with
                | nil => intro _; rfl
                | cons u us ih => intro hu; show wipe ((wipe σ us).set u none) vs = _; rw [wipe_set_in (hu u List.mem_cons_self)]; exact ih fun i hi => hu i (List.mem_cons_of_mem _ hi)
              exact ww vs fun i hi => hi
            · refine ⟨W2, ev1, st, o2, e', ?_⟩
              cases z3 : c ev1 st with
              | stuck => simp only [z3] at q; exact q.elim
              | exn _ _ => simp only [z3] at q; exact q.elim
              | ok b st1 =>
                simp only [z3] at q
                intro b' H3 W3 l3 o3 rb
                have rb' : b' = b := rb
                subst rb'
                cases b' with
                | false => exact iteF ⟨W3, st1, (l.trans l2).trans l3, (l2.trans l3).at hk, o3, q⟩
                | true =>
                  simp only at q
                  refine iteT ⟨W3, ev1, st1, o3, e'.mono l3, ?_⟩
                  cases z4 : m ev1 st1 with
                  | stuck => simp only [z4] at q; exact q.elim
                  | exn _ _ => simp only [z4] at q; exact q.elim
                  | ok v st2 =>
                    simp only [z4] at q
                    intro yv H4 W4 l4 o4 rv
                    cases z5 : pushC st0.length v st2 with
                    | none => simp only [z5] at q; exact q.elim
                    | some w =>
                      obtain ⟨uu, st3⟩ := w
                      simp only [z5] at q
                      have hk4 := ((l2.trans l3).trans l4).at hk
                      obtain ⟨acc, W5, l5, hv, hz, o5⟩ := pushC_ok o4 hk4 rv z5
                      exact ⟨acc, hv, hz, W5, st3, (((l.trans l2).trans l3).trans l4).trans l5, l5.at hk4, o5, q⟩
theorem se_lc (hex : ExOk ex) (hc : X.calm = true) (hN : X.N.Nodup) (ok : blkC X.N X.env.scope scope own = true) (ht : ∀ i ∈ t.ixs, i ∈ own.map (·.2)) (hi : SI X Wx tg iter mi)
    (hg : ∀ (s : Shared) (H : Hp) (C : Addr) (cl : List (Str × Addr)) (fp : List Addr), SG (X.blk s H scope (compEnvC scope cl C X.env) fp) tg t) (hif : ∀ (s : Shared) (H : Hp) (C : Addr) (cl : List (Str × Addr)) (fp : List Addr), SPt (X.blk s H scope (compEnvC scope cl C X.env) fp) Wx0 ifs c)
    (he : ∀ (s : Shared) (H : Hp) (C : Addr) (cl : List (Str × Addr)) (fp : List Addr), SE (X.blk s H scope (compEnvC scope cl C X.env) fp) Wx0 elt m) (hs : ∀ x, foldedSetIterable iter X.env x = pure x := by intro _; rfl) :
    SE X Wx (.ListComp elt [⟨tg, iter, ifs, 0⟩] scope pos) (compG ex mi t c m (own.map (·.2))) :=
  PE.imp (pe_lc hc hN hi (blkOk_by ok) hg hif he hs) fun σ H Q h => lc_ok hex ht h
theorem ss_setLc (i : Nat) (hex : ExOk ex) {y : Str} {py spos : Pos} (hc : X.calm = true) (hN : X.N.Nodup) (ok : blkC X.N X.env.scope scope own = true) (ht : ∀ i ∈ t.ixs, i ∈ own.map (·.2)) (hi : SI X Wx tg iter mi)
    (hg : ∀ (s : Shared) (H : Hp) (C : Addr) (cl : List (Str × Addr)) (fp : List Addr), SG (X.blk s H scope (compEnvC scope cl C X.env) fp) tg t) (hif : ∀ (s : Shared) (H : Hp) (C : Addr) (cl : List (Str × Addr)) (fp : List Addr), SPt (X.blk s H scope (compEnvC scope cl C X.env) fp) Wx0 ifs c)
    (he : ∀ (s : Shared) (H : Hp) (C : Addr) (cl : List (Str × Addr)) (fp : List Addr), SE (X.blk s H scope (compEnvC scope cl C X.env) fp) Wx0 elt m) (hy : X.N[i]? = some y := by rfl) (hyl : X.env.scope.names.lookup y = some .local := by rfl)
    (hk : X.env.scope.kind = .function := by rfl) (hli : (py.line == pos.line) = true := by rfl) (hnn : (scope.names.any fun (n, k) => n == y && (k == .local || k == .cell)) = false := by rfl) (hs : ∀ x, foldedSetIterable iter X.env x = pure x := by intro _; rfl) :
    SS X Wx (.Assign [.Name y py] (.ListComp elt [⟨tg, iter, ifs, 0⟩] scope pos) spos) (sAsg i (compG ex mi t c m (own.map (·.2)))) :=
  PS.imp (ps_setLc hc hN hy hyl (sw_true hk hyl hli hnn) hi (blkOk_by ok) hg hif he hs) fun D σ H h => by
    have h2 : LE (cn X) Wx (compG ex mi t c m (own.map (·.2))) σ H fun x H1 => gName i x σ H1 D.nx := ls_bind h fun x H1 v W st ev o ee r q => q _ H1 W (Wd.le.refl W) o (ee.set r)
    exact lc_ok hex ht h2
end
end Sim
end

section
/-! Sim 8: built-in functions, methods of built-in types. -/
namespace Sim
open PySem PySem.Spec PyProof.Rows L2 RZ

/-! ### calls of built-ins -/
section
variable {X : Cx} {Wx : WX} {x : Str} {p pos : Pos} {e : Expr} {es : List Expr} {ma : MA} {id T : String} {g : List Vl → O Vl}
theorem le_ncall {C : Cn} {σ : Sg} {H : Hp} {Q : VK} (h : LE C Wx (eA g ma) σ H Q) : tCB (Rnof C g) (LA C Wx ma) σ H Q :=
  lift1 h fun xs H1 vs W st ev o ee r q => ⟨W, st, vs, o, r, fin_of q⟩
theorem se_b (hc : CallR X (.builtin id) (Rnof (cn X) g)) (hm : X.mg x = none) (hv : bootBuiltins x = some (.builtin id)) (ha : SA X Wx (e :: es) ma) (hg : Gl X x := by rfl) (hn : x ≠ "__name__" := by decide) (hdb : (x == ("__debug__" : Str)) = false := by decide)
    (he : starEach (e :: es) X.env = (false, eval e X.env) :: starEach es X.env := by rfl) (hpl : (backTo pos (starEach es X.env)).any (·.1) = false := by rfl) : SE X Wx (.Call (.Name x p) (e :: es) [] pos) (eA g ma) :=
  PE.imp (pe_callB hc hg hm hv ha hn hdb he hpl) fun _ _ _ => le_ncall
theorem se_t (hc : CallR X (.type T) (Rnof (cn X) g)) (hm : X.mg x = none) (hv : bootBuiltins x = some (.type T)) (ha : SA X Wx (e :: es) ma) (hg : Gl X x := by rfl) (hn : x ≠ "__name__" := by decide) (hdb : (x == ("__debug__" : Str)) = false := by decide)
    (he : starEach (e :: es) X.env = (false, eval e X.env) :: starEach es X.env := by rfl) (hpl : (backTo pos (starEach es X.env)).any (·.1) = false := by rfl) : SE X Wx (.Call (.Name x p) (e :: es) [] pos) (eA g ma) :=
  PE.imp (pe_callTy hc hg hm hv ha hn hdb he hpl) fun _ _ _ => le_ncall
end
section
variable {X : Cx}
def gLen (vs : List Vl) : O Vl := fun st => match vs with
  | [v] => (match seqV st v with
    | some xs => some (.p (.int xs.length), st)
    | none => match v with
      | .p (.str z) => if z.length ≤ 16777216 then some (.p (.int z.length), st) else none
      | _ => none)
  | _ => none
theorem cg_len : CallR X (.builtin "len") (Rnof (cn X) gLen) := by
  intro pins s σ H xs us Q I r h
  obtain ⟨W, st, as, o, ra, h⟩ := h
  unfold gLen at h
  split at h
  · rename_i v
    obtain ⟨y, rfl, r1⟩ := rel1 ra
    split at h
    · rename_i ds e
      obtain ⟨a, vs, rfl, hv, rv⟩ := seqV_ok o r1 e
      refine call_len_seq pins s σ H _ us Q I r ⟨a, vs, rfl, hv, ?_⟩
      rw [rv.length]
      exact fin_val o h (.int _)
    · split at h
      · rename_i z _
        cases rel_str r1
        split at h
        · exact call_len_str pins s σ H _ us Q I r ⟨z, rfl, by rw [szl]; assumption, fin_val o h (.int _)⟩
        · exact h.elim
      · exact h.elim
  · exact h.elim
def gAbs (vs : List Vl) : O Vl := fun st => match vs with
  | [.p (.int i)] => some (.p (.int (if i < 0 then -i else i)), st)
  | _ => none
theorem cg_abs : CallR X (.builtin "abs") (Rnof (cn X) gAbs) := by
  intro pins s σ H xs us Q I r h
  obtain ⟨W, st, as, o, ra, h⟩ := h
  unfold gAbs at h
  split at h
  · rename_i i
    obtain ⟨y, rfl, r1⟩ := rel1 ra
    cases rel_int r1
    exact call_abs pins s σ H _ us Q I r ⟨i, rfl, fin_val o h (.int _)⟩
  · exact h.elim
def gMax2 (vs : List Vl) : O Vl := fun st => match vs with
  | [.p (.int i), .p (.int j)] => some (.p (.int (if j > i then j else i)), st)
  | _ => none
def gMin2 (vs : List Vl) : O Vl := fun st => match vs with
  | [.p (.int i), .p (.int j)] => some (.p (.int (if j < i then j else i)), st)
  | _ => none
theorem cg_max2 (hc : X.calm = true) : CallR X (.builtin "max") (Rnof (cn X) gMax2) := by
  intro pins s σ H xs us Q I r h
  obtain ⟨W, st, as, o, ra, h⟩ := h
  unfold gMax2 at h
  split at h
  · rename_i i j
    obtain ⟨y, z, rfl, r1, r2⟩ := rel2 ra
    cases rel_int r1
    cases rel_int r2
    exact call_max2 hc pins s σ H _ us Q I r ⟨i, j, rfl, fin_val o h (.int _)⟩
  · exact h.elim
theorem cg_min2 (hc : X.calm = true) : CallR X (.builtin "min") (Rnof (cn X) gMin2) := by
  intro pins s σ H xs us Q I r h
  obtain ⟨W, st, as, o, ra, h⟩ := h
  unfold gMin2 at h
  split at h
  · rename_i i j
    obtain ⟨y, z, rfl, r1, r2⟩ := rel2 ra
    cases rel_int r1
    cases rel_int r2
    exact call_min2 hc pins s σ H _ us Q I r ⟨i, j, rfl, fin_val o h (.int _)⟩
  · exact h.elim
def gInt (vs : List Vl) : O Vl := fun st => match vs with
  | [.p (.int i)] => some (.p (.int i), st)
  | [.p (.bl b)] => some (.p (.int (if b then 1 else 0)), st)
  | _ => none
theorem cg_int : CallR X (.type "int") (Rnof (cn X) gInt) := by
  intro pins s σ H xs us Q I r h
  obtain ⟨W, st, as, o, ra, h⟩ := h
  unfold gInt at h
  split at h
  · rename_i i
    obtain ⟨y, rfl, r1⟩ := rel1 ra
    cases rel_int r1
    exact call_int1 pins s σ H _ us Q I r (.inl ⟨i, rfl, fin_val o h (.int _)⟩)
  · rename_i b
    obtain ⟨y, rfl, r1⟩ := rel1 ra
    cases rel_bl r1
    exact call_int1 pins s σ H _ us Q I r (.inr ⟨b, rfl, fin_val o h (.int _)⟩)
  · exact h.elim
def gBool (vs : List Vl) : O Vl := fun st => match vs with
  | [.p (.int i)] => some (.p (.bl (i != 0)), st)
  | [.p (.bl b)] => some (.p (.bl b), st)
  | _ => none
theorem cg_bool : CallR X (.type "bool") (Rnof (cn X) gBool) := by
  intro pins s σ H xs us Q I r h
  obtain ⟨W, st, as, o, ra, h⟩ := h
  unfold gBool at h
  split at h
  · rename_i i
    obtain ⟨y, rfl, r1⟩ := rel1 ra
    cases rel_int r1
    exact call_bool1 pins s σ H _ us Q I r (.inl ⟨i, rfl, fin_val o h (.bl _)⟩)
  · rename_i b
    obtain ⟨y, rfl, r1⟩ := rel1 ra
    cases rel_bl r1
    exact call_bool1 pins s σ H _ us Q I r (.inr ⟨b, rfl, fin_val o h (.bl _)⟩)
  · exact h.elim
def gStr (vs : List Vl) : O Vl := fun st => match vs with
  | [.p (.int i)] => if i.natAbs.log2 < 1920 then some (.p (.str (toString i)), st) else none
  | [.p (.str z)] => some (.p (.str z), st)
  | _ => none
theorem cg_str : CallR X (.type "str") (Rnof (cn X) gStr) := by
  intro pins s σ H xs us Q I r h
  obtain ⟨W, st, as, o, ra, h⟩ := h
  unfold gStr at h
  split at h
  · rename_i i
    obtain ⟨y, rfl, r1⟩ := rel1 ra
    cases rel_int r1
    split at h
    · exact call_str_int pins s σ H _ us Q I r ⟨i, rfl, by assumption, fin_val o h (.str _)⟩
    · exact h.elim
  · rename_i z
    obtain ⟨y, rfl, r1⟩ := rel1 ra
    cases rel_str r1
    exact SkE.call_str_str pins s σ H _ us Q I r ⟨z, rfl, fin_val o h (.str _)⟩
  · exact h.elim
def gList (vs : List Vl) : O Vl := fun st => match vs with
  | [v] => (seqV st v).map fun xs => (.p (.lst xs), st)
  | _ => none
theorem cg_list : CallR X (.type "list") (Rnof (cn X) gList) := by
  intro pins s σ H xs us Q I r h
  obtain ⟨W, st, as, o, ra, h⟩ := h
  unfold gList at h
  split at h
  · rename_i v
    obtain ⟨y, rfl, r1⟩ := rel1 ra
    cases e : seqV st v with
    | none => rw [e] at h; exact h.elim
    | some ds =>
      rw [e] at h
      obtain ⟨a, vs, rfl, hv, rv⟩ := seqV_ok o r1 e
      exact call_list_of pins s σ H _ us Q I r ⟨a, vs, rfl, hv, fun l hl => fin_new o h hl fun G hG sm => .lst hG (rv.mono sm)⟩
  · exact h.elim
/-- list(..) as a cell -/
def gListM (vs : List Vl) : O Vl := fun st => match vs with
  | [v] => (seqV st v).map fun xs => (.c st.length, st ++ [.lst xs])
  | _ => none
theorem cg_listM : CallR X (.type "list") (Rnof (cn X) gListM) := by
  intro pins s σ H xs us Q I r h
  obtain ⟨W, st, as, o, ra, h⟩ := h
  unfold gListM at h
  split at h
  · rename_i v
    obtain ⟨y, rfl, r1⟩ := rel1 ra
    cases e : seqV st v with
    | none => rw [e] at h; exact h.elim
    | some ds =>
      rw [e] at h
      obtain ⟨a, vs, rfl, hv, rv⟩ := seqV_ok o r1 e
      refine call_list_of pins s σ H _ us Q I r ⟨a, vs, rfl, hv, fun l hl => ?_⟩
      obtain ⟨l2, o2⟩ := o.newCell (u := .lst vs) (c := .lst ds) hl ⟨o.same.free hl, vs, upd_same, rv⟩
      exact h _ _ _ l2 o2 (.c (by show (W.al ++ [l])[st.length]? = some l; rw [← o.len, List.getElem?_append_right (Nat.le_refl _)]; simp))
  · exact h.elim
def gTuple (vs : List Vl) : O Vl := fun st => match vs with
  | [v] => (seqV st v).map fun xs => (.p (.tup xs), st)
  | _ => none
theorem cg_tuple : CallR X (.type "tuple") (Rnof (cn X) gTuple) := by
  intro pins s σ H xs us Q I r h
  obtain ⟨W, st, as, o, ra, h⟩ := h
  unfold gTuple at h
  split at h
  · rename_i v
    obtain ⟨y, rfl, r1⟩ := rel1 ra
    cases e : seqV st v with
    | none => rw [e] at h; exact h.elim
    | some ds =>
      rw [e] at h
      cases z : listV st v with
      | some zs =>
        have ez : zs = ds := by unfold seqV at e; rw [z] at e; exact Option.some.inj e
        subst ez
        obtain ⟨a, vs, rfl, hv, rv⟩ := listV_ok o r1 z
        exact call_tuple_of pins s σ H _ us Q I r ⟨a, vs, rfl, .inl ⟨hv, fun l hl => fin_new o h hl fun G hG sm => .tup (.inl hG) (rv.mono sm)⟩⟩
      | none =>
        have z2 : tupV v = some ds := by unfold seqV at e; rw [z] at e; simpa using e
        have ev : v = .p (.tup ds) := by
          cases v with
          | c k => cases z2
          | p d => cases d <;> simp only [tupV] at z2 <;> cases z2 <;> rfl
        subst ev
        obtain ⟨a, vs, rfl, hv, rv⟩ := tupV_ok o r1 z2
        exact call_tuple_of pins s σ H _ us Q I r ⟨a, vs, rfl, .inr ⟨hv, fin_vl o h r1⟩⟩
  · exact h.elim
/-- a list of truths -/
def asBls : List D → Option (List Bool)
  | [] => some []
  | .bl b :: r => (asBls r).map (b :: ·)
  | _ => none
theorem asBls_eq : ∀ {ds : List D} {bs : List Bool}, asBls ds = some bs → ds = bs.map D.bl
  | [], bs, h => by cases h; rfl
  | d :: ds, bs, h => by
    cases d <;> simp only [asBls] at h <;> try cases h
    cases q : asBls ds with
    | none => rw [q] at h; cases h
    | some cs => rw [q] at h; cases h; rw [asBls_eq q]; rfl
def gAll (vs : List Vl) : O Vl := fun st => match vs with
  | [v] => ((listV st v).bind asBls).map fun bs => (.p (.bl (bs.all id)), st)
  | _ => none
def gAny (vs : List Vl) : O Vl := fun st => match vs with
  | [v] => ((listV st v).bind asBls).map fun bs => (.p (.bl (bs.any id)), st)
  | _ => none
theorem cg_all (hc : X.calm = true) : CallR X (.builtin "all") (Rnof (cn X) gAll) := by
  intro pins s σ H xs us Q I r h
  obtain ⟨W, st, as, o, ra, h⟩ := h
  unfold gAll at h
  split at h
  · rename_i v
    obtain ⟨y, rfl, r1⟩ := rel1 ra
    cases e : (listV st v).bind asBls with
    | none => rw [e] at h; exact h.elim
    | some bs =>
      rw [e] at h
      obtain ⟨ds, e1, e2⟩ := Option.bind_eq_some_iff.mp e
      obtain ⟨a, vs, rfl, hv, rv⟩ := listV_ok o r1 e1
      rw [asBls_eq e2] at rv
      have ev := RelDs.bls rv
      subst ev
      exact cr_all hc pins s σ H _ us Q I r ⟨a, bs, rfl, hv, fin_val o h (.bl _)⟩
  · exact h.elim
theorem cg_any (hc : X.calm = true) : CallR X (.builtin "any") (Rnof (cn X) gAny) := by
  intro pins s σ H xs us Q I r h
  obtain ⟨W, st, as, o, ra, h⟩ := h
  unfold gAny at h
  split at h
  · rename_i v
    obtain ⟨y, rfl, r1⟩ := rel1 ra
    cases e : (listV st v).bind asBls with
    | none => rw [e] at h; exact h.elim
    | some bs =>
      rw [e] at h
      obtain ⟨ds, e1, e2⟩ := Option.bind_eq_some_iff.mp e
      obtain ⟨a, vs, rfl, hv, rv⟩ := listV_ok o r1 e1
      rw [asBls_eq e2] at rv
      have ev := RelDs.bls rv
      subst ev
      exact cr_any hc pins s σ H _ us Q I r ⟨a, bs, rfl, hv, fin_val o h (.bl _)⟩
  · exact h.elim
/-- a list of ints -/
def asInts : List D → Option (List Int)
  | [] => some []
  | .int b :: r => (asInts r).map (b :: ·)
  | _ => none
theorem asInts_eq : ∀ {ds : List D} {bs : List Int}, asInts ds = some bs → ds = bs.map D.int
  | [], bs, h => by cases h; rfl
  | d :: ds, bs, h => by
    cases d <;> simp only [asInts] at h <;> try cases h
    cases q : asInts ds with
    | none => rw [q] at h; cases h
    | some cs => rw [q] at h; cases h; rw [asInts_eq q]; rfl
theorem asInts_map : ∀ ns : List Int, asInts (ns.map D.int) = some ns
  | [] => rfl
  | n :: r => by show (asInts (r.map D.int)).map (n :: ·) = _; rw [asInts_map r]; rfl
theorem asBls_map : ∀ ns : List Bool, asBls (ns.map D.bl) = some ns
  | [] => rfl
  | n :: r => by show (asBls (r.map D.bl)).map (n :: ·) = _; rw [asBls_map r]; rfl
def gSum (vs : List Vl) : O Vl := fun st => match vs with
  | [v] => ((listV st v).bind asInts).map fun bs => (.p (.int bs.sum), st)
  | _ => none
theorem cg_sum (hc : X.calm = true) : CallR X (.builtin "sum") (Rnof (cn X) gSum) := by
  intro pins s σ H xs us Q I r h
  obtain ⟨W, st, as, o, ra, h⟩ := h
  unfold gSum at h
  split at h
  · rename_i v
    obtain ⟨y, rfl, r1⟩ := rel1 ra
    cases e : (listV st v).bind asInts with
    | none => rw [e] at h; exact h.elim
    | some bs =>
      rw [e] at h
      obtain ⟨ds, e1, e2⟩ := Option.bind_eq_some_iff.mp e
      obtain ⟨a, vs, rfl, hv, rv⟩ := listV_ok o r1 e1
      rw [asInts_eq e2] at rv
      have ev := RelDs.ints rv
      subst ev
      exact cr_sum hc pins s σ H _ us Q I r ⟨a, bs, rfl, hv, fin_val o h (.int _)⟩
  · exact h.elim
/-! repr -/
def gRepr (vs : List Vl) : O Vl := fun st => match vs with
  | [v] => (match v.py st with
    | some e => if e.showable = true ∧ e.hasDict = false ∧ e.depth ≤ 60 ∧ e.shown.length ≤ 16777216 then some (.p (.str e.shown), st) else none
    | none => none)
  | _ => none
theorem cg_repr (hc : Clr X.A) (hu : X.A.units + 64 < cLine) : CallR X (.builtin "repr") (Rnof (cn X) gRepr) := by
  intro pins s σ H xs us Q I r h
  obtain ⟨W, st, as, o, ra, h⟩ := h
  unfold gRepr at h
  split at h
  · rename_i v
    obtain ⟨y, rfl, r1⟩ := rel1 ra
    split at h
    · rename_i e he
      split at h
      · rename_i hs
        obtain ⟨u, rfl, ru⟩ := vals1 r
        have dp := vl_dp o r1 he
        have q : Q (.str e.shown) H := fin_val o h (.str _)
        have sz := szl
        cases dp with
        | non => cases ru; exact PySem.P.repr_of_none ⟨.str _, H, I.tok _, ⟨_, rfl⟩, by simpa [PyData.shown] using q⟩
        | bl b => cases ru; exact PySem.P.repr_of_bool ⟨.str _, H, I.tok _, ⟨_, rfl⟩, by simpa [PyData.shown] using q⟩
        | int i =>
          obtain ⟨t, rfl⟩ := ru
          exact PySem.P.repr_of_int (by simpa [PyData.showable] using hs.1) ⟨.str _, H, I.tok _, ⟨_, rfl⟩, by simpa [PyData.shown] using q⟩
        | str z =>
          obtain ⟨t, rfl⟩ := ru
          exact PySem.P.repr_of_str (hsz := by have := hs.2.2.2; simp only [PyData.shown] at this; omega) ⟨.str _, H, I.tok _, ⟨_, rfl⟩, by simpa [PyData.shown] using q⟩
        | @lst a vs ds h1 h2 =>
          obtain ⟨as, rd⟩ := Dp.reads I _ _ _ (Dp.lst h1 h2) ru
          cases ru
          exact repr_of_reads' rd hs.1 (fun z => by rw [hs.2.1] at z; cases z) hc (by have := hs.2.2.1; omega) (fun _ _ z => z) (fun h' u tk hk => ⟨.str _, H, I.kept hk, ⟨u, rfl⟩, q⟩) (by rw [sz]; exact hs.2.2.2)
        | @tup a vs ds h1 h2 =>
          obtain ⟨as, rd⟩ := Dp.reads I _ _ _ (Dp.tup h1 h2) ru
          cases ru
          exact repr_of_reads' rd hs.1 (fun z => by rw [hs.2.1] at z; cases z) hc (by have := hs.2.2.1; omega) (fun _ _ z => z) (fun h' u tk hk => ⟨.str _, H, I.kept hk, ⟨u, rfl⟩, q⟩) (by rw [sz]; exact hs.2.2.2)
      · exact h.elim
    · exact h.elim
  · exact h.elim

/-! isinstance of data that is no instance -/
def tyN : D → Option String
  | .non => some "NoneType"
  | .bl _ => some "bool"
  | .int _ => some "int"
  | .str _ => some "str"
  | .lst _ => some "list"
  | .rl _ => some "list"
  | .tup _ => some "tuple"
  | .dic _ => some "dict"
  | _ => none
def Vl.tyN (st : Store) : Vl → Option String
  | .p d => Sim.tyN d
  | .c k => match st[k]? with | some (.lst _) => some "list" | some (.dic _) => some "dict" | _ => none
def knownT : List String := ["int", "bool", "str", "list", "tuple", "dict"]
def isSub (a b : String) : Option Bool := if knownT.contains b = true then some (a == b || (a == "bool" && b == "int")) else none
def srcT : List String := ["NoneType", "bool", "int", "str", "list", "tuple", "dict"]
theorem isSub_all : (srcT.all fun a => knownT.all fun b => kitB a b == some (a == b || (a == "bool" && b == "int"))) = true := by decide +kernel
theorem isSub_ok {a b : String} {k : Bool} (ha : a ∈ srcT) (h : isSub a b = some k) : kitB a b = some k := by
  unfold isSub at h
  split at h
  · rename_i hb
    cases h
    have q := List.all_eq_true.mp (List.all_eq_true.mp isSub_all a ha) b (List.contains_iff_mem.mp hb)
    exact eq_of_beq q
  · cases h
theorem tyN_src {d : D} {a : String} (h : Sim.tyN d = some a) : a ∈ srcT := by
  cases d <;> simp only [Sim.tyN] at h <;> cases h <;> simp [srcT]
theorem tyX_of {C : Cn} {W : Wd} {H : Hp} {st : Store} {v : Vl} {x : V} {a : String} (o : WOk C W H st) (r : RelV' C W x v) (h : v.tyN st = some a) : a ∈ srcT ∧ TyX C.K H x (.type a) := by
  cases v with
  | c k =>
    simp only [Vl.tyN] at h
    split at h
    · rename_i xs hc
      cases h
      obtain ⟨p, rfl, ha, hg, vs, hv, rv⟩ := cell_of o r hc
      exact ⟨by simp [srcT], .base (.lst hv)⟩
    · rename_i xs hc
      cases h
      obtain ⟨p, rfl, ha, hg, vs, hv, rv⟩ := cell_of o r hc
      exact ⟨by simp [srcT], .base (.dK hv)⟩
    · cases h
  | p d =>
    refine ⟨tyN_src h, ?_⟩
    cases r with
    | p r =>
      cases r with
      | non => cases h; exact .base .non
      | bl b => cases h; exact .base (.bl b)
      | int i => cases h; exact .base (.int i)
      | str z => cases h; exact .base (.str z)
      | lst h1 _ => cases h; exact .base (.lst (o.same _ _ h1))
      | rl h1 _ =>
        cases h
        rcases h1 with (h1 | ⟨ob, h1⟩) | ⟨ob, its, n, h1, h2, _⟩
        · exact .base (.lst (o.same _ _ h1))
        · exact .base (.frz (o.same _ _ h1))
        · exact .kList h1 h2
      | tup h1 _ =>
        cases h
        rcases h1 with h1 | ⟨ob, its, n, h1, h2, _⟩
        · exact .base (.tup (o.same _ _ h1))
        · exact .kTuple h1 h2
      | dic h1 _ => cases h; exact .base (.dK (o.same _ _ h1))
      | ty _ => cases h
      | glob _ => cases h
      | ins _ _ _ => cases h
def asTys : List D → Option (List String)
  | [] => some []
  | .ty b :: r => (asTys r).map (b :: ·)
  | _ => none
theorem asTys_eq : ∀ {ds : List D} {bs : List String}, asTys ds = some bs → ds = bs.map D.ty
  | [], bs, h => by cases h; rfl
  | d :: ds, bs, h => by
    cases d <;> simp only [asTys] at h <;> try cases h
    cases q : asTys ds with
    | none => rw [q] at h; cases h
    | some cs => rw [q] at h; cases h; rw [asTys_eq q]; rfl
/-- of any of some types -/
def isAny (a : String) : List String → Option Bool
  | [] => some false
  | b :: r => match isSub a b with
    | some true => some true
    | some false => isAny a r
    | none => none
theorem isAny_ok {K : PySem.W.Frag} {a : String} (ha : a ∈ srcT) : ∀ {bs : List String} {k : Bool}, isAny a bs = some k → PySem.W.kitAny K (.type a) (bs.map Value.type) = some k
  | [], k, h => by cases h; rfl
  | b :: bs, k, h => by
    simp only [isAny] at h
    split at h
    · rename_i e
      cases h
      exact kitAny_cons (b := true) (kit_ty (isSub_ok ha e)) (fun z => by cases z) fun _ => rfl
    · rename_i e
      exact kitAny_cons (b := false) (kit_ty (isSub_ok ha e)) (fun _ => isAny_ok ha h) fun z => by cases z
    · cases h
def gIsi (vs : List Vl) : O Vl := fun st => match vs with
  | [v, .p (.ty b)] => (match v.tyN st with | some a => (isSub a b).map fun k => (.p (.bl k), st) | none => none)
  | [v, .p (.tup ts)] => (match v.tyN st, asTys ts with | some a, some bs => (isAny a bs).map fun k => (.p (.bl k), st) | _, _ => none)
  | _ => none
theorem tys_rel {C : Cn} {G : Hp} : ∀ {bs : List String} {cs : List V}, RelDs C G cs (bs.map D.ty) → cs = bs.map V.ty
  | [], cs, h => by cases h; rfl
  | b :: bs, cs, h => by
    cases h with
    | cons h r => cases h; rw [tys_rel r]; rfl
theorem tys_cls : ∀ bs : List String, Paired ClsV (bs.map V.ty) (bs.map Value.type)
  | [] => .nil
  | b :: bs => .cons (.ty b) (tys_cls bs)
theorem tys_vals : ∀ {bs : List String} {us : List Value}, Vals (bs.map V.ty) us → us = bs.map Value.type
  | [], us, h => by cases h; rfl
  | b :: bs, us, h => by
    cases h with
    | cons h r => rw [tys_vals r]; cases (show _ = Value.type b from h); rfl
theorem cg_isi : CallR X (.builtin "isinstance") (Rnof (cn X) gIsi) := by
  intro pins s σ H xs us Q I r h
  obtain ⟨W, st, as, o, ra, h⟩ := h
  unfold gIsi at h
  split at h
  · rename_i v b
    obtain ⟨x, y, rfl, r1, r2⟩ := rel2 ra
    split at h
    · rename_i a ha
      obtain ⟨hs, tx⟩ := tyX_of o r1 ha
      cases e : isSub a b with
      | none => rw [e] at h; exact h.elim
      | some k =>
        rw [e] at h
        cases r2 with
        | p r2 =>
          cases r2
          exact call_isi pins s σ H _ us Q I r ⟨x, .ty b, .type a, .type b, k, rfl, .ty b, tx, kit_ty (isSub_ok hs e), fin_val o h (.bl _)⟩
    · exact h.elim
  · rename_i v ts
    obtain ⟨x, y, rfl, r1, r2⟩ := rel2 ra
    split at h
    · rename_i a bs ha hb
      obtain ⟨hs, tx⟩ := tyX_of o r1 ha
      cases e : isAny a bs with
      | none => rw [e] at h; exact h.elim
      | some k =>
        rw [e] at h
        rw [asTys_eq hb] at r2
        cases r2 with
        | p r2 =>
          cases r2 with
          | tup h1 rd =>
            have ec := tys_rel rd
            subst ec
            rcases h1 with h1 | ⟨ob, its, n, h1, h2, h3, _, h5⟩
            · exact call_isiT pins s σ H _ us Q I r ⟨x, _, _, .type a, bs.map Value.type, k, rfl, o.same _ _ h1, tys_cls bs, tx, isAny_ok hs e, fin_val o h (.bl _)⟩
            · obtain ⟨oc, od, dt, sl⟩ := ob
              simp only at h2 h3
              subst h2 h3
              have e5 : its.toList = bs.map Value.type := tys_vals h5
              refine call_isiK pins s σ H _ us Q I r ⟨x, _, od, bs.map Value.type, n, sl, .type a, k, rfl, ?_, tx, isAny_ok hs e, fin_val o h (.bl _)⟩
              rw [← e5]
              simpa using h1
    · exact h.elim
  · exact h.elim
end

/-! ### methods of lists -/
def eMtL (g : Vl → List Vl → O Vl) (mo : ME) (ma : MA) : ME := fun ev => (mo ev).bind fun x => fun st => if (listV st x).isSome = true then (((ma ev).bind fun vs => M.of (g x vs)) st) else .stuck
def gAppend (x : Vl) (vs : List Vl) : O Vl := fun st => match x, vs with
  | .c k, [v] => (pushC k v st).map fun (_, st') => (.p .non, st')
  | _, _ => none
section
variable {X : Cx} {Wx : WX} {o e : Expr} {mo me : ME} {apos cpos : Pos}
theorem se_append (ho : SE X Wx o mo) (he : SE X Wx e me) (hbase : attributeBase o "append" X.env (eval o X.env) = eval o X.env := by rfl)
    (hfew : ((backTo cpos (starEach (e :: []) X.env)).all (fun x => !x.1) && (backToKw cpos (keywordEach [] X.env)).all (fun x => x.1.isSome)
      && decide ((e :: []).length + ([] : List Keyword).length + (if ([] : List Keyword).isEmpty then 0 else 1) < 30)) = true := by rfl)
    (hline : (apos.endLine == cpos.line) = true := by rfl) (hs : starEach (e :: []) X.env = (false, eval e X.env) :: starEach [] X.env := by rfl) (hplain : (backTo cpos (starEach [] X.env)).any (·.1) = false := by rfl) :
    SE X Wx (.Call (.Attribute o "append" apos) [e] [] cpos) (eMtL gAppend mo (aCons me aNil)) :=
  PE.imp (pe_bm PySem.F.plainAttrs_list PySem.F.slot_list_append PySem.F.type_list_append mt_append ho (sa_cons he sa_nil hs) hbase hfew hline hs hplain) fun σ H Q h => lift1 h fun x H1 v W st ev ok ee r q => by
    replace q : Fin (cn X) (RelV' (cn X)) W σ Wx Q (if (listV st v).isSome = true then (((aCons me aNil ev).bind fun vs => M.of (gAppend v vs)) st) else .stuck) := q
    split at q
    · rename_i hty
      refine ⟨?_, lift2 (rel := RelVs (cn X)) ok ee q fun xs H2 vs W' st' l o' r' h2 => ?_⟩
      · obtain ⟨ds, hd⟩ := Option.isSome_iff_exists.mp hty
        obtain ⟨p, us, rfl, hv, rv⟩ := listV_ok ok r hd
        exact .inl ⟨rfl, _, hv⟩
      · replace h2 := fin_of h2
        unfold gAppend at h2
        split at h2
        · rename_i k y
          obtain ⟨z, rfl, r1⟩ := rel1 r'
          cases e2 : pushC k y st' with
          | none => rw [e2] at h2; exact h2.elim
          | some w =>
            obtain ⟨uu, st3⟩ := w
            rw [e2] at h2
            cases r with
            | c ha =>
              obtain ⟨acc, W5, l5, hv, hz, o5⟩ := pushC_ok o' (l.at ha) r1 e2
              exact ⟨_, acc, z, rfl, rfl, hv, hz, h2 _ _ W5 l5 o5 (.p .non)⟩
        · exact h2.elim
    · exact q.elim
end
end Sim
end

section
/-! Sim 9: dict displays, a text so many times, the law's end. -/
namespace Sim
open PySem PySem.Spec PyProof.Rows L2 RZ

/-! ### a text so many times -/
def gStrRep (a b : Vl) : O Vl := fun st => match a, b with
  | .p (.str x), .p (.int n) => if 0 ≤ n ∧ n ≤ 16777216 ∧ x.length * n.toNat ≤ 16777216 then some (.p (.str (Txt.mul x n)), st) else none
  | _, _ => none
theorem og_strRep {X : Cx} : OpR X (binaryOp .Mult) (R2of (cn X) gStrRep) := by
  intro pins s σ H x y v u Q I rx ry h
  obtain ⟨W, st, a, b, o, ra, rb, h⟩ := h
  unfold gStrRep at h
  split at h
  · rename_i z n
    cases rel_str ra
    cases rel_int rb
    split at h
    · rename_i hk
      obtain ⟨t, rfl⟩ := rx
      obtain ⟨t', rfl⟩ := ry
      exact SB.mul (mulOk_of z.length n.toNat (Nat.le_refl _) (by omega) (by omega) (by omega) hk.2.2) fun t2 k => ⟨.str _, H, I.tok k, ⟨t2, rfl⟩, fin_val o h (.str _)⟩
    · exact h.elim
  · exact h.elim
def gMulS : Vl → Vl → O Vl := eitherG gMul gStrRep
theorem og_mulS {X : Cx} : OpR X (binaryOp .Mult) (R2of (cn X) gMulS) := OpR.either og_mul og_strRep

/-! ### dict displays -/
def asKey : D → Option Key
  | .int i => some (.inl i)
  | .str x => some (.inr x)
  | _ => none
def putD (kvs : List (Key × D)) (k : Key) (v : D) : List (Key × D) :=
  if (kvs.any fun kv => decide (kv.1 = k)) = true then kvs.map (fun kv => if kv.1 = k then (kv.1, v) else kv) else kvs ++ [(k, v)]
def mergeD (kvs more : List (Key × D)) : List (Key × D) := more.foldl (fun acc kv => putD acc kv.1 kv.2) kvs
section
variable {C : Cn} {G : Hp}
theorem RelKs.any (k : Key) : ∀ {gs : List (Key × V)} {fs : List (Key × D)}, RelKs C G gs fs → (gs.any fun kv => decide (kv.1 = k)) = fs.any fun kv => decide (kv.1 = k)
  | _, _, .nil => rfl
  | _, _, .cons _ r => by rw [List.any_cons, List.any_cons, RelKs.any k r]
theorem RelKs.map (k : Key) {v : V} {d : D} (h : RelD C G v d) : ∀ {gs : List (Key × V)} {fs : List (Key × D)}, RelKs C G gs fs → RelKs C G (gs.map fun kv => if kv.1 = k then (kv.1, v) else kv) (fs.map fun kv => if kv.1 = k then (kv.1, d) else kv)
  | _, _, .nil => .nil
  | _, _, .cons (f := f) h1 r => by
    rw [List.map_cons, List.map_cons]
    by_cases e : f = k
    · rw [if_pos e, if_pos e]; exact .cons h (RelKs.map k h r)
    · rw [if_neg e, if_neg e]; exact .cons h1 (RelKs.map k h r)
theorem RelKs.snoc {k : Key} {v : V} {d : D} (h : RelD C G v d) : ∀ {gs : List (Key × V)} {fs : List (Key × D)}, RelKs C G gs fs → RelKs C G (gs ++ [(k, v)]) (fs ++ [(k, d)])
  | _, _, .nil => .cons h .nil
  | _, _, .cons h1 r => .cons h1 (RelKs.snoc h r)
theorem RelKs.put {k : Key} {v : V} {d : D} (h : RelD C G v d) {gs : List (Key × V)} {fs : List (Key × D)} (r : RelKs C G gs fs) : RelKs C G (putK gs k v) (putD fs k d) := by
  unfold putK putD
  rw [r.any k]
  split
  · exact r.map k h
  · exact r.snoc h
theorem RelKs.merge : ∀ {more : List (Key × V)} {mored : List (Key × D)}, RelKs C G more mored → ∀ {gs : List (Key × V)} {fs : List (Key × D)}, RelKs C G gs fs → RelKs C G (mergeK gs more) (mergeD fs mored)
  | _, _, .nil, _, _, r => r
  | _, _, .cons h q, _, _, r => RelKs.merge q (r.put h)
theorem RelKs.length : ∀ {gs : List (Key × V)} {fs : List (Key × D)}, RelKs C G gs fs → gs.length = fs.length
  | _, _, .nil => rfl
  | _, _, .cons _ r => congrArg (· + 1) (RelKs.length r)
theorem asKey_ok {v : V} {d : D} {k : Key} (r : RelD C G v d) (e : asKey d = some k) : v = kV k := by
  cases d <;> simp only [asKey] at e <;> cases e <;> cases r <;> rfl
end
/-- the pairs of a display, from the left -/
def pairsM : List (ME × ME) → Ev → M (List (Key × D))
  | [], _ => fun st => .ok [] st
  | (mk, mv) :: r, ev => (mk ev).bind fun kd => (mv ev).bind fun vd => fun st => match kd with
    | .p d => (match asKey d with
      | some k => (match frz1 vd st with
        | some (x, st1) => ((pairsM r ev).bind fun ps st2 => .ok ((k, x) :: ps) st2) st1
        | none => .stuck)
      | none => .stuck)
    | _ => .stuck
def eDict (ps : List (ME × ME)) : ME := fun ev st => match pairsM ps ev (st ++ [.dic []]) with
  | .ok kvs st' => (match st'[st.length]? with
    | some (.dic []) => if kvs.length ≤ 15 then .ok (.p (.dic (mergeD [] kvs))) (st'.take st.length) else .stuck
    | _ => .stuck)
  | .exn e st' => .exn e (st'.take st.length)
  | .stuck => .stuck
def eDict0 : ME := fun _ st => .ok (.p (.dic [])) st
section
variable {X : Cx} {Wx : WX} {pos : Pos}
theorem se_dict0 : SE X Wx (.Dict [] [] pos) eDict0 := PE.imp pe_dnewK fun σ H Q ⟨W, ev, st, o, e, h⟩ => by
  intro p hp
  obtain ⟨l, o'⟩ := o.grow (u := .dK []) hp
  exact h _ _ _ l o' (.p (.dic upd_same .nil))
inductive SPs (X : Cx) (Wx : WX) (pos : Pos) : List (Option Expr) → List Expr → List (ME × ME) → Prop
  | nil : SPs X Wx pos [] [] []
  | cons {k v : Expr} {ks : List (Option Expr)} {vs : List Expr} {mk mv : ME} {r : List (ME × ME)} : SE X Wx k mk → SE X Wx v mv → SPs X Wx pos ks vs r → SPs X Wx pos (some k :: ks) (v :: vs) ((mk, mv) :: r)
theorem SPs.pps {ks : List (Option Expr)} {vs : List Expr} {ps : List (ME × ME)} (h : SPs X Wx pos ks vs ps) : PPs X pos ks vs (ps.map fun p => (LE (cn X) Wx p.1, LE (cn X) Wx p.2)) := by
  induction h with
  | nil => exact pps_nil
  | cons h1 h2 _ ih => exact pps_cons h1 h2 ih
theorem pairs_ok {C : Cn} {σ : Sg} {ev : Ev} : ∀ {ps : List (ME × ME)} {W : Wd} {H : Hp} {st : Store} {R : List (V × V) → Hp → Prop}, WOk C W H st → EvR C W σ ev →
    Fin C (fun W' (qs : List (V × V)) (ds : List (Key × D)) => ∃ gs : List (Key × V), qs = gs.map (fun kv => (kV kv.1, kv.2)) ∧ RelKs C W'.G gs ds) W σ Wx R (pairsM ps ev st) → tPairs (ps.map fun p => (LE C Wx p.1, LE C Wx p.2)) σ H R
  | [], W, H, st, R, o, e, h => h [] H W (Wd.le.refl W) o ⟨[], rfl, .nil⟩
  | (mk, mv) :: r, W, H, st, R, o, e, h => lift2 (rel := RelV' C) o e h fun x H1 kd W1 st1 l1 o1 r1 h1 => lift2 (rel := RelV' C) o1 (e.mono l1) h1 fun y H2 vd W2 st2 l2 o2 r2 h2 => by
    cases kd with
    | c _ => exact h2.elim
    | p d =>
      simp only at h2
      cases ek : asKey d with
      | none => rw [ek] at h2; exact h2.elim
      | some k =>
        rw [ek] at h2
        simp only at h2
        cases ef : frz1 vd st2 with
        | none => rw [ef] at h2; exact h2.elim
        | some q =>
          obtain ⟨z, st3⟩ := q
          rw [ef] at h2
          obtain ⟨W3, l3, o3, r3⟩ := frz1_ok o2 r2 ef
          have h3 := fin_bind (rel := fun W' (qs : List (V × V)) (ds : List (Key × D)) => ∃ gs : List (Key × V), qs = gs.map (fun kv => (kV kv.1, kv.2)) ∧ RelKs C W'.G gs ds) (Fin.mono l3 h2)
          refine pairs_ok (ps := r) o3 (((e.mono l1).mono l2).mono l3) (h3.imp fun qs H4 ⟨ds, W4, st4, l4, o4, ⟨gs, eq, rg⟩, h4⟩ => ?_)
          have ex : x = kV k := by cases r1 with | p r1 => exact asKey_ok r1 ek
          exact h4 _ H4 W4 (Wd.le.refl W4) o4 ⟨(k, y) :: gs, by rw [ex, eq]; rfl, .cons (r3.mono l4.g) rg⟩
theorem se_dict {ks : List (Option Expr)} {vs : List Expr} {ps : List (ME × ME)} (h : SPs X Wx pos ks vs ps) (hall : ks.all (·.isSome) = true := by rfl) (hl : ks.length = vs.length := by rfl) (h0 : ks ≠ [] := by exact fun z => nomatch z) (h15 : ks.length ≤ 15 := by decide) : SE X Wx (.Dict ks vs pos) (eDict ps) :=
  PE.imp (pe_disp h.pps hall hl h0 h15) fun σ H Q ⟨W, ev, st, o, e, q⟩ => by
    intro p hp
    obtain ⟨l1, o1⟩ := o.newCell (u := .dK []) (c := .dic []) hp ⟨o.same.free hp, [], upd_same, .nil⟩
    have hk : (W.al ++ [p])[st.length]? = some p := by rw [← o.len, List.getElem?_append_right (Nat.le_refl _)]; simp
    refine pairs_ok o1 (e.mono l1) ?_
    have q : Fin (cn X) (RelV' (cn X)) W σ Wx Q (match pairsM ps ev (st ++ [.dic []]) with
      | .ok kvs st' => (match st'[st.length]? with
        | some (.dic []) => if kvs.length ≤ 15 then .ok (.p (.dic (mergeD [] kvs))) (st'.take st.length) else .stuck
        | _ => .stuck)
      | .exn e st' => .exn e (st'.take st.length)
      | .stuck => .stuck) := q
    cases z : pairsM ps ev (st ++ [.dic []]) with
    | stuck => rw [z] at q; exact q.elim
    | exn x st' =>
      rw [z] at q
      exact fun cls d H' W' l' o' r' => q cls d H' ⟨W'.G, W'.al.take st.length⟩ ((l1.trans l').cut (Nat.le_of_eq o.len)) (o'.cut _) r'
    | ok kvs st' =>
      rw [z] at q
      intro qs H' W' l' o' ⟨gs, eq, rg⟩
      have hk' := l'.at hk
      simp only at q
      split at q
      · rename_i hc
        split at q
        · rename_i h15'
          obtain ⟨hg, hs, hv, rv⟩ := o'.cel st.length p _ hk' hc
          cases rv
          refine ⟨hv, gs, eq, by rw [rg.length]; exact h15', ?_⟩
          have rm := RelKs.merge rg (gs := []) (fs := []) .nil
          have o2 := o'.write (u := .dK (mergeK [] gs)) (c := .dic (mergeD [] kvs)) hk' hg ⟨hg, _, upd_same, rm⟩
          obtain ⟨l3, o3⟩ := o2.freeze hk' hg upd_same
          have o4 := o3.cut st.length
          have et : ((st'.set st.length (Cell.dic (mergeD [] kvs))).set st.length Cell.dead).take st.length = st'.take st.length := by rw [List.take_set_of_le (Nat.le_refl _), List.take_set_of_le (Nat.le_refl _)]
          rw [et] at o4
          exact q _ _ _ (((l1.trans l').trans l3).cut (Nat.le_of_eq o.len)) o4 (.p (.dic upd_same (rm.mono l3.g)))
        · exact q.elim
      · exact q.elim
end

/-! ### the law's end -/
/-- the promise of the law's def: handed the script, it gives True -/
theorem law_goal {P : Program} {w : World} {K : PySem.W.Frag} {mg : Str → Option Value} {base : Heap} {k : Nat} {fa : Addr} {fd : FuncData} {x : Str} {m : List Vl → M Vl} (F : FnG P w K mg base k fa fd [x] (spM ⟨K, mg⟩ 1 m)) {a : Addr} {ns : List Int} {H : Hp}
    (hs : SqL K H a (ns.map V.int)) (hm : ∃ st', m [.p (.rl (ns.map D.int))] [] = .ok (.p (.bl true)) st') : spM ⟨K, mg⟩ 1 m [.ref a] H (fun v _ => v = .bl true) fun _ _ _ => False := by
  obtain ⟨st', e⟩ := hm
  refine ⟨⟨H, []⟩, _, [], rfl, ⟨Same.refl _, rfl, List.nodup_nil, fun k a c h => by simp at h⟩, .cons (.p (.rl hs (RelDs.of_ints ns))) .nil, ?_⟩
  rw [e]
  intro x H' W' l o r
  cases r with
  | p r => cases r; rfl
end Sim
end

section
/-! Sim 10: from the law's promise to the goal that the head leaves. -/
namespace Sim
open PySem PySem.Spec PyProof.Rows L2 RZ

theorem clr_caller : Clr callerA := rfl
section
variable {P : Program} {w : World} {K : PySem.W.Frag} {mg mb : Str → Option Value} {k : Nat} {fa a : Addr} {fd : FuncData} {x : Str} {m : List Vl → M Vl} {s1 : Shared} {vs : List Value} {ns : List Int}
/-- from a heap in which nothing but the script may be tracked -/
theorem law_from (kin : K.In s1.heap) (hg : s1.heap.Ns mainGlobals mg) (hb : s1.heap.Ns builtinsNs mb) (hbb : ∀ y : Str, y ≠ "__name__" → mb y = bootBuiltins y) (lim : s1.heap.NoLimit) (gen : s1.gens = #[])
    (ob : s1.heap.get? a = some { cls := .type "list", data := .seq vs.toArray }) (room : Room k callerA) (F : ∀ base : Heap, K.In base → base.Ns mainGlobals mg → FnG P w K mg base k fa fd [x] (spM ⟨K, mg⟩ 1 m))
    (bnd : ∀ (s : Shared) (u : Value), BindsTo s fd ⟨[u], []⟩ [(x, u)]) (hm : ∃ st', m [.p (.rl (ns.map D.int))] [] = .ok (.p (.bl true)) st') {H : Hp} (only : L2.Only H) (seq : SqL K H a (ns.map V.int)) (ok : HOk P w H s1.heap)
    (at_ : ∀ b, H b ≠ none → b = a) (noK : H a ≠ none → K.lookup a = none) :
    codeAny (model P w) callerA (.call (.ref fa) ⟨[.ref a], []⟩) (fun r s' => r = .ok (.ret (.bool true)) ∧ OldK s1.heap s'.heap ∧ s'.os = s1.os ∧ AllBare s'.gens) s1 := by
  have tracked : ∀ {b : Addr} {u : HO}, H b = some u → b = a := fun {b u} e => at_ b fun z => by rw [z] at e; cases e
  have under : ∀ {b : Addr} {o : Obj}, s1.heap.get? b = some o → H b = none → (hidT s1.heap H).get? b = some o := fun e n => hidT_get e n
  have undict : ∀ {b : Addr} {o : Obj} {es : Array DictEntry} {ep : Nat}, s1.heap.get? b = some o → o.data = .dict es ep → H b = none := fun {b o es ep} e d => by
    cases hq : H b with
    | none => rfl
    | some u =>
      have eb := tracked hq
      rw [eb, ob] at e
      injection e with e
      rw [← e] at d
      cases d
  have names : ∀ {b : Addr} {f : Str → Option Value}, s1.heap.Ns b f → (hidT s1.heap H).Ns b f := fun ⟨o, es, ep, e, d, r⟩ => ⟨o, es, ep, under e (undict e d), d, r⟩
  have kin' : K.In (hidT s1.heap H) := fun b o e => under (kin b o e) (by
    cases hq : H b with
    | none => rfl
    | some u =>
      have eb := tracked hq
      subst eb
      rw [noK (by rw [hq]; exact fun z => nomatch z)] at e
      cases e)
  have md : Mod K mg (hidT s1.heap H) := ⟨kin', names hg, ⟨mb, names hb, hbb⟩, by obtain ⟨mc, h1, h2⟩ := lim; exact ⟨mc, names h1, h2⟩⟩
  have nofr : ∀ b ∈ frs ([] : List Env), H b = none := fun b hb => by simp [frs] at hb
  have e0 : Env0 P w K mg (hidT s1.heap H) callerA [] s1 H := ⟨rfl, md, fun b o e => of_hidT e, Nat.le_of_eq (hidT_size _ _), trivial, nofr, ok, .of_eq gen⟩
  have run := (F _ kin' (names hg)).run callerA [] s1 H ⟨[.ref a], []⟩ [.ref a] [.ref a] (fun v _ => v = .bl true) (fun _ _ _ => False) clr_caller room e0 (bnd s1 (.ref a)) (.cons rfl .nil) (law_goal (F _ kin' (names hg)) seq hm)
  refine codeAny_mono run fun r s' h => ?_
  match r, h with
  | .error e, h =>
    obtain ⟨_, _, _, _, _, _, _, _, _, _, _, _, z⟩ := h
    exact z.elim
  | .ok .next, h => exact h.elim
  | .ok .brk, h => exact h.elim
  | .ok .cont, h => exact h.elim
  | .ok (.ret u), h =>
    obtain ⟨v, H', same, bare, un, ok', rv, e⟩ := h
    have e : v = .bl true := e
    rw [e] at rv
    have eu : u = Value.bool true := rv
    rw [eu]
    refine ⟨rfl, OldK.of_keep fun b o eb => ?_, same, bare⟩
    rcases only b with z | ⟨o2, xs, z⟩
    · exact un.keep b o eb z (by simp [frs]) (by simp)
    · obtain ⟨h1, _⟩ := ok b _ z
      obtain ⟨h2, _⟩ := ok' b _ (un.frzs b o2 _ z)
      rw [h1] at eb
      rw [← eb]
      exact h2
theorem law_runs (kin : K.In s1.heap) (hg : s1.heap.Ns mainGlobals mg) (hb : s1.heap.Ns builtinsNs mb) (hbb : ∀ y : Str, y ≠ "__name__" → mb y = bootBuiltins y) (lim : s1.heap.NoLimit) (gen : s1.gens = #[])
    (ob : s1.heap.get? a = some { cls := .type "list", data := .seq vs.toArray }) (isI : IntsAre vs ns) (few : ns.length ≤ sizeLine) (room : Room k callerA) (F : ∀ base : Heap, K.In base → base.Ns mainGlobals mg → FnG P w K mg base k fa fd [x] (spM ⟨K, mg⟩ 1 m))
    (bnd : ∀ (s : Shared) (u : Value), BindsTo s fd ⟨[u], []⟩ [(x, u)]) (hm : ∃ st', m [.p (.rl (ns.map D.int))] [] = .ok (.p (.bl true)) st') :
    codeAny (model P w) callerA (.call (.ref fa) ⟨[.ref a], []⟩) (fun r s' => r = .ok (.ret (.bool true)) ∧ OldK s1.heap s'.heap ∧ s'.os = s1.os ∧ AllBare s'.gens) s1 := by
  have rel := vals_ints isI
  cases hk : K.lookup a with
  | some o =>
    have e := kin a o hk
    rw [ob] at e
    injection e with e
    subst e
    refine law_from (H := fun _ => none) kin hg hb hbb lim gen ob room F bnd hm (fun _ => .inl rfl) (.inr ⟨_, vs.toArray, _, hk, rfl, rfl, rfl, ?_, ?_⟩) (fun b u z => nomatch z) (fun b z => absurd rfl z) fun z => absurd rfl z
    · rw [List.size_toArray, isI.length]; exact few
    · simpa using rel
  | none =>
    let S : HO := .frz { cls := .type "list", data := .seq vs.toArray } (.lst (ns.map V.int))
    have self : upd (fun _ => none) a S a = some S := upd_same
    refine law_from (H := upd (fun _ => none) a S) kin hg hb hbb lim gen ob room F bnd hm (fun b => ?_) (.inl (.inr ⟨_, self⟩)) (fun b u z => ?_) (fun b z => ?_) fun _ => hk
    · by_cases e : b = a
      · subst e; exact .inr ⟨_, _, self⟩
      · exact .inl (upd_ne e)
    · by_cases e : b = a
      · subst e
        rw [self] at z
        injection z with z
        subst z
        exact ⟨ob, by rw [List.length_map]; exact few, vs, _, rel, ob⟩
      · rw [upd_ne e] at z; cases z
    · by_cases e : b = a
      · exact e
      · exact absurd (upd_ne e) z
end
/-- the goal that k_head leaves, from the mirror of the law -/
theorem walkG {l : PySem.W.OpenLaw} {n k : Nat} {q : Program} {loose : List Str} {XP : (Str → Option Value) → Heap → Prop} {YP : World → Heap → Prop} {d : DefRec} {K : Params → PySem.W.Frag} {x : Str} {m : List Vl → M Vl}
    (most : l.most = some n) (few : n ≤ sizeLine) (nod : d.params.defaults = []) (room : Room k callerA) (kin : ∀ (w : World) (h : Heap), YP w h → (K w.params).In h)
    (F : ∀ (w : World) (mg : Str → Option Value) (fa : Addr) (h : Heap), (K w.params).In h → h.Ns mainGlobals mg → mg d.name = some (.ref fa) →
      ∃ fd : FuncData, (∀ (s : Shared) (u : Value), BindsTo s fd ⟨[u], []⟩ [(x, u)]) ∧ ∀ base : Heap, (K w.params).In base → base.Ns mainGlobals mg → FnG l.prog w (K w.params) mg base k fa fd [x] (spM ⟨K w.params, mg⟩ 1 m))
    (hm : ∀ ns : List Int, ns.length ≤ n → ∃ st', m [.p (.rl (ns.map D.int))] [] = .ok (.p (.bl true)) st') : PySem.W.WalkO q loose XP YP l.row.toRowW d [] (fun f vs => PySem.call f vs) :=
  Att.attach_call most nod fun w s0 s1 mg mb fa o pm cd doc a vs ns G Y ho hd hcd hmg hobj hints hlen hgen => by
    have k0 := kin w _ Y
    obtain ⟨fd, bnd, H⟩ := F w mg fa _ k0 G.T.g hmg
    exact law_runs k0 G.T.g G.T.b G.T.builtins G.T.nolimit hgen hobj hints (Nat.le_trans hlen few) room H bnd (hm ns hlen)
end Sim
namespace Sim
open PySem L2
theorem u65 {A : Around} {k : Nat} (hr : Room k A) : A.units + 65 < cLine := by have := hr.un; omega
end Sim
namespace Sim
open PySem PySem.Spec PyProof.Rows L2
theorem dfl_of {K : PySem.W.Frag} {t : Addr} {dvs : List V} (h : ∃ (od : Option Addr) (its : List Value) (n : Nat) (sl : Array (Option Value)), K.lookup t = some ⟨.type "tuple", od, .seq its.toArray n, sl⟩ ∧ Vals dvs its) (hd : dvs ≠ []) : DflV K (.ref t) dvs := by
  obtain ⟨od, its, n, sl, h1, h2⟩ := h
  exact .inr ⟨hd, t, _, its, n, rfl, h1, rfl, h2⟩
end Sim
end

section
/-! Sim P1: reasoning about mirrors. -/
namespace Sim
open PySem PySem.Spec PyProof.Rows L2 RZ

/-- what m does without the store -/
def Pu {α : Type} (m : M α) (a : α) : Prop := ∀ st, m st = .ok a st
theorem take_len (st : Store) : st.take st.length = st := List.take_length
theorem Pu.bind {α β : Type} {m : M α} {f : α → M β} {a : α} {b : β} (h : Pu m a) (h2 : Pu (f a) b) : Pu (m.bind f) b := fun st => by
  show (match m st with | .ok a st' => f a st' | .exn e st' => .exn e st' | .stuck => .stuck) = _
  rw [h st]
  exact h2 st
theorem bind_ok {α β : Type} {m : M α} {f : α → M β} {a : α} {st st' : Store} (h : m st = .ok a st') : m.bind f st = f a st' := by
  show (match m st with | .ok a st' => f a st' | .exn e st' => .exn e st' | .stuck => .stuck) = _
  rw [h]
/-- a comprehension over data that stays, element by element -/
theorem compN_pure {t : Tgt} {c : MT} {m : ME} {k : Nat} {ev : Ev} {v : Vl} {xs : List D} (hv : ∀ st, seqV st v = some xs) (p : D → Bool) (f : D → D) :
    ∀ (rest done : List D) (n : Nat) (acc : List D) (st : Store), xs = done ++ rest → rest.length < n → acc.length + rest.length ≤ 16777216 → st[k]? = some (.lst acc) →
      (∀ d ∈ rest, ∃ ev1, t.put d ev = some ev1 ∧ (∀ st, c ev1 st = .ok (p d) st) ∧ (p d = true → ∀ st, m ev1 st = .ok (.p (f d)) st)) →
      compN (.seq v) t c m k ev n done.length st = some (st.set k (.lst (acc ++ (rest.filter p).map f)))
  | [], done, n, acc, st, hx, hn, hz, hk, _ => by
    obtain ⟨n, rfl⟩ : ∃ j, n = j + 1 := ⟨n - 1, by simp at hn; omega⟩
    have e : xs[done.length]? = none := by rw [hx]; simp
    have es : st.set k (.lst acc) = st := by
      apply List.ext_getElem?
      intro j
      rw [List.getElem?_set]
      split
      · rename_i e; subst e; rw [hk]; rw [if_pos (List.getElem?_eq_some_iff.mp hk).1]
      · rfl
    simp only [compN, Src.item, hv, Option.map_some, e, List.filter_nil, List.map_nil, List.append_nil, es]
  | d :: rest, done, n, acc, st, hx, hn, hz, hk, h => by
    obtain ⟨n, rfl⟩ : ∃ j, n = j + 1 := ⟨n - 1, by simp at hn; omega⟩
    have e : xs[done.length]? = some d := by rw [hx]; simp
    obtain ⟨ev1, h1, h2, h3⟩ := h d List.mem_cons_self
    have hlt : k < st.length := (List.getElem?_eq_some_iff.mp hk).1
    have hl : (done ++ [d]).length = done.length + 1 := by simp
    cases hp : p d with
    | false =>
      have ih := compN_pure (t := t) (c := c) (m := m) (ev := ev) hv p f rest (done ++ [d]) n acc st (by rw [hx]; simp) (by simp at hn; omega) (by simp at hz; omega) hk fun x hx => h x (List.mem_cons_of_mem _ hx)
      rw [hl] at ih
      simp only [compN, Src.item, hv, Option.map_some, e, h1, h2, hp, List.filter_cons, ih, Bool.false_eq_true, if_false]
    | true =>
      have hpush : pushC k (.p (f d)) st = some ((), st.set k (.lst (acc ++ [f d]))) := by
        simp only [pushC, frz1, hk]
        rw [if_pos (by simp at hz; omega)]
      have ih := compN_pure (t := t) (c := c) (m := m) (ev := ev) hv p f rest (done ++ [d]) n (acc ++ [f d]) (st.set k (.lst (acc ++ [f d]))) (by rw [hx]; simp) (by simp at hn; omega) (by simp at hz ⊢; omega) (by rw [List.getElem?_set_self hlt]) fun x hx => h x (List.mem_cons_of_mem _ hx)
      rw [hl] at ih
      simp only [compN, Src.item, hv, Option.map_some, e, h1, h2, hp, List.filter_cons, h3 hp, hpush, ih, if_true, List.map_cons, List.set_set, List.append_assoc, List.singleton_append]
theorem FU_gt {n : Nat} (h : n ≤ 16777216) : n < FU := Nat.lt_of_le_of_lt h (Nat.lt_of_lt_of_le (by decide) FU_big)
/-- .. the whole of it -/
theorem comp_pure {mi : MI} {t : Tgt} {c : MT} {m : ME} {vs : List Nat} {ev : Ev} {v : Vl} {xs : List D} (hi : ∀ st, mi ev st = .ok (.seq v) st) (hv : ∀ st, seqV st v = some xs) (p : D → Bool) (f : D → D) (hz : xs.length ≤ 16777216)
    (h : ∀ d ∈ xs, ∃ ev1, t.put d (wipeE ev vs) = some ev1 ∧ (∀ st, c ev1 st = .ok (p d) st) ∧ (p d = true → ∀ st, m ev1 st = .ok (.p (f d)) st)) :
    ∀ st, eComp mi t c m vs ev st = .ok (.p (.lst ((xs.filter p).map f))) st := fun st => by
  have hk : (st ++ [Cell.lst []])[st.length]? = some (.lst []) := by simp
  have q := compN_pure (t := t) (c := c) (m := m) (k := st.length) (ev := wipeE ev vs) hv p f xs [] FU [] (st ++ [.lst []]) (by simp) (FU_gt hz) (by simpa using hz) hk h
  have e : mi ev st = .ok (.seq v) st := hi st
  show (mi ev).bind _ st = _
  rw [bind_ok e]
  have q : compN (.seq v) t c m st.length (wipeE ev vs) FU 0 (st ++ [.lst []]) = some ((st ++ [Cell.lst []]).set st.length (.lst ((xs.filter p).map f))) := by simpa using q
  have e2 : ((st ++ [Cell.lst []]).set st.length (.lst ((xs.filter p).map f))) = st ++ [.lst ((xs.filter p).map f)] := by
    rw [List.set_append_right _ _ (Nat.le_refl _)]; simp
  rw [e2] at q
  simp only [q]
  simp [exD]
theorem comp_all {mi : MI} {t : Tgt} {m : ME} {vs : List Nat} {ev : Ev} {v : Vl} {xs : List D} (hi : ∀ st, mi ev st = .ok (.seq v) st) (hv : ∀ st, seqV st v = some xs) (f : D → D) (hz : xs.length ≤ 16777216)
    (h : ∀ d ∈ xs, ∃ ev1, t.put d (wipeE ev vs) = some ev1 ∧ ∀ st, m ev1 st = .ok (.p (f d)) st) : ∀ st, eComp mi t tYesM m vs ev st = .ok (.p (.lst (xs.map f))) st := fun st => by
  have q := comp_pure (c := tYesM) hi hv (fun _ => true) f hz (fun d hd => by obtain ⟨ev1, h1, h2⟩ := h d hd; exact ⟨ev1, h1, fun _ => rfl, fun _ => h2⟩) st
  have e : xs.filter (fun _ => true) = xs := List.filter_eq_self.mpr fun _ _ => rfl
  rw [e] at q
  exact q

/-! ### runs over a vessel: the cell k holds [cells, turn, rest] -/
def ves (cells : List Int) (t r : Int) : Cell := .lst [.lst (cells.map D.int), .int t, .int r]
/-- m runs, at most c turns more; its value is such -/
def Rn (cells : List Int) (k : Nat) {α : Type} (m : M α) (c : Nat) (P : α → Prop) : Prop := ∀ (st : Store) (t r : Int), st[k]? = some (ves cells t r) → 0 ≤ t → t + c ≤ 1000000 → 0 ≤ r →
  ∃ a t' r', m st = .ok a (st.set k (ves cells t' r')) ∧ 0 ≤ t' ∧ t' ≤ t + c ∧ 0 ≤ r' ∧ P a
section
variable {cells : List Int} {k : Nat} {α β : Type}
theorem set_same {st : Store} {c : Cell} (h : st[k]? = some c) : st.set k c = st := by
  apply List.ext_getElem?
  intro j
  rw [List.getElem?_set]
  split
  · rename_i e; subst e; rw [h]; rw [if_pos (List.getElem?_eq_some_iff.mp h).1]
  · rfl
theorem Rn.pu {m : M α} {a : α} (h : Pu m a) {P : α → Prop} (p : P a) {c : Nat} : Rn cells k m c P := fun st t r hk h0 hc hr =>
  ⟨a, t, r, by rw [set_same hk]; exact h st, h0, by omega, hr, p⟩
theorem Rn.imp {m : M α} {c c' : Nat} {P P' : α → Prop} (h : Rn cells k m c P) (hc : c ≤ c') (hp : ∀ a, P a → P' a) : Rn cells k m c' P' := fun st t r hk h0 hb hr => by
  obtain ⟨a, t', r', e, h1, h2, h3, p⟩ := h st t r hk h0 (by omega) hr
  exact ⟨a, t', r', e, h1, by omega, h3, hp a p⟩
theorem Rn.bind {m : M α} {f : α → M β} {c c' : Nat} {P : α → Prop} {Q : β → Prop} (h : Rn cells k m c P) (h2 : ∀ a, P a → Rn cells k (f a) c' Q) : Rn cells k (m.bind f) (c + c') Q := fun st t r hk h0 hb hr => by
  obtain ⟨a, t1, r1, e, a1, a2, a3, p⟩ := h st t r hk h0 (by omega) hr
  have hlt : k < st.length := (List.getElem?_eq_some_iff.mp hk).1
  obtain ⟨b, t2, r2, e2, b1, b2, b3, q⟩ := h2 a p (st.set k (ves cells t1 r1)) t1 r1 (by rw [List.getElem?_set_self hlt]) a1 (by omega) a3
  refine ⟨b, t2, r2, ?_, b1, by omega, b3, q⟩
  rw [bind_ok e, e2, List.set_set]
/-- the vessel's part of the store -/
theorem Rn.at {m : M α} {c : Nat} {P : α → Prop} (h : Rn cells k m c P) {st : Store} {t r : Int} (hk : st[k]? = some (ves cells t r)) (h0 : 0 ≤ t) (hb : t + c ≤ 1000000) (hr : 0 ≤ r) :
    ∃ a t' r', m st = .ok a (st.set k (ves cells t' r')) ∧ 0 ≤ t' ∧ t' ≤ t + c ∧ 0 ≤ r' ∧ P a := h st t r hk h0 hb hr

/-! ### statements as one chain -/
/-- a statement: on with names, or handed back -/
def sM (s : MS) (ev : Ev) : M (Ev ⊕ Vl) := fun st => match s ev st with
  | .nx ev' st' => .ok (.inl ev') st'
  | .rt v st' => .ok (.inr v) st'
  | .ex e _ st' => .exn e st'
  | _ => .stuck
def M.ret (a : α) : M α := fun st => .ok a st
theorem ret_bind (a : α) (f : α → M β) : (M.ret a).bind f = f a := rfl
theorem sM_pass (ev : Ev) : sM sPass ev = M.ret (.inl ev) := rfl
theorem sM_seq (a b : MS) (ev : Ev) : sM (sSeq a b) ev = (sM a ev).bind fun r => match r with | .inl ev' => sM b ev' | .inr v => M.ret (.inr v) := by
  funext st
  simp only [sM, sSeq, M.bind]
  generalize a ev st = q
  cases q <;> rfl
theorem sM_bind {γ : Type} (m : Ev → M γ) (f : γ → MS) (ev : Ev) : sM (sBind m f) ev = (m ev).bind fun a => sM (f a) ev := by
  funext st
  simp only [sM, sBind, M.bind]
  generalize m ev st = q
  cases q <;> rfl
theorem sM_asg (i : Nat) (m : ME) (ev : Ev) : sM (sAsg i m) ev = (m ev).bind fun v => M.ret (.inl (ev.set i (some v))) := by unfold sAsg; rw [sM_bind]; rfl
theorem sM_ret (m : ME) (ev : Ev) : sM (sRet m) ev = (m ev).bind fun v => M.ret (.inr v) := by unfold sRet; rw [sM_bind]; rfl
theorem sM_expr (m : ME) (ev : Ev) : sM (sExpr m) ev = (m ev).bind fun _ => M.ret (.inl ev) := by unfold sExpr; rw [sM_bind]; rfl
theorem sM_if (t : MT) (a b : MS) (ev : Ev) : sM (Sim.sIf t a b) ev = (t ev).bind fun k => if k = true then sM a ev else sM b ev := by
  unfold Sim.sIf
  rw [sM_bind]
  congr 1
  funext k
  cases k <;> rfl
theorem sM_par (i j : Nat) (m : MA) (ev : Ev) : sM (sPar i j m) ev = (m ev).bind fun vs => match vs with | [v, u] => M.ret (.inl ((ev.set i (some v)).set j (some u))) | _ => fun _ => .stuck := by
  unfold sPar
  rw [sM_bind]
  congr 1
  funext vs
  match vs with
  | [] => rfl
  | [_] => rfl
  | [_, _] => rfl
  | _ :: _ :: _ :: _ => rfl
theorem sM_asgT (t : Tgt) (m : ME) (ev : Ev) : sM (sAsgT t m) ev = (m ev).bind fun v => match v with | .p d => (match t.put d ev with | some ev' => M.ret (.inl ev') | none => fun _ => .stuck) | _ => fun _ => .stuck := by
  unfold sAsgT
  rw [sM_bind]
  congr 1
  funext v
  cases v with
  | c _ => rfl
  | p d =>
    funext st
    show sM (fun ev st => match t.put d ev with | some ev' => .nx ev' st | none => .stuck) ev st = _
    cases h : t.put d ev <;> simp only [sM, h, M.ret]
/-- a def from its chain -/
theorem Rn.fn {n N : Nat} {body : MS} {as : List Vl} {c : Nat} {P : Vl → Prop} (h : Rn cells k (sM body (as.map some ++ List.replicate (N - n) none)) c fun r => match r with | .inl _ => P (.p .non) | .inr v => (∃ d, v = .p d) ∧ P v) :
    Rn cells k (mFun n N body as) c P := fun st t r hk h0 hb hr => by
  obtain ⟨a, t', r', e, h1, h2, h3, p⟩ := h st t r hk h0 hb hr
  have hl : (st.set k (ves cells t' r')).take st.length = st.set k (ves cells t' r') := by
    have : (st.set k (ves cells t' r')).length = st.length := List.length_set
    rw [← this]; exact take_len _
  unfold sM at e
  cases q : body (as.map some ++ List.replicate (N - n) none) st with
  | stuck => rw [q] at e; cases e
  | bk _ _ => rw [q] at e; cases e
  | ct _ _ => rw [q] at e; cases e
  | ex _ _ _ => rw [q] at e; cases e
  | nx ev' st' =>
    rw [q] at e
    cases e
    refine ⟨.p .non, t', r', ?_, h1, h2, h3, p⟩
    show (match body (as.map some ++ List.replicate (N - n) none) st with | .rt v st' => exitV st.length v st' | .nx _ st' => .ok (.p .non) (st'.take st.length) | .ex e _ st' => .exn e (st'.take st.length) | _ => .stuck) = _
    rw [q]
    show Res.ok _ _ = _
    rw [hl]
  | rt v st' =>
    rw [q] at e
    cases e
    obtain ⟨⟨d, rfl⟩, p⟩ := p
    refine ⟨.p d, t', r', ?_, h1, h2, h3, p⟩
    show (match body (as.map some ++ List.replicate (N - n) none) st with | .rt v st' => exitV st.length v st' | .nx _ st' => .ok (.p .non) (st'.take st.length) | .ex e _ st' => .exn e (st'.take st.length) | _ => .stuck) = _
    rw [q]
    show Res.ok _ _ = _
    rw [hl]
/-- pure defs -/
theorem Pu.fn {n N : Nat} {body : MS} {as : List Vl} {d : D} (h : Pu (sM body (as.map some ++ List.replicate (N - n) none)) (.inr (.p d))) : Pu (mFun n N body as) (.p d) := fun st => by
  have e := h st
  unfold sM at e
  show (match body (as.map some ++ List.replicate (N - n) none) st with | .rt v st' => exitV st.length v st' | .nx _ st' => .ok (.p .non) (st'.take st.length) | .ex e _ st' => .exn e (st'.take st.length) | _ => .stuck) = _
  cases q : body (as.map some ++ List.replicate (N - n) none) st with
  | stuck => rw [q] at e; cases e
  | bk _ _ => rw [q] at e; cases e
  | ct _ _ => rw [q] at e; cases e
  | ex _ _ _ => rw [q] at e; cases e
  | nx ev' st' => rw [q] at e; cases e
  | rt v st' =>
    rw [q] at e
    cases e
    show Res.ok _ _ = _
    rw [take_len]
/-- a comprehension whose elements draw -/
theorem compN_run {src : Src} {t : Tgt} {m : ME} {ev : Ev} {n : Nat} {item : Nat → D} {P : Nat → D → Prop} {c : Nat} (hs : ∀ i st, src.item i st = some (if i < n then some (item i) else none))
    (h : ∀ i, i < n → ∃ ev1, t.put (item i) ev = some ev1 ∧ Rn cells k (m ev1) c fun v => ∃ d, v = .p d ∧ P i d) :
    ∀ (left i f : Nat) (acc : List D) (st : Store) (tt r : Int), i + left = n → left < f → acc.length = i → n ≤ 16777216 → (∀ j d, acc[j]? = some d → P j d) → k < st.length → st[k]? = some (ves cells tt r) → 0 ≤ tt → tt + (left * c : Nat) ≤ 1000000 → 0 ≤ r →
      ∃ ds t' r', compN src t tYesM m st.length ev f i (st ++ [.lst acc]) = some (st.set k (ves cells t' r') ++ [.lst ds]) ∧ 0 ≤ t' ∧ t' ≤ tt + (left * c : Nat) ∧ 0 ≤ r' ∧ ds.length = n ∧ ∀ j d, ds[j]? = some d → P j d
  | 0, i, f, acc, st, tt, r, hi, hf, ha, hz, hP, hk, hv, h0, hb, hr => by
    obtain ⟨f, rfl⟩ : ∃ j, f = j + 1 := ⟨f - 1, by omega⟩
    refine ⟨acc, tt, r, ?_, h0, by omega, hr, by omega, hP⟩
    have e : ¬ i < n := by omega
    simp only [compN, hs, if_neg e, set_same hv]
  | left + 1, i, f, acc, st, tt, r, hi, hf, ha, hz, hP, hk, hv, h0, hb, hr => by
    obtain ⟨f, rfl⟩ : ∃ j, f = j + 1 := ⟨f - 1, by omega⟩
    have hin : i < n := by omega
    obtain ⟨ev1, h1, h2⟩ := h i hin
    have hc : ((left + 1) * c : Nat) = left * c + c := Nat.succ_mul _ _
    obtain ⟨v, t1, r1, e1, a1, a2, a3, d, rfl, p⟩ := h2 (st ++ [.lst acc]) tt r (by rw [List.getElem?_append_left hk]; exact hv) h0 (by omega) hr
    have e2 : (st ++ [Cell.lst acc]).set k (ves cells t1 r1) = st.set k (ves cells t1 r1) ++ [.lst acc] := by rw [List.set_append_left _ _ hk]
    rw [e2] at e1
    have hpush : pushC st.length (.p d) (st.set k (ves cells t1 r1) ++ [.lst acc]) = some ((), st.set k (ves cells t1 r1) ++ [.lst (acc ++ [d])]) := by
      have hl : (st.set k (ves cells t1 r1)).length = st.length := List.length_set
      generalize st.set k (ves cells t1 r1) = S at hl ⊢
      rw [← hl]
      have g : (S ++ [Cell.lst acc])[S.length]? = some (.lst acc) := by rw [List.getElem?_append_right (Nat.le_refl _)]; simp
      simp only [pushC, frz1, g]
      rw [if_pos (by omega), List.set_append_right _ _ (Nat.le_refl _)]
      simp
    have hl : (st.set k (ves cells t1 r1)).length = st.length := List.length_set
    obtain ⟨ds, t2, r2, e3, b1, b2, b3, b4, b5⟩ := compN_run (src := src) (t := t) (m := m) (ev := ev) hs h left (i + 1) f (acc ++ [d]) (st.set k (ves cells t1 r1)) t1 r1 (by omega) (by omega) (by simp [ha]) hz (fun j x hx => by
      by_cases hj : j < acc.length
      · rw [List.getElem?_append_left hj] at hx; exact hP j x hx
      · have e4 : j = acc.length := by
          have := (List.getElem?_eq_some_iff.mp hx).1
          simp at this; omega
        subst e4
        rw [List.getElem?_append_right (Nat.le_refl _)] at hx
        simp at hx
        subst hx
        rw [ha]; exact p) (by rw [hl]; exact hk) (by rw [List.getElem?_set_self hk]) a1 (by omega) a3
    rw [hl, List.set_set] at e3
    refine ⟨ds, t2, r2, ?_, b1, by omega, b3, b4, b5⟩
    simp only [compN, hs, if_pos hin, h1, tYesM, e1, hpush, e3]
theorem Rn.comp {mi : MI} {src : Src} {t : Tgt} {m : ME} {vs : List Nat} {ev : Ev} {n : Nat} {item : Nat → D} {P : Nat → D → Prop} {c : Nat} (hi : Pu (mi ev) src) (hs : ∀ i st, src.item i st = some (if i < n then some (item i) else none)) (hz : n ≤ 16777216)
    (h : ∀ i, i < n → ∃ ev1, t.put (item i) (wipeE ev vs) = some ev1 ∧ Rn cells k (m ev1) c fun v => ∃ d, v = .p d ∧ P i d) :
    Rn cells k (eComp mi t tYesM m vs ev) (n * c) fun v => ∃ ds, v = .p (.lst ds) ∧ ds.length = n ∧ ∀ j d, ds[j]? = some d → P j d := fun st tt r hk h0 hb hr => by
  have hlt : k < st.length := (List.getElem?_eq_some_iff.mp hk).1
  obtain ⟨ds, t', r', e, a1, a2, a3, a4, a5⟩ := compN_run hs h n 0 FU [] st tt r (by omega) (FU_gt hz) rfl hz (fun j d hd => by simp at hd) hlt hk h0 hb hr
  refine ⟨.p (.lst ds), t', r', ?_, a1, a2, a3, ds, rfl, a4, a5⟩
  have hl : (st.set k (ves cells t' r')).length = st.length := List.length_set
  generalize st.set k (ves cells t' r') = S at e hl ⊢
  have g : (S ++ [Cell.lst ds])[st.length]? = some (.lst ds) := by rw [← hl, List.getElem?_append_right (Nat.le_refl _)]; simp
  have g2 : (S ++ [Cell.lst ds]).take st.length = S := by
    rw [List.take_append_of_le_length (Nat.le_of_eq hl.symm), ← hl]; exact take_len _
  show (mi ev).bind _ st = _
  rw [bind_ok (hi st)]
  simp only [e, g, exD, g2]
/-! a for over ints -/
theorem forN_run {t : Tgt} {body : MS} {lo : Int} {n : Nat} {c : Nat} {I : Nat → Ev → Prop} {R : Vl → Prop}
    (h : ∀ i ev, i < n → I i ev → ∃ ev1, t.put (.int (lo + (i : Nat))) ev = some ev1 ∧ Rn cells k (sM body ev1) c fun r => match r with | .inl ev' => I (i + 1) ev' | .inr v => R v) :
    ∀ (left i f : Nat) (ev : Ev) (st : Store) (tt r : Int), i + left = n → left < f → I i ev → st[k]? = some (ves cells tt r) → 0 ≤ tt → tt + (left * c : Nat) ≤ 1000000 → 0 ≤ r →
      ∃ t' r', 0 ≤ t' ∧ t' ≤ tt + (left * c : Nat) ∧ 0 ≤ r' ∧ ((∃ ev', forN (.ints lo n) t body f i ev st = .nx ev' (st.set k (ves cells t' r')) ∧ I n ev') ∨ ∃ v, forN (.ints lo n) t body f i ev st = .rt v (st.set k (ves cells t' r')) ∧ R v)
  | 0, i, f, ev, st, tt, r, hi, hf, hI, hk, h0, hb, hr => by
    obtain ⟨f, rfl⟩ : ∃ j, f = j + 1 := ⟨f - 1, by omega⟩
    refine ⟨tt, r, h0, by omega, hr, .inl ⟨ev, ?_, by have : i = n := by omega
                                                      subst this; exact hI⟩⟩
    have e : ¬ i < n := by omega
    simp only [forN, Src.item, if_neg e, set_same hk]
  | left + 1, i, f, ev, st, tt, r, hi, hf, hI, hk, h0, hb, hr => by
    obtain ⟨f, rfl⟩ : ∃ j, f = j + 1 := ⟨f - 1, by omega⟩
    have hin : i < n := by omega
    obtain ⟨ev1, h1, h2⟩ := h i ev hin hI
    have hc : ((left + 1) * c : Nat) = left * c + c := Nat.succ_mul _ _
    have hlt : k < st.length := (List.getElem?_eq_some_iff.mp hk).1
    obtain ⟨a, t1, r1, e1, a1, a2, a3, p⟩ := h2 st tt r hk h0 (by omega) hr
    unfold sM at e1
    cases q : body ev1 st with
    | stuck => rw [q] at e1; cases e1
    | bk _ _ => rw [q] at e1; cases e1
    | ct _ _ => rw [q] at e1; cases e1
    | ex _ _ _ => rw [q] at e1; cases e1
    | rt v st' =>
      rw [q] at e1
      cases e1
      refine ⟨t1, r1, a1, by omega, a3, .inr ⟨v, ?_, p⟩⟩
      simp only [forN, Src.item, if_pos hin, h1, q]
    | nx ev' st' =>
      rw [q] at e1
      cases e1
      obtain ⟨t2, r2, b1, b2, b3, b4⟩ := forN_run (t := t) (body := body) h left (i + 1) f ev' (st.set k (ves cells t1 r1)) t1 r1 (by omega) (by omega) p (by rw [List.getElem?_set_self hlt]) a1 (by omega) a3
      rw [List.set_set] at b4
      have e : forN (.ints lo n) t body (f + 1) i ev st = forN (.ints lo n) t body f (i + 1) ev' (st.set k (ves cells t1 r1)) := by simp only [forN, Src.item, if_pos hin, h1, q]
      rw [e]
      exact ⟨t2, r2, b1, by omega, b3, b4⟩
theorem Rn.for {mi : MI} {t : Tgt} {body : MS} {lo : Int} {n : Nat} {c : Nat} {I : Nat → Ev → Prop} {R : Vl → Prop} {ev : Ev} (hi : Pu (mi ev) (.ints lo n)) (hz : n ≤ 16777216) (h0 : I 0 ev)
    (h : ∀ i ev, i < n → I i ev → ∃ ev1, t.put (.int (lo + (i : Nat))) ev = some ev1 ∧ Rn cells k (sM body ev1) c fun r => match r with | .inl ev' => I (i + 1) ev' | .inr v => R v) :
    Rn cells k (sM (sFor mi t body) ev) (n * c) fun r => match r with | .inl ev' => I n ev' | .inr v => R v := fun st tt r hk h1 hb hr => by
  obtain ⟨t', r', a1, a2, a3, a4⟩ := forN_run h n 0 FU ev st tt r (by omega) (FU_gt hz) h0 hk h1 hb hr
  have e : sM (sFor mi t body) ev st = sM (fun ev st => forN (.ints lo n) t body FU 0 ev st) ev st := by
    unfold sFor
    rw [sM_bind, bind_ok (hi st)]
  rw [e]
  unfold sM
  rcases a4 with ⟨ev', q, p⟩ | ⟨v, q, p⟩
  · exact ⟨.inl ev', t', r', by simp only [q], a1, a2, a3, p⟩
  · exact ⟨.inr v, t', r', by simp only [q], a1, a2, a3, p⟩
end
end Sim
end

section
/-! Sim P2: mirrors run by rewriting; the draught. -/
namespace Sim
open PySem PySem.Spec PyProof.Rows L2 RZ

section
variable {α β γ : Type}
theorem bind_assoc (m : M α) (f : α → M β) (g : β → M γ) : (m.bind f).bind g = m.bind fun a => (f a).bind g := by
  funext st
  simp only [M.bind]
  generalize m st = q
  cases q <;> rfl
theorem bind_ret (m : M α) : m.bind M.ret = m := by
  funext st
  simp only [M.bind]
  generalize m st = q
  cases q <;> rfl
theorem Pu.eq {m : M α} {a : α} (h : Pu m a) : m = M.ret a := funext h
theorem Pu.ret (a : α) : Pu (M.ret a) a := fun _ => rfl
end
section
variable {ev : Ev} {v x y : Vl} {m m1 m2 m3 : ME} {a : MA} {t u : MT} {d d1 d2 : D}
theorem x_var0 : eVar 0 (some v :: ev) = M.ret v := rfl
theorem x_varS {i : Nat} {o : Option Vl} : eVar (i + 1) (o :: ev) = eVar i ev := rfl
theorem x_C : eC d ev = M.ret (.p d) := rfl
theorem x_op {g : Vl → Vl → O Vl} : eOp g m1 m2 ev = (m1 ev).bind fun x => (m2 ev).bind fun y => M.of (g x y) := rfl
theorem x_un {g : Vl → O Vl} : eUn g m ev = (m ev).bind fun x => M.of (g x) := rfl
theorem x_A {g : List Vl → O Vl} : eA g a ev = (a ev).bind fun vs => M.of (g vs) := rfl
theorem x_nil : aNil ev = M.ret [] := rfl
theorem x_cons : aCons m a ev = (m ev).bind fun x => (a ev).bind fun xs => M.ret (x :: xs) := rfl
def callM (n k N : Nat) (dfl : List Vl) (perm : List Nat) (m : List Vl → M Vl) (vs zs : List Vl) : M Vl := if vs.length = n ∧ zs.length = k ∧ (arrOf perm vs dfl zs).length = N then m (arrOf perm vs dfl zs) else fun _ => .stuck
theorem x_call {n k N : Nat} {dfl : List Vl} {perm : List Nat} {f : List Vl → M Vl} {as ks : MA} : eCall n k N dfl perm f as ks ev = (as ev).bind fun vs => (ks ev).bind fun zs => callM n k N dfl perm f vs zs := rfl
theorem x_and : eAnd m1 m2 ev = (m1 ev).bind fun x => (M.of (truth x)).bind fun k => if k = true then m2 ev else M.ret x := rfl
theorem x_or : eOr m1 m2 ev = (m1 ev).bind fun x => (M.of (truth x)).bind fun k => if k = true then M.ret x else m2 ev := rfl
theorem x_not : eNot m ev = (m ev).bind fun x => (M.of (truth x)).bind fun k => M.ret (.p (.bl (!k))) := rfl
theorem x_if : eIf t m1 m2 ev = (t ev).bind fun k => if k = true then m1 ev else m2 ev := rfl
theorem x_tV : tV m ev = (m ev).bind asB := rfl
theorem x_tCmp {g : Vl → Vl → O Vl} : tCmp g m1 m2 ev = (m1 ev).bind fun x => (m2 ev).bind fun y => (M.of (g x y)).bind asB := by
  show tV (eOp g m1 m2) ev = _
  rw [x_tV, x_op, bind_assoc]
  congr 1; funext x
  rw [bind_assoc]
theorem x_tTru : tTru m ev = (m ev).bind fun v => M.of (truth v) := rfl
theorem x_tNot : tNot t ev = (t ev).bind fun k => M.ret (!k) := rfl
theorem x_tAnd : tAnd t u ev = (t ev).bind fun k => if k = true then u ev else M.ret false := rfl
theorem x_tOr : tOr t u ev = (t ev).bind fun k => if k = true then M.ret true else u ev := rfl
theorem x_asB {k : Bool} : asB (.p (.bl k)) = M.ret k := rfl
theorem x_sl {lo hi : MO} : eSl m lo hi ev = (m ev).bind fun x => (lo ev).bind fun l => (hi ev).bind fun u => M.of (gSl x l u) := rfl
theorem x_oNone : oNone ev = M.ret none := rfl
theorem x_oSome : oSome m ev = (m ev).bind asI := rfl
theorem x_asI {i : Int} : asI (.p (.int i)) = M.ret (some i) := rfl
/-! truth -/
theorem x_trN : M.of (truth (.p .non)) = M.ret false := rfl
theorem x_trB {k : Bool} : M.of (truth (.p (.bl k))) = M.ret k := rfl
theorem x_trI {i : Int} : M.of (truth (.p (.int i))) = M.ret (i != 0) := rfl
theorem x_trL {xs : List D} : M.of (truth (.p (.lst xs))) = M.ret (!xs.isEmpty) := rfl
theorem x_trR {xs : List D} : M.of (truth (.p (.rl xs))) = M.ret (!xs.isEmpty) := rfl
theorem x_trT {xs : List D} : M.of (truth (.p (.tup xs))) = M.ret (!xs.isEmpty) := rfl
/-! ints -/
variable {i j : Int}
theorem x_add : M.of (gAdd (.p (.int i)) (.p (.int j))) = M.ret (.p (.int (i + j))) := rfl
theorem x_sub : M.of (gSub (.p (.int i)) (.p (.int j))) = M.ret (.p (.int (i - j))) := rfl
theorem x_neg : M.of (gNeg (.p (.int i))) = M.ret (.p (.int (-i))) := rfl
theorem x_lt : M.of (gLt (.p (.int i)) (.p (.int j))) = M.ret (.p (.bl (decide (i < j)))) := rfl
theorem x_le : M.of (gLe (.p (.int i)) (.p (.int j))) = M.ret (.p (.bl (decide (i ≤ j)))) := rfl
theorem x_gt : M.of (gGt (.p (.int i)) (.p (.int j))) = M.ret (.p (.bl (decide (j < i)))) := rfl
theorem x_ge : M.of (gGe (.p (.int i)) (.p (.int j))) = M.ret (.p (.bl (decide (j ≤ i)))) := rfl
theorem x_abs : M.of (gAbs [.p (.int i)]) = M.ret (.p (.int (if i < 0 then -i else i))) := rfl
theorem x_max2 : M.of (gMax2 [.p (.int i), .p (.int j)]) = M.ret (.p (.int (if j > i then j else i))) := rfl
theorem x_min2 : M.of (gMin2 [.p (.int i), .p (.int j)]) = M.ret (.p (.int (if j < i then j else i))) := rfl
theorem x_intI : M.of (gInt [.p (.int i)]) = M.ret (.p (.int i)) := rfl
theorem x_intB {k : Bool} : M.of (gInt [.p (.bl k)]) = M.ret (.p (.int (if k then 1 else 0))) := rfl
theorem of_some {α : Type} {o : O α} {a : α} (h : ∀ st, o st = some (a, st)) : M.of o = M.ret a := funext fun st => by
  show (match o st with | some (a, st') => Res.ok a st' | none => .stuck) = _
  rw [h]; rfl
theorem x_mod (h : j ≠ 0) : M.of (gMod (.p (.int i)) (.p (.int j))) = M.ret (.p (.int (i.fmod j))) := of_some fun st => by
  simp only [gMod, gI, if_pos h, Option.map_some]
theorem x_fdiv (h : divOk j = true) : M.of (gFdiv (.p (.int i)) (.p (.int j))) = M.ret (.p (.int (i.fdiv j))) := of_some fun st => by
  simp only [gFdiv, gI, if_pos h, Option.map_some]
theorem x_mulI (h : mulOk i j = true) : M.of (gMulI (.p (.int i)) (.p (.int j))) = M.ret (.p (.int (i * j))) := of_some fun st => by
  simp only [gMulI, gI, if_pos h, Option.map_some]
theorem x_mulS (h : mulOk i j = true) : M.of (gMulS (.p (.int i)) (.p (.int j))) = M.ret (.p (.int (i * j))) := of_some fun st => by
  simp only [gMulS, gMul, eitherG, gMulI, gI, if_pos h, Option.map_some, Option.some_or]
theorem x_pow (h : 0 ≤ j ∧ j ≤ 1000000 ∧ i.natAbs < 2 ^ 64) : M.of (gPow (.p (.int i)) (.p (.int j))) = M.ret (.p (.int (i ^ j.toNat))) := of_some fun st => by
  simp only [gPow, gI, if_pos h, Option.map_some]
theorem divOk_small {j : Int} (h : 0 < j) (h2 : j < 1073741824) : divOk j = true := by
  unfold divOk
  rw [Bool.or_eq_true, decide_eq_true_eq, decide_eq_true_eq]
  exact .inr ⟨by omega, by omega⟩
theorem mulOk_small {i j : Int} (h : -(2 ^ 64) < i ∧ i < 2 ^ 64) : mulOk i j = true := by
  unfold mulOk
  rw [Bool.or_eq_true, Bool.or_eq_true, decide_eq_true_eq]
  exact .inl (.inl h)
/-! equality -/
theorem pys_ints : ∀ ns : List Int, D.pys (ns.map D.int) = some (ns.map PyData.int)
  | [] => rfl
  | n :: r => by
    show (match D.py (.int n), D.pys (r.map D.int) with | some a, some b => some (a :: b) | _, _ => none) = _
    rw [pys_ints r]; rfl
theorem lay_ints : ∀ ns : List Int, PyData.canLayAll0 (ns.map PyData.int) = true
  | [] => by simp [PyData.canLayAll0]
  | n :: r => by simp [PyData.canLayAll0, PyData.canLay0, lay_ints r]
theorem dep_ints : ∀ ns : List Int, PyData.depthAll (ns.map PyData.int) ≤ 1
  | [] => by simp [PyData.depthAll]
  | n :: r => by have := dep_ints r; simp only [List.map_cons, PyData.depthAll, PyData.depth]; omega
theorem sh_int (i : Int) : SeqAt.shaped (.int i) = true := by simp [SeqAt.shaped, PyData.canLay0, PyData.depth]
theorem sh_ints (ns : List Int) : SeqAt.shaped (.list (ns.map .int)) = true := by
  have := dep_ints ns
  have e : (PyData.list (ns.map .int)).depth = PyData.depthAll (ns.map .int) + 1 := by simp only [PyData.depth]; try omega
  unfold SeqAt.shaped
  rw [e, Bool.and_eq_true, decide_eq_true_eq]
  exact ⟨by simp [PyData.canLay0, lay_ints], by omega⟩
theorem eqv_nil_ints : ∀ ns : List Int, PyData.eqv (.list (ns.map .int)) (.list []) = ns.isEmpty
  | [] => by simp [PyData.eqv, PyData.eqvAll]
  | n :: r => by simp [PyData.eqv, PyData.eqvAll]
theorem x_eqI : M.of (gEq (.p (.int i)) (.p (.int j))) = M.ret (.p (.bl (decide (i = j)))) := of_some fun st => by
  simp only [gEq, eitherG, gStr2, gPy2, Vl.py, D.py, sh_int, and_self, if_true, PyData.eqv, id, Option.none_or]
  by_cases h : i = j <;> simp [h]
theorem x_neI : M.of (gNe (.p (.int i)) (.p (.int j))) = M.ret (.p (.bl (!decide (i = j)))) := of_some fun st => by
  simp only [gNe, eitherG, gStr2, gPy2, Vl.py, D.py, sh_int, and_self, if_true, PyData.eqv, id, Option.none_or]
  by_cases h : i = j <;> simp [h]
variable {s z : Str}
theorem x_eqS : M.of (gEq (.p (.str s)) (.p (.str z))) = M.ret (.p (.bl (decide (s = z)))) := of_some fun st => by simp only [gEq, eitherG, gStr2, id, Option.some_or]
theorem x_neS : M.of (gNe (.p (.str s)) (.p (.str z))) = M.ret (.p (.bl (!decide (s = z)))) := of_some fun st => by simp only [gNe, eitherG, gStr2, id, Option.some_or]
theorem x_isN : M.of (gIs false (.p d) (.p .non)) = M.ret (.p (.bl (match d with | .non => true | _ => false))) := by cases d <;> rfl
theorem x_isnN : M.of (gIs true (.p d) (.p .non)) = M.ret (.p (.bl (match d with | .non => false | _ => true))) := by cases d <;> rfl
/-! displays -/
def frzM : List Vl → M (List D)
  | [] => M.ret []
  | v :: r => (M.of (frz1 v)).bind fun d => (frzM r).bind fun ds => M.ret (d :: ds)
theorem frzM_eq : ∀ vs : List Vl, M.of (frzs vs) = frzM vs
  | [] => rfl
  | v :: r => by
    funext st
    simp only [frzM, ← frzM_eq r, M.of, frzs, M.bind]
    generalize frz1 v st = q
    cases q with
    | none => rfl
    | some q =>
      obtain ⟨d, st1⟩ := q
      simp only []
      generalize frzs r st1 = q
      cases q with
      | none => rfl
      | some q => rfl
def sized (f : List D → Vl) (ds : List D) : M Vl := if ds.length ≤ 16777216 then M.ret (f ds) else fun _ => .stuck
theorem x_lst {vs : List Vl} : M.of (gLst vs) = (frzM vs).bind (sized fun ds => .p (.lst ds)) := by
  funext st
  rw [← frzM_eq]
  simp only [M.of, gLst, M.bind, sized]
  generalize frzs vs st = q
  cases q with
  | none => rfl
  | some q =>
    obtain ⟨ds, st1⟩ := q
    by_cases h : ds.length ≤ 16777216
    · simp only [if_pos h]; rfl
    · simp only [if_neg h]
theorem x_tup {vs : List Vl} : M.of (gTup vs) = (frzM vs).bind (sized fun ds => .p (.tup ds)) := by
  funext st
  rw [← frzM_eq]
  simp only [M.of, gTup, M.bind, sized]
  generalize frzs vs st = q
  cases q with
  | none => rfl
  | some q =>
    obtain ⟨ds, st1⟩ := q
    by_cases h : ds.length ≤ 16777216
    · simp only [if_pos h]; rfl
    · simp only [if_neg h]
theorem x_frz0 : frzM [] = M.ret [] := rfl
theorem x_frzP {r : List Vl} : frzM (.p d :: r) = (frzM r).bind fun ds => M.ret (d :: ds) := rfl
theorem x_sized {f : List D → Vl} {ds : List D} (h : ds.length ≤ 16777216) : sized f ds = M.ret (f ds) := if_pos h
variable {xs ys : List D}
theorem x_addL (h : xs.length + ys.length ≤ 16777216) : M.of (gAdd (.p (.lst xs)) (.p (.lst ys))) = M.ret (.p (.lst (xs ++ ys))) := of_some fun st => by
  simp only [gAdd, ownV, if_pos h]
theorem x_addT (h : xs.length + ys.length ≤ 16777216) : M.of (gAdd (.p (.tup xs)) (.p (.tup ys))) = M.ret (.p (.tup (xs ++ ys))) := of_some fun st => by
  simp only [gAdd, if_pos h]
theorem x_lenL : M.of (gLen [.p (.lst xs)]) = M.ret (.p (.int xs.length)) := rfl
theorem x_lenT : M.of (gLen [.p (.tup xs)]) = M.ret (.p (.int xs.length)) := rfl
theorem x_lenR : M.of (gLen [.p (.rl xs)]) = M.ret (.p (.int xs.length)) := rfl
theorem x_tupleL : M.of (gTuple [.p (.lst xs)]) = M.ret (.p (.tup xs)) := rfl
theorem x_listL : M.of (gList [.p (.lst xs)]) = M.ret (.p (.lst xs)) := rfl
theorem x_listT : M.of (gList [.p (.tup xs)]) = M.ret (.p (.lst xs)) := rfl
theorem x_slL {lo hi : Option Int} : M.of (gSl (.p (.lst xs)) lo hi) = M.ret (.p (.lst (cutD xs lo hi))) := rfl
theorem x_slR {lo hi : Option Int} : M.of (gSl (.p (.rl xs)) lo hi) = M.ret (.p (.lst (cutD xs lo hi))) := rfl
theorem x_slT {lo hi : Option Int} : M.of (gSl (.p (.tup xs)) lo hi) = M.ret (.p (.tup (cutD xs lo hi))) := rfl
theorem x_ixL (h : atI xs i = some d) : M.of (gIx (.p (.lst xs)) (.p (.int i))) = M.ret (.p d) := of_some fun st => by
  simp only [gIx, seqV, listV, Option.some_or, h, Option.map_some]
theorem x_ixT (h : atI xs i = some d) : M.of (gIx (.p (.tup xs)) (.p (.int i))) = M.ret (.p d) := of_some fun st => by
  simp only [gIx, seqV, listV, tupV, Option.none_or, h, Option.map_some]
theorem x_all {bs : List Bool} : M.of (gAll [.p (.lst (bs.map D.bl))]) = M.ret (.p (.bl (bs.all id))) := of_some fun st => by
  simp only [gAll, listV, Option.bind_some, asBls_map, Option.map_some]
theorem x_any {bs : List Bool} : M.of (gAny [.p (.lst (bs.map D.bl))]) = M.ret (.p (.bl (bs.any id))) := of_some fun st => by
  simp only [gAny, listV, Option.bind_some, asBls_map, Option.map_some]
theorem x_sum {bs : List Int} : M.of (gSum [.p (.lst (bs.map D.int))]) = M.ret (.p (.int bs.sum)) := of_some fun st => by
  simp only [gSum, listV, Option.bind_some, asInts_map, Option.map_some]
theorem x_iSeq : iSeq m ev = (m ev).bind fun v st => match seqV st v with | some _ => .ok (.seq v) st | none => .stuck := rfl
end
/-! what isinstance says -/
def isIntD : D → Bool | .int _ => true | _ => false
def isListD : D → Bool | .lst _ => true | .rl _ => true | .tup _ => true | _ => false
def seqD : D → Option (List D) | .lst xs => some xs | .rl xs => some xs | .tup xs => some xs | _ => none
theorem isi_int {d : D} (h : tyN d ≠ none) : M.of (gIsi [.p d, .p (.ty "int")]) = M.ret (.p (.bl (match d with | .int _ => true | .bl _ => true | _ => false))) := by
  cases d <;> first | rfl | exact absurd rfl h
theorem isi_bool {d : D} (h : tyN d ≠ none) : M.of (gIsi [.p d, .p (.ty "bool")]) = M.ret (.p (.bl (match d with | .bl _ => true | _ => false))) := by
  cases d <;> first | rfl | exact absurd rfl h
theorem isi_list {d : D} (h : tyN d ≠ none) : M.of (gIsi [.p d, .p (.tup [.ty "list", .ty "tuple"])]) = M.ret (.p (.bl (isListD d))) := by
  cases d <;> first | rfl | exact absurd rfl h
theorem isi_str {d : D} (h : tyN d ≠ none) : M.of (gIsi [.p d, .p (.ty "str")]) = M.ret (.p (.bl (match d with | .str _ => true | _ => false))) := by
  cases d <;> first | rfl | exact absurd rfl h
theorem isi_dict {d : D} (h : tyN d ≠ none) : M.of (gIsi [.p d, .p (.ty "dict")]) = M.ret (.p (.bl (match d with | .dic _ => true | _ => false))) := by
  cases d <;> first | rfl | exact absurd rfl h
theorem atI_mem {α : Type} {xs : List α} {i : Int} (h0 : 0 ≤ i) (h1 : i < xs.length) : ∃ d, atI xs i = some d ∧ d ∈ xs ∧ xs[i.toNat]? = some d := by
  have h : i.toNat < xs.length := by omega
  refine ⟨xs[i.toNat], ?_, List.getElem_mem h, List.getElem?_eq_getElem h⟩
  unfold L2.atI L2.ixN
  rw [if_pos h0, if_pos h1]
  exact List.getElem?_eq_getElem h
theorem fn_eq {n N : Nat} {body : MS} {as : List Vl} {d : D} (h : sM body (as.map some ++ List.replicate (N - n) none) = M.ret (.inr (.p d))) : mFun n N body as = M.ret (.p d) :=
  Pu.eq (Pu.fn fun st => by rw [h]; rfl)
section
variable {cells : List Int} {k : Nat} {α β : Type}
theorem Rn.ret {a : α} {c : Nat} {P : α → Prop} (p : P a) : Rn cells k (M.ret a) c P := Rn.pu (Pu.ret a) p
theorem Rn.step {m : M α} {f : α → M β} {c N : Nat} {P : α → Prop} {Q : β → Prop} (h : Rn cells k m c P) (h2 : ∀ a, P a → Rn cells k (f a) (N - c) Q) (hc : c ≤ N := by decide) : Rn cells k (m.bind f) N Q :=
  (Rn.bind h h2).imp (by omega) fun _ q => q
theorem Rn.last {m : M α} {c N : Nat} {P Q : α → Prop} (h : Rn cells k m c P) (h2 : ∀ a, P a → Q a) (hc : c ≤ N := by decide) : Rn cells k m N Q := h.imp hc h2
end
end Sim
end

section
/-! Sim P3: the draught, the cupful. -/
namespace Sim
open PySem PySem.Spec PyProof.Rows L2 RZ
theorem sM_set (mo mi mv : ME) (ev : Ev) : sM (sSet mo mi mv) ev = (mv ev).bind fun v => (mo ev).bind fun o => (mi ev).bind fun i => (M.of (gSet o i v)).bind fun _ => M.ret (.inl ev) := by
  unfold sSet
  rw [sM_bind]
  congr 1; funext v
  rw [sM_bind]
  congr 1; funext o
  rw [sM_bind]
  congr 1; funext i
  rw [sM_bind]
  rfl
def dDraught : MS := (sSeq (Sim.sIf (Sim.tCmp gEq (eOp gIx (eVar 0) (eC (.int 0))) (eA gLst aNil)) (sRet (eC (.int 0))) sPass)
 (sSeq (Sim.sIf (Sim.tCmp gGt (eOp gIx (eVar 0) (eC (.int 2))) (eC (.int 0))) (sSeq (sAsg 2 (eA gInt (aCons (eOp gIx (eVar 0) (eC (.int 2))) aNil)))
 (sSeq (sSet (eVar 0) (eC (.int 2)) (eOp gFdiv (eVar 2) (eVar 1)))
 (sRet (eOp gMod (eA gInt (aCons (eVar 2) aNil)) (eVar 1))))) sPass)
 (sSeq (sAsg 3 (eOp gIx (eVar 0) (eC (.int 1))))
 (sSeq (sSet (eVar 0) (eC (.int 1)) (eOp gAdd (eVar 3) (eC (.int 1))))
 (sSeq (sAsg 4 (eOp gIx (eOp gIx (eVar 0) (eC (.int 0))) (eOp gMod (eA gInt (aCons (eVar 3) aNil)) (eA gLen (aCons (eOp gIx (eVar 0) (eC (.int 0))) aNil)))))
 (sSeq (Sim.sIf (Sim.tAnd (Sim.tCmp gLt (eVar 3) (eA gLen (aCons (eOp gIx (eVar 0) (eC (.int 0))) aNil))) (Sim.tCmp gGe (eA gAbs (aCons (eVar 4) aNil)) (eOp gPow (eC (.int 10)) (eC (.int 18))))) (sSeq (sAsg 2 (eOp gAdd (eOp gMulS (eC (.int 2)) (eOp gSub (eA gAbs (aCons (eVar 4) aNil)) (eOp gPow (eC (.int 10)) (eC (.int 18))))) (eA gInt (aCons (eOp gLt (eVar 4) (eC (.int 0))) aNil))))
 (sSeq (sSet (eVar 0) (eC (.int 2)) (eOp gFdiv (eVar 2) (eVar 1)))
 (sRet (eOp gMod (eA gInt (aCons (eVar 2) aNil)) (eVar 1))))) sPass)
 (sSeq (sAsg 5 (eOp gMod (eA gInt (aCons (eOp gPow (eOp gAdd (eOp gAdd (eOp gMod (eA gInt (aCons (eVar 4) aNil)) (eC (.int 2147483563))) (eOp gMulS (eC (.int 41081)) (eVar 3))) (eC (.int 2633))) (eC (.int 5))) aNil)) (eC (.int 2147483549))))
 (sSeq (sAsg 5 (eOp gMod (eA gInt (aCons (eOp gPow (eOp gAdd (eOp gAdd (eOp gMulS (eVar 5) (eOp gAdd (eOp gMulS (eC (.int 2)) (eVar 3)) (eC (.int 6151)))) (eOp gMulS (eOp gMulS (eC (.int 90121)) (eVar 3)) (eVar 3))) (eC (.int 41081))) (eC (.int 3))) aNil)) (eC (.int 2147483587))))
 (sRet (eOp gMod (eA gInt (aCons (eOp gFdiv (eVar 5) (eC (.int 64))) aNil)) (eVar 1)))))))))))
section
variable {cells : List Int} {k : Nat} {α β : Type} {t r : Int}
/-- a run from one vessel -/
def Vs (cells : List Int) (k : Nat) (t r : Int) (m : M α) (Q : α → Int → Int → Prop) : Prop := ∀ st : Store, st[k]? = some (ves cells t r) → ∃ a t' r', m st = .ok a (st.set k (ves cells t' r')) ∧ Q a t' r'
theorem Vs.ret {a : α} {Q : α → Int → Int → Prop} (p : Q a t r) : Vs cells k t r (M.ret a) Q := fun st hk => ⟨a, t, r, by rw [set_same hk]; rfl, p⟩
theorem Vs.bind {m : M α} {f : α → M β} {P : α → Int → Int → Prop} {Q : β → Int → Int → Prop} (h : Vs cells k t r m P) (h2 : ∀ a t' r', P a t' r' → Vs cells k t' r' (f a) Q) : Vs cells k t r (m.bind f) Q := fun st hk => by
  obtain ⟨a, t1, r1, e, p⟩ := h st hk
  have hlt : k < st.length := (List.getElem?_eq_some_iff.mp hk).1
  obtain ⟨b, t2, r2, e2, q⟩ := h2 a t1 r1 p (st.set k (ves cells t1 r1)) (by rw [List.getElem?_set_self hlt])
  exact ⟨b, t2, r2, by rw [bind_ok e, e2, List.set_set], q⟩
theorem Vs.one {m : M α} {f : α → M β} {a : α} {t1 r1 : Int} {Q : β → Int → Int → Prop} (h : ∀ st : Store, st[k]? = some (ves cells t r) → m st = .ok a (st.set k (ves cells t1 r1))) (h2 : Vs cells k t1 r1 (f a) Q) : Vs cells k t r (m.bind f) Q :=
  Vs.bind (P := fun b t' r' => b = a ∧ t' = t1 ∧ r' = r1) (fun st hk => ⟨a, t1, r1, h st hk, rfl, rfl, rfl⟩) fun b t' r' ⟨e1, e2, e3⟩ => by subst e1 e2 e3; exact h2
theorem of_at {o : O α} {a : α} {st st' : Store} (h : o st = some (a, st')) : M.of o st = .ok a st' := by
  simp only [M.of, h]
theorem Vs.ix0 {f : Vl → M β} {Q : β → Int → Int → Prop} (h : Vs cells k t r (f (.p (.lst (cells.map D.int)))) Q) : Vs cells k t r ((M.of (gIx (.c k) (.p (.int 0)))).bind f) Q :=
  Vs.one (fun st hk => by
    rw [set_same hk]
    refine of_at ?_
    simp only [gIx, seqV, listV, hk, ves, Option.some_or]
    rfl) h
theorem Vs.ix1 {f : Vl → M β} {Q : β → Int → Int → Prop} (h : Vs cells k t r (f (.p (.int t))) Q) : Vs cells k t r ((M.of (gIx (.c k) (.p (.int 1)))).bind f) Q :=
  Vs.one (fun st hk => by
    rw [set_same hk]
    refine of_at ?_
    simp only [gIx, seqV, listV, hk, ves, Option.some_or]
    rfl) h
theorem Vs.ix2 {f : Vl → M β} {Q : β → Int → Int → Prop} (h : Vs cells k t r (f (.p (.int r))) Q) : Vs cells k t r ((M.of (gIx (.c k) (.p (.int 2)))).bind f) Q :=
  Vs.one (fun st hk => by
    rw [set_same hk]
    refine of_at ?_
    simp only [gIx, seqV, listV, hk, ves, Option.some_or]
    rfl) h
theorem Vs.set1 {f : Unit → M β} {v : Int} {Q : β → Int → Int → Prop} (h : Vs cells k v r (f ()) Q) : Vs cells k t r ((M.of (gSet (.c k) (.p (.int 1)) (.p (.int v)))).bind f) Q :=
  Vs.one (fun st hk => by
    refine of_at ?_
    simp only [gSet, hk, ves, frz1]
    rfl) h
theorem Vs.set2 {f : Unit → M β} {v : Int} {Q : β → Int → Int → Prop} (h : Vs cells k t v (f ()) Q) : Vs cells k t r ((M.of (gSet (.c k) (.p (.int 2)) (.p (.int v)))).bind f) Q :=
  Vs.one (fun st hk => by
    refine of_at ?_
    simp only [gSet, hk, ves, frz1]
    rfl) h
/-- [] is compared with the cells -/
theorem x_eqNil {ns : List Int} : M.of (gEq (.p (.lst (ns.map D.int))) (.p (.lst []))) = M.ret (.p (.bl ns.isEmpty)) := of_some fun st => by
  have e : D.py (.lst (ns.map D.int)) = some (.list (ns.map PyData.int)) := by
    show (D.pys (ns.map D.int)).map PyData.list = _
    rw [pys_ints]; rfl
  have e2 : D.py (.lst []) = some (.list []) := rfl
  have h2 : SeqAt.shaped (.list []) = true := sh_ints []
  simp only [gEq, eitherG, gStr2, gPy2, Vl.py, e, e2, sh_ints ns, h2, and_self, if_true, id, Option.none_or, eqv_nil_ints]
theorem fmod_lt {a b : Int} (h : 0 < b) : 0 ≤ a.fmod b ∧ a.fmod b < b := by
  rw [Int.fmod_eq_emod_of_nonneg _ (Int.le_of_lt h)]
  exact ⟨Int.emod_nonneg _ (by omega), Int.emod_lt_of_pos _ h⟩
theorem fdiv_nn {a b : Int} (ha : 0 ≤ a) (h : 0 < b) : 0 ≤ a.fdiv b := by
  rw [Int.fdiv_eq_ediv_of_nonneg _ (Int.le_of_lt h)]
  exact Int.ediv_nonneg ha (Int.le_of_lt h)
theorem atI_ints {ns : List Int} {i : Int} (h0 : 0 ≤ i) (h1 : i < ns.length) : ∃ n, atI (ns.map D.int) i = some (.int n) := by
  obtain ⟨d, e, m, _⟩ := atI_mem (xs := ns.map D.int) h0 (by simpa using h1)
  obtain ⟨n, _, rfl⟩ := List.mem_map.mp m
  exact ⟨n, e⟩
theorem draught_vs {many : Int} (h0 : 0 < many) (h1 : many < 1073741824) (ht : 0 ≤ t) (ht2 : t < 1000000) (hr : 0 ≤ r) :
    Vs cells k t r (sM dDraught [some (.c k), some (.p (.int many)), none, none, none, none]) fun x t' r' => (∃ d, x = .inr (.p (.int d)) ∧ 0 ≤ d ∧ d < many) ∧ 0 ≤ t' ∧ t' ≤ t + 1 ∧ 0 ≤ r' := by
  have hm : many ≠ 0 := by omega
  have hd := divOk_small h0 h1
  have x_mod' : ∀ i : Int, M.of (gMod (.p (.int i)) (.p (.int many))) = M.ret (.p (.int (i.fmod many))) := fun i => x_mod hm
  have x_div' : ∀ i : Int, M.of (gFdiv (.p (.int i)) (.p (.int many))) = M.ret (.p (.int (i.fdiv many))) := fun i => x_fdiv hd
  unfold dDraught
  try simp -implicitDefEqProofs only [sM_pass, sM_seq, sM_asg, sM_ret, sM_expr, sM_if, sM_par, sM_asgT, sM_set, ret_bind, bind_assoc, x_var0, x_varS, x_C, x_op, x_un, x_A, x_nil, x_cons, x_call, x_and, x_or, x_not, x_if, x_tV, x_tCmp, x_tTru, x_tNot, x_tAnd, x_tOr, x_asB, x_sl, x_oNone, x_oSome, x_asI, x_trN, x_trB, x_trI, x_trL, x_trR, x_trT, x_add, x_sub, x_neg, x_lt, x_le, x_gt, x_ge, x_abs, x_max2, x_min2, x_intI, x_intB, x_eqI, x_neI, x_eqS, x_neS, x_lst, x_tup, x_frz0, x_frzP, x_lenL, x_lenT, x_lenR, x_tupleL, x_listL, x_listT, x_slL, x_slR, x_slT, callM, arrOf, List.filterMap_cons, List.filterMap_nil, List.getElem?_cons_zero, List.getElem?_cons_succ, List.cons_append, List.nil_append, List.append_nil, List.length_cons, List.length_nil, and_self, if_true, List.set_cons_zero, List.set_cons_succ, Bool.false_eq_true, if_false, Nat.reduceAdd, Nat.reduceSub, List.map_cons, List.map_nil, List.replicate_succ, List.replicate_zero, Bool.not_true, Bool.not_false]
  refine Vs.ix0 ?_
  try simp -implicitDefEqProofs only [sM_pass, sM_seq, sM_asg, sM_ret, sM_expr, sM_if, sM_par, sM_asgT, sM_set, ret_bind, bind_assoc, x_var0, x_varS, x_C, x_op, x_un, x_A, x_nil, x_cons, x_call, x_and, x_or, x_not, x_if, x_tV, x_tCmp, x_tTru, x_tNot, x_tAnd, x_tOr, x_asB, x_sl, x_oNone, x_oSome, x_asI, x_trN, x_trB, x_trI, x_trL, x_trR, x_trT, x_add, x_sub, x_neg, x_lt, x_le, x_gt, x_ge, x_abs, x_max2, x_min2, x_intI, x_intB, x_eqI, x_neI, x_eqS, x_neS, x_lst, x_tup, x_frz0, x_frzP, x_lenL, x_lenT, x_lenR, x_tupleL, x_listL, x_listT, x_slL, x_slR, x_slT, callM, arrOf, List.filterMap_cons, List.filterMap_nil, List.getElem?_cons_zero, List.getElem?_cons_succ, List.cons_append, List.nil_append, List.append_nil, List.length_cons, List.length_nil, and_self, if_true, List.set_cons_zero, List.set_cons_succ, Bool.false_eq_true, if_false, Nat.reduceAdd, Nat.reduceSub, List.map_cons, List.map_nil, List.replicate_succ, List.replicate_zero, Bool.not_true, Bool.not_false]
  rw [x_sized (by simp)]
  try simp -implicitDefEqProofs only [sM_pass, sM_seq, sM_asg, sM_ret, sM_expr, sM_if, sM_par, sM_asgT, sM_set, ret_bind, bind_assoc, x_var0, x_varS, x_C, x_op, x_un, x_A, x_nil, x_cons, x_call, x_and, x_or, x_not, x_if, x_tV, x_tCmp, x_tTru, x_tNot, x_tAnd, x_tOr, x_asB, x_sl, x_oNone, x_oSome, x_asI, x_trN, x_trB, x_trI, x_trL, x_trR, x_trT, x_add, x_sub, x_neg, x_lt, x_le, x_gt, x_ge, x_abs, x_max2, x_min2, x_intI, x_intB, x_eqI, x_neI, x_eqS, x_neS, x_lst, x_tup, x_frz0, x_frzP, x_lenL, x_lenT, x_lenR, x_tupleL, x_listL, x_listT, x_slL, x_slR, x_slT, callM, arrOf, List.filterMap_cons, List.filterMap_nil, List.getElem?_cons_zero, List.getElem?_cons_succ, List.cons_append, List.nil_append, List.append_nil, List.length_cons, List.length_nil, and_self, if_true, List.set_cons_zero, List.set_cons_succ, Bool.false_eq_true, if_false, Nat.reduceAdd, Nat.reduceSub, List.map_cons, List.map_nil, List.replicate_succ, List.replicate_zero, Bool.not_true, Bool.not_false, x_eqNil]
  cases hc : cells with
  | nil =>
    try simp -implicitDefEqProofs only [sM_pass, sM_seq, sM_asg, sM_ret, sM_expr, sM_if, sM_par, sM_asgT, sM_set, ret_bind, bind_assoc, x_var0, x_varS, x_C, x_op, x_un, x_A, x_nil, x_cons, x_call, x_and, x_or, x_not, x_if, x_tV, x_tCmp, x_tTru, x_tNot, x_tAnd, x_tOr, x_asB, x_sl, x_oNone, x_oSome, x_asI, x_trN, x_trB, x_trI, x_trL, x_trR, x_trT, x_add, x_sub, x_neg, x_lt, x_le, x_gt, x_ge, x_abs, x_max2, x_min2, x_intI, x_intB, x_eqI, x_neI, x_eqS, x_neS, x_lst, x_tup, x_frz0, x_frzP, x_lenL, x_lenT, x_lenR, x_tupleL, x_listL, x_listT, x_slL, x_slR, x_slT, callM, arrOf, List.filterMap_cons, List.filterMap_nil, List.getElem?_cons_zero, List.getElem?_cons_succ, List.cons_append, List.nil_append, List.append_nil, List.length_cons, List.length_nil, and_self, if_true, List.set_cons_zero, List.set_cons_succ, Bool.false_eq_true, if_false, Nat.reduceAdd, Nat.reduceSub, List.map_cons, List.map_nil, List.replicate_succ, List.replicate_zero, Bool.not_true, Bool.not_false, List.isEmpty_nil]
    exact Vs.ret ⟨⟨0, rfl, by omega, h0⟩, ht, by omega, hr⟩
  | cons c0 rest =>
    rw [← hc]
    have he : cells.isEmpty = false := by rw [hc]; rfl
    have hl : 0 < (cells.length : Int) := by rw [hc, List.length_cons]; omega
    try simp -implicitDefEqProofs only [sM_pass, sM_seq, sM_asg, sM_ret, sM_expr, sM_if, sM_par, sM_asgT, sM_set, ret_bind, bind_assoc, x_var0, x_varS, x_C, x_op, x_un, x_A, x_nil, x_cons, x_call, x_and, x_or, x_not, x_if, x_tV, x_tCmp, x_tTru, x_tNot, x_tAnd, x_tOr, x_asB, x_sl, x_oNone, x_oSome, x_asI, x_trN, x_trB, x_trI, x_trL, x_trR, x_trT, x_add, x_sub, x_neg, x_lt, x_le, x_gt, x_ge, x_abs, x_max2, x_min2, x_intI, x_intB, x_eqI, x_neI, x_eqS, x_neS, x_lst, x_tup, x_frz0, x_frzP, x_lenL, x_lenT, x_lenR, x_tupleL, x_listL, x_listT, x_slL, x_slR, x_slT, callM, arrOf, List.filterMap_cons, List.filterMap_nil, List.getElem?_cons_zero, List.getElem?_cons_succ, List.cons_append, List.nil_append, List.append_nil, List.length_cons, List.length_nil, and_self, if_true, List.set_cons_zero, List.set_cons_succ, Bool.false_eq_true, if_false, Nat.reduceAdd, Nat.reduceSub, List.map_cons, List.map_nil, List.replicate_succ, List.replicate_zero, Bool.not_true, Bool.not_false, he]
    refine Vs.ix2 ?_
    try simp -implicitDefEqProofs only [sM_pass, sM_seq, sM_asg, sM_ret, sM_expr, sM_if, sM_par, sM_asgT, sM_set, ret_bind, bind_assoc, x_var0, x_varS, x_C, x_op, x_un, x_A, x_nil, x_cons, x_call, x_and, x_or, x_not, x_if, x_tV, x_tCmp, x_tTru, x_tNot, x_tAnd, x_tOr, x_asB, x_sl, x_oNone, x_oSome, x_asI, x_trN, x_trB, x_trI, x_trL, x_trR, x_trT, x_add, x_sub, x_neg, x_lt, x_le, x_gt, x_ge, x_abs, x_max2, x_min2, x_intI, x_intB, x_eqI, x_neI, x_eqS, x_neS, x_lst, x_tup, x_frz0, x_frzP, x_lenL, x_lenT, x_lenR, x_tupleL, x_listL, x_listT, x_slL, x_slR, x_slT, callM, arrOf, List.filterMap_cons, List.filterMap_nil, List.getElem?_cons_zero, List.getElem?_cons_succ, List.cons_append, List.nil_append, List.append_nil, List.length_cons, List.length_nil, and_self, if_true, List.set_cons_zero, List.set_cons_succ, Bool.false_eq_true, if_false, Nat.reduceAdd, Nat.reduceSub, List.map_cons, List.map_nil, List.replicate_succ, List.replicate_zero, Bool.not_true, Bool.not_false]
    by_cases hr0 : 0 < r
    · try simp -implicitDefEqProofs only [hr0, decide_true, sM_pass, sM_seq, sM_asg, sM_ret, sM_expr, sM_if, sM_par, sM_asgT, sM_set, ret_bind, bind_assoc, x_var0, x_varS, x_C, x_op, x_un, x_A, x_nil, x_cons, x_call, x_and, x_or, x_not, x_if, x_tV, x_tCmp, x_tTru, x_tNot, x_tAnd, x_tOr, x_asB, x_sl, x_oNone, x_oSome, x_asI, x_trN, x_trB, x_trI, x_trL, x_trR, x_trT, x_add, x_sub, x_neg, x_lt, x_le, x_gt, x_ge, x_abs, x_max2, x_min2, x_intI, x_intB, x_eqI, x_neI, x_eqS, x_neS, x_lst, x_tup, x_frz0, x_frzP, x_lenL, x_lenT, x_lenR, x_tupleL, x_listL, x_listT, x_slL, x_slR, x_slT, callM, arrOf, List.filterMap_cons, List.filterMap_nil, List.getElem?_cons_zero, List.getElem?_cons_succ, List.cons_append, List.nil_append, List.append_nil, List.length_cons, List.length_nil, and_self, if_true, List.set_cons_zero, List.set_cons_succ, Bool.false_eq_true, if_false, Nat.reduceAdd, Nat.reduceSub, List.map_cons, List.map_nil, List.replicate_succ, List.replicate_zero, Bool.not_true, Bool.not_false]
      refine Vs.ix2 ?_
      try simp -implicitDefEqProofs only [sM_pass, sM_seq, sM_asg, sM_ret, sM_expr, sM_if, sM_par, sM_asgT, sM_set, ret_bind, bind_assoc, x_var0, x_varS, x_C, x_op, x_un, x_A, x_nil, x_cons, x_call, x_and, x_or, x_not, x_if, x_tV, x_tCmp, x_tTru, x_tNot, x_tAnd, x_tOr, x_asB, x_sl, x_oNone, x_oSome, x_asI, x_trN, x_trB, x_trI, x_trL, x_trR, x_trT, x_add, x_sub, x_neg, x_lt, x_le, x_gt, x_ge, x_abs, x_max2, x_min2, x_intI, x_intB, x_eqI, x_neI, x_eqS, x_neS, x_lst, x_tup, x_frz0, x_frzP, x_lenL, x_lenT, x_lenR, x_tupleL, x_listL, x_listT, x_slL, x_slR, x_slT, callM, arrOf, List.filterMap_cons, List.filterMap_nil, List.getElem?_cons_zero, List.getElem?_cons_succ, List.cons_append, List.nil_append, List.append_nil, List.length_cons, List.length_nil, and_self, if_true, List.set_cons_zero, List.set_cons_succ, Bool.false_eq_true, if_false, Nat.reduceAdd, Nat.reduceSub, List.map_cons, List.map_nil, List.replicate_succ, List.replicate_zero, Bool.not_true, Bool.not_false, x_div']
      refine Vs.set2 ?_
      try simp -implicitDefEqProofs only [sM_pass, sM_seq, sM_asg, sM_ret, sM_expr, sM_if, sM_par, sM_asgT, sM_set, ret_bind, bind_assoc, x_var0, x_varS, x_C, x_op, x_un, x_A, x_nil, x_cons, x_call, x_and, x_or, x_not, x_if, x_tV, x_tCmp, x_tTru, x_tNot, x_tAnd, x_tOr, x_asB, x_sl, x_oNone, x_oSome, x_asI, x_trN, x_trB, x_trI, x_trL, x_trR, x_trT, x_add, x_sub, x_neg, x_lt, x_le, x_gt, x_ge, x_abs, x_max2, x_min2, x_intI, x_intB, x_eqI, x_neI, x_eqS, x_neS, x_lst, x_tup, x_frz0, x_frzP, x_lenL, x_lenT, x_lenR, x_tupleL, x_listL, x_listT, x_slL, x_slR, x_slT, callM, arrOf, List.filterMap_cons, List.filterMap_nil, List.getElem?_cons_zero, List.getElem?_cons_succ, List.cons_append, List.nil_append, List.append_nil, List.length_cons, List.length_nil, and_self, if_true, List.set_cons_zero, List.set_cons_succ, Bool.false_eq_true, if_false, Nat.reduceAdd, Nat.reduceSub, List.map_cons, List.map_nil, List.replicate_succ, List.replicate_zero, Bool.not_true, Bool.not_false, x_mod']
      exact Vs.ret ⟨⟨_, rfl, (fmod_lt h0).1, (fmod_lt h0).2⟩, ht, by omega, fdiv_nn hr h0⟩
    · try simp -implicitDefEqProofs only [hr0, decide_false, sM_pass, sM_seq, sM_asg, sM_ret, sM_expr, sM_if, sM_par, sM_asgT, sM_set, ret_bind, bind_assoc, x_var0, x_varS, x_C, x_op, x_un, x_A, x_nil, x_cons, x_call, x_and, x_or, x_not, x_if, x_tV, x_tCmp, x_tTru, x_tNot, x_tAnd, x_tOr, x_asB, x_sl, x_oNone, x_oSome, x_asI, x_trN, x_trB, x_trI, x_trL, x_trR, x_trT, x_add, x_sub, x_neg, x_lt, x_le, x_gt, x_ge, x_abs, x_max2, x_min2, x_intI, x_intB, x_eqI, x_neI, x_eqS, x_neS, x_lst, x_tup, x_frz0, x_frzP, x_lenL, x_lenT, x_lenR, x_tupleL, x_listL, x_listT, x_slL, x_slR, x_slT, callM, arrOf, List.filterMap_cons, List.filterMap_nil, List.getElem?_cons_zero, List.getElem?_cons_succ, List.cons_append, List.nil_append, List.append_nil, List.length_cons, List.length_nil, and_self, if_true, List.set_cons_zero, List.set_cons_succ, Bool.false_eq_true, if_false, Nat.reduceAdd, Nat.reduceSub, List.map_cons, List.map_nil, List.replicate_succ, List.replicate_zero, Bool.not_true, Bool.not_false]
      refine Vs.ix1 ?_
      try simp -implicitDefEqProofs only [sM_pass, sM_seq, sM_asg, sM_ret, sM_expr, sM_if, sM_par, sM_asgT, sM_set, ret_bind, bind_assoc, x_var0, x_varS, x_C, x_op, x_un, x_A, x_nil, x_cons, x_call, x_and, x_or, x_not, x_if, x_tV, x_tCmp, x_tTru, x_tNot, x_tAnd, x_tOr, x_asB, x_sl, x_oNone, x_oSome, x_asI, x_trN, x_trB, x_trI, x_trL, x_trR, x_trT, x_add, x_sub, x_neg, x_lt, x_le, x_gt, x_ge, x_abs, x_max2, x_min2, x_intI, x_intB, x_eqI, x_neI, x_eqS, x_neS, x_lst, x_tup, x_frz0, x_frzP, x_lenL, x_lenT, x_lenR, x_tupleL, x_listL, x_listT, x_slL, x_slR, x_slT, callM, arrOf, List.filterMap_cons, List.filterMap_nil, List.getElem?_cons_zero, List.getElem?_cons_succ, List.cons_append, List.nil_append, List.append_nil, List.length_cons, List.length_nil, and_self, if_true, List.set_cons_zero, List.set_cons_succ, Bool.false_eq_true, if_false, Nat.reduceAdd, Nat.reduceSub, List.map_cons, List.map_nil, List.replicate_succ, List.replicate_zero, Bool.not_true, Bool.not_false]
      refine Vs.set1 ?_
      try simp -implicitDefEqProofs only [sM_pass, sM_seq, sM_asg, sM_ret, sM_expr, sM_if, sM_par, sM_asgT, sM_set, ret_bind, bind_assoc, x_var0, x_varS, x_C, x_op, x_un, x_A, x_nil, x_cons, x_call, x_and, x_or, x_not, x_if, x_tV, x_tCmp, x_tTru, x_tNot, x_tAnd, x_tOr, x_asB, x_sl, x_oNone, x_oSome, x_asI, x_trN, x_trB, x_trI, x_trL, x_trR, x_trT, x_add, x_sub, x_neg, x_lt, x_le, x_gt, x_ge, x_abs, x_max2, x_min2, x_intI, x_intB, x_eqI, x_neI, x_eqS, x_neS, x_lst, x_tup, x_frz0, x_frzP, x_lenL, x_lenT, x_lenR, x_tupleL, x_listL, x_listT, x_slL, x_slR, x_slT, callM, arrOf, List.filterMap_cons, List.filterMap_nil, List.getElem?_cons_zero, List.getElem?_cons_succ, List.cons_append, List.nil_append, List.append_nil, List.length_cons, List.length_nil, and_self, if_true, List.set_cons_zero, List.set_cons_succ, Bool.false_eq_true, if_false, Nat.reduceAdd, Nat.reduceSub, List.map_cons, List.map_nil, List.replicate_succ, List.replicate_zero, Bool.not_true, Bool.not_false]
      refine Vs.ix0 ?_
      try simp -implicitDefEqProofs only [sM_pass, sM_seq, sM_asg, sM_ret, sM_expr, sM_if, sM_par, sM_asgT, sM_set, ret_bind, bind_assoc, x_var0, x_varS, x_C, x_op, x_un, x_A, x_nil, x_cons, x_call, x_and, x_or, x_not, x_if, x_tV, x_tCmp, x_tTru, x_tNot, x_tAnd, x_tOr, x_asB, x_sl, x_oNone, x_oSome, x_asI, x_trN, x_trB, x_trI, x_trL, x_trR, x_trT, x_add, x_sub, x_neg, x_lt, x_le, x_gt, x_ge, x_abs, x_max2, x_min2, x_intI, x_intB, x_eqI, x_neI, x_eqS, x_neS, x_lst, x_tup, x_frz0, x_frzP, x_lenL, x_lenT, x_lenR, x_tupleL, x_listL, x_listT, x_slL, x_slR, x_slT, callM, arrOf, List.filterMap_cons, List.filterMap_nil, List.getElem?_cons_zero, List.getElem?_cons_succ, List.cons_append, List.nil_append, List.append_nil, List.length_cons, List.length_nil, and_self, if_true, List.set_cons_zero, List.set_cons_succ, Bool.false_eq_true, if_false, Nat.reduceAdd, Nat.reduceSub, List.map_cons, List.map_nil, List.replicate_succ, List.replicate_zero, Bool.not_true, Bool.not_false]
      refine Vs.ix0 ?_
      try simp -implicitDefEqProofs only [sM_pass, sM_seq, sM_asg, sM_ret, sM_expr, sM_if, sM_par, sM_asgT, sM_set, ret_bind, bind_assoc, x_var0, x_varS, x_C, x_op, x_un, x_A, x_nil, x_cons, x_call, x_and, x_or, x_not, x_if, x_tV, x_tCmp, x_tTru, x_tNot, x_tAnd, x_tOr, x_asB, x_sl, x_oNone, x_oSome, x_asI, x_trN, x_trB, x_trI, x_trL, x_trR, x_trT, x_add, x_sub, x_neg, x_lt, x_le, x_gt, x_ge, x_abs, x_max2, x_min2, x_intI, x_intB, x_eqI, x_neI, x_eqS, x_neS, x_lst, x_tup, x_frz0, x_frzP, x_lenL, x_lenT, x_lenR, x_tupleL, x_listL, x_listT, x_slL, x_slR, x_slT, callM, arrOf, List.filterMap_cons, List.filterMap_nil, List.getElem?_cons_zero, List.getElem?_cons_succ, List.cons_append, List.nil_append, List.append_nil, List.length_cons, List.length_nil, and_self, if_true, List.set_cons_zero, List.set_cons_succ, Bool.false_eq_true, if_false, Nat.reduceAdd, Nat.reduceSub, List.map_cons, List.map_nil, List.replicate_succ, List.replicate_zero, Bool.not_true, Bool.not_false, List.length_map]
      rw [x_mod (by omega)]
      try simp -implicitDefEqProofs only [sM_pass, sM_seq, sM_asg, sM_ret, sM_expr, sM_if, sM_par, sM_asgT, sM_set, ret_bind, bind_assoc, x_var0, x_varS, x_C, x_op, x_un, x_A, x_nil, x_cons, x_call, x_and, x_or, x_not, x_if, x_tV, x_tCmp, x_tTru, x_tNot, x_tAnd, x_tOr, x_asB, x_sl, x_oNone, x_oSome, x_asI, x_trN, x_trB, x_trI, x_trL, x_trR, x_trT, x_add, x_sub, x_neg, x_lt, x_le, x_gt, x_ge, x_abs, x_max2, x_min2, x_intI, x_intB, x_eqI, x_neI, x_eqS, x_neS, x_lst, x_tup, x_frz0, x_frzP, x_lenL, x_lenT, x_lenR, x_tupleL, x_listL, x_listT, x_slL, x_slR, x_slT, callM, arrOf, List.filterMap_cons, List.filterMap_nil, List.getElem?_cons_zero, List.getElem?_cons_succ, List.cons_append, List.nil_append, List.append_nil, List.length_cons, List.length_nil, and_self, if_true, List.set_cons_zero, List.set_cons_succ, Bool.false_eq_true, if_false, Nat.reduceAdd, Nat.reduceSub, List.map_cons, List.map_nil, List.replicate_succ, List.replicate_zero, Bool.not_true, Bool.not_false]
      obtain ⟨n, hn⟩ := atI_ints (ns := cells) (fmod_lt (a := t) hl).1 (fmod_lt hl).2
      rw [x_ixL hn]
      try simp -implicitDefEqProofs only [sM_pass, sM_seq, sM_asg, sM_ret, sM_expr, sM_if, sM_par, sM_asgT, sM_set, ret_bind, bind_assoc, x_var0, x_varS, x_C, x_op, x_un, x_A, x_nil, x_cons, x_call, x_and, x_or, x_not, x_if, x_tV, x_tCmp, x_tTru, x_tNot, x_tAnd, x_tOr, x_asB, x_sl, x_oNone, x_oSome, x_asI, x_trN, x_trB, x_trI, x_trL, x_trR, x_trT, x_add, x_sub, x_neg, x_lt, x_le, x_gt, x_ge, x_abs, x_max2, x_min2, x_intI, x_intB, x_eqI, x_neI, x_eqS, x_neS, x_lst, x_tup, x_frz0, x_frzP, x_lenL, x_lenT, x_lenR, x_tupleL, x_listL, x_listT, x_slL, x_slR, x_slT, callM, arrOf, List.filterMap_cons, List.filterMap_nil, List.getElem?_cons_zero, List.getElem?_cons_succ, List.cons_append, List.nil_append, List.append_nil, List.length_cons, List.length_nil, and_self, if_true, List.set_cons_zero, List.set_cons_succ, Bool.false_eq_true, if_false, Nat.reduceAdd, Nat.reduceSub, List.map_cons, List.map_nil, List.replicate_succ, List.replicate_zero, Bool.not_true, Bool.not_false]
      refine Vs.ix0 ?_
      try simp -implicitDefEqProofs only [sM_pass, sM_seq, sM_asg, sM_ret, sM_expr, sM_if, sM_par, sM_asgT, sM_set, ret_bind, bind_assoc, x_var0, x_varS, x_C, x_op, x_un, x_A, x_nil, x_cons, x_call, x_and, x_or, x_not, x_if, x_tV, x_tCmp, x_tTru, x_tNot, x_tAnd, x_tOr, x_asB, x_sl, x_oNone, x_oSome, x_asI, x_trN, x_trB, x_trI, x_trL, x_trR, x_trT, x_add, x_sub, x_neg, x_lt, x_le, x_gt, x_ge, x_abs, x_max2, x_min2, x_intI, x_intB, x_eqI, x_neI, x_eqS, x_neS, x_lst, x_tup, x_frz0, x_frzP, x_lenL, x_lenT, x_lenR, x_tupleL, x_listL, x_listT, x_slL, x_slR, x_slT, callM, arrOf, List.filterMap_cons, List.filterMap_nil, List.getElem?_cons_zero, List.getElem?_cons_succ, List.cons_append, List.nil_append, List.append_nil, List.length_cons, List.length_nil, and_self, if_true, List.set_cons_zero, List.set_cons_succ, Bool.false_eq_true, if_false, Nat.reduceAdd, Nat.reduceSub, List.map_cons, List.map_nil, List.replicate_succ, List.replicate_zero, Bool.not_true, Bool.not_false, List.length_map]
      have h18 : M.of (gPow (.p (.int 10)) (.p (.int 18))) = M.ret (.p (.int (10 ^ 18))) := x_pow (by decide)
      have hb : ∀ (n : Int), M.of (gPow (.p (.int 10)) (.p (.int 18))) = M.ret (.p (.int (10 ^ 18))) := fun _ => h18
      try simp -implicitDefEqProofs only [h18, sM_pass, sM_seq, sM_asg, sM_ret, sM_expr, sM_if, sM_par, sM_asgT, sM_set, ret_bind, bind_assoc, x_var0, x_varS, x_C, x_op, x_un, x_A, x_nil, x_cons, x_call, x_and, x_or, x_not, x_if, x_tV, x_tCmp, x_tTru, x_tNot, x_tAnd, x_tOr, x_asB, x_sl, x_oNone, x_oSome, x_asI, x_trN, x_trB, x_trI, x_trL, x_trR, x_trT, x_add, x_sub, x_neg, x_lt, x_le, x_gt, x_ge, x_abs, x_max2, x_min2, x_intI, x_intB, x_eqI, x_neI, x_eqS, x_neS, x_lst, x_tup, x_frz0, x_frzP, x_lenL, x_lenT, x_lenR, x_tupleL, x_listL, x_listT, x_slL, x_slR, x_slT, callM, arrOf, List.filterMap_cons, List.filterMap_nil, List.getElem?_cons_zero, List.getElem?_cons_succ, List.cons_append, List.nil_append, List.append_nil, List.length_cons, List.length_nil, and_self, if_true, List.set_cons_zero, List.set_cons_succ, Bool.false_eq_true, if_false, Nat.reduceAdd, Nat.reduceSub, List.map_cons, List.map_nil, List.replicate_succ, List.replicate_zero, Bool.not_true, Bool.not_false]
      have hif : ∀ (p q : Bool), (if p = true then M.ret q else M.ret false) = M.ret (p && q) := fun p q => by cases p <;> rfl
      rw [hif, ret_bind]
      have hnn : 0 ≤ (if n < 0 then -n else n) := by split <;> omega
      generalize hab : (if n < 0 then -n else n) = ab at hnn ⊢
      cases hbig : (decide (t < (cells.length : Int)) && decide (10 ^ 18 ≤ ab)) with
      | true =>
        rw [Bool.and_eq_true, decide_eq_true_eq, decide_eq_true_eq] at hbig
        have hm2 : M.of (gMulS (.p (.int 2)) (.p (.int (ab - 10 ^ 18)))) = M.ret (.p (.int (2 * (ab - 10 ^ 18)))) := x_mulS (mulOk_small (by decide))
        try simp -implicitDefEqProofs only [hm2, x_div', sM_pass, sM_seq, sM_asg, sM_ret, sM_expr, sM_if, sM_par, sM_asgT, sM_set, ret_bind, bind_assoc, x_var0, x_varS, x_C, x_op, x_un, x_A, x_nil, x_cons, x_call, x_and, x_or, x_not, x_if, x_tV, x_tCmp, x_tTru, x_tNot, x_tAnd, x_tOr, x_asB, x_sl, x_oNone, x_oSome, x_asI, x_trN, x_trB, x_trI, x_trL, x_trR, x_trT, x_add, x_sub, x_neg, x_lt, x_le, x_gt, x_ge, x_abs, x_max2, x_min2, x_intI, x_intB, x_eqI, x_neI, x_eqS, x_neS, x_lst, x_tup, x_frz0, x_frzP, x_lenL, x_lenT, x_lenR, x_tupleL, x_listL, x_listT, x_slL, x_slR, x_slT, callM, arrOf, List.filterMap_cons, List.filterMap_nil, List.getElem?_cons_zero, List.getElem?_cons_succ, List.cons_append, List.nil_append, List.append_nil, List.length_cons, List.length_nil, and_self, if_true, List.set_cons_zero, List.set_cons_succ, Bool.false_eq_true, if_false, Nat.reduceAdd, Nat.reduceSub, List.map_cons, List.map_nil, List.replicate_succ, List.replicate_zero, Bool.not_true, Bool.not_false]
        refine Vs.set2 ?_
        try simp -implicitDefEqProofs only [x_mod', sM_pass, sM_seq, sM_asg, sM_ret, sM_expr, sM_if, sM_par, sM_asgT, sM_set, ret_bind, bind_assoc, x_var0, x_varS, x_C, x_op, x_un, x_A, x_nil, x_cons, x_call, x_and, x_or, x_not, x_if, x_tV, x_tCmp, x_tTru, x_tNot, x_tAnd, x_tOr, x_asB, x_sl, x_oNone, x_oSome, x_asI, x_trN, x_trB, x_trI, x_trL, x_trR, x_trT, x_add, x_sub, x_neg, x_lt, x_le, x_gt, x_ge, x_abs, x_max2, x_min2, x_intI, x_intB, x_eqI, x_neI, x_eqS, x_neS, x_lst, x_tup, x_frz0, x_frzP, x_lenL, x_lenT, x_lenR, x_tupleL, x_listL, x_listT, x_slL, x_slR, x_slT, callM, arrOf, List.filterMap_cons, List.filterMap_nil, List.getElem?_cons_zero, List.getElem?_cons_succ, List.cons_append, List.nil_append, List.append_nil, List.length_cons, List.length_nil, and_self, if_true, List.set_cons_zero, List.set_cons_succ, Bool.false_eq_true, if_false, Nat.reduceAdd, Nat.reduceSub, List.map_cons, List.map_nil, List.replicate_succ, List.replicate_zero, Bool.not_true, Bool.not_false]
        refine Vs.ret ⟨⟨_, rfl, (fmod_lt h0).1, (fmod_lt h0).2⟩, by omega, by omega, fdiv_nn ?_ h0⟩
        have : 0 ≤ (if decide (n < 0) = true then (1 : Int) else 0) := by split <;> omega
        omega
      | false =>
        try simp -implicitDefEqProofs only [sM_pass, sM_seq, sM_asg, sM_ret, sM_expr, sM_if, sM_par, sM_asgT, sM_set, ret_bind, bind_assoc, x_var0, x_varS, x_C, x_op, x_un, x_A, x_nil, x_cons, x_call, x_and, x_or, x_not, x_if, x_tV, x_tCmp, x_tTru, x_tNot, x_tAnd, x_tOr, x_asB, x_sl, x_oNone, x_oSome, x_asI, x_trN, x_trB, x_trI, x_trL, x_trR, x_trT, x_add, x_sub, x_neg, x_lt, x_le, x_gt, x_ge, x_abs, x_max2, x_min2, x_intI, x_intB, x_eqI, x_neI, x_eqS, x_neS, x_lst, x_tup, x_frz0, x_frzP, x_lenL, x_lenT, x_lenR, x_tupleL, x_listL, x_listT, x_slL, x_slR, x_slT, callM, arrOf, List.filterMap_cons, List.filterMap_nil, List.getElem?_cons_zero, List.getElem?_cons_succ, List.cons_append, List.nil_append, List.append_nil, List.length_cons, List.length_nil, and_self, if_true, List.set_cons_zero, List.set_cons_succ, Bool.false_eq_true, if_false, Nat.reduceAdd, Nat.reduceSub, List.map_cons, List.map_nil, List.replicate_succ, List.replicate_zero, Bool.not_true, Bool.not_false]
        rw [x_mod (by decide)]
        have q1 : M.of (gMulS (.p (.int 41081)) (.p (.int t))) = M.ret (.p (.int (41081 * t))) := x_mulS (mulOk_small (by decide))
        have m1 := fmod_lt (a := n) (b := 2147483563) (by decide)
        generalize n.fmod 2147483563 = a1 at m1 ⊢
        try simp -implicitDefEqProofs only [q1, sM_pass, sM_seq, sM_asg, sM_ret, sM_expr, sM_if, sM_par, sM_asgT, sM_set, ret_bind, bind_assoc, x_var0, x_varS, x_C, x_op, x_un, x_A, x_nil, x_cons, x_call, x_and, x_or, x_not, x_if, x_tV, x_tCmp, x_tTru, x_tNot, x_tAnd, x_tOr, x_asB, x_sl, x_oNone, x_oSome, x_asI, x_trN, x_trB, x_trI, x_trL, x_trR, x_trT, x_add, x_sub, x_neg, x_lt, x_le, x_gt, x_ge, x_abs, x_max2, x_min2, x_intI, x_intB, x_eqI, x_neI, x_eqS, x_neS, x_lst, x_tup, x_frz0, x_frzP, x_lenL, x_lenT, x_lenR, x_tupleL, x_listL, x_listT, x_slL, x_slR, x_slT, callM, arrOf, List.filterMap_cons, List.filterMap_nil, List.getElem?_cons_zero, List.getElem?_cons_succ, List.cons_append, List.nil_append, List.append_nil, List.length_cons, List.length_nil, and_self, if_true, List.set_cons_zero, List.set_cons_succ, Bool.false_eq_true, if_false, Nat.reduceAdd, Nat.reduceSub, List.map_cons, List.map_nil, List.replicate_succ, List.replicate_zero, Bool.not_true, Bool.not_false]
        rw [x_pow (by omega)]
        try simp -implicitDefEqProofs only [sM_pass, sM_seq, sM_asg, sM_ret, sM_expr, sM_if, sM_par, sM_asgT, sM_set, ret_bind, bind_assoc, x_var0, x_varS, x_C, x_op, x_un, x_A, x_nil, x_cons, x_call, x_and, x_or, x_not, x_if, x_tV, x_tCmp, x_tTru, x_tNot, x_tAnd, x_tOr, x_asB, x_sl, x_oNone, x_oSome, x_asI, x_trN, x_trB, x_trI, x_trL, x_trR, x_trT, x_add, x_sub, x_neg, x_lt, x_le, x_gt, x_ge, x_abs, x_max2, x_min2, x_intI, x_intB, x_eqI, x_neI, x_eqS, x_neS, x_lst, x_tup, x_frz0, x_frzP, x_lenL, x_lenT, x_lenR, x_tupleL, x_listL, x_listT, x_slL, x_slR, x_slT, callM, arrOf, List.filterMap_cons, List.filterMap_nil, List.getElem?_cons_zero, List.getElem?_cons_succ, List.cons_append, List.nil_append, List.append_nil, List.length_cons, List.length_nil, and_self, if_true, List.set_cons_zero, List.set_cons_succ, Bool.false_eq_true, if_false, Nat.reduceAdd, Nat.reduceSub, List.map_cons, List.map_nil, List.replicate_succ, List.replicate_zero, Bool.not_true, Bool.not_false]
        rw [x_mod (by decide)]
        generalize (a1 + 41081 * t + 2633) ^ (5 : Int).toNat = a2
        have m2 := fmod_lt (a := a2) (b := 2147483549) (by decide)
        generalize a2.fmod 2147483549 = a3 at m2 ⊢
        have q2 : M.of (gMulS (.p (.int 2)) (.p (.int t))) = M.ret (.p (.int (2 * t))) := x_mulS (mulOk_small (by decide))
        have q3 : M.of (gMulS (.p (.int a3)) (.p (.int (2 * t + 6151)))) = M.ret (.p (.int (a3 * (2 * t + 6151)))) := x_mulS (mulOk_small (by omega))
        have q4 : M.of (gMulS (.p (.int 90121)) (.p (.int t))) = M.ret (.p (.int (90121 * t))) := x_mulS (mulOk_small (by decide))
        have q5 : M.of (gMulS (.p (.int (90121 * t))) (.p (.int t))) = M.ret (.p (.int (90121 * t * t))) := x_mulS (mulOk_small (by omega))
        try simp -implicitDefEqProofs only [q2, q3, q4, q5, sM_pass, sM_seq, sM_asg, sM_ret, sM_expr, sM_if, sM_par, sM_asgT, sM_set, ret_bind, bind_assoc, x_var0, x_varS, x_C, x_op, x_un, x_A, x_nil, x_cons, x_call, x_and, x_or, x_not, x_if, x_tV, x_tCmp, x_tTru, x_tNot, x_tAnd, x_tOr, x_asB, x_sl, x_oNone, x_oSome, x_asI, x_trN, x_trB, x_trI, x_trL, x_trR, x_trT, x_add, x_sub, x_neg, x_lt, x_le, x_gt, x_ge, x_abs, x_max2, x_min2, x_intI, x_intB, x_eqI, x_neI, x_eqS, x_neS, x_lst, x_tup, x_frz0, x_frzP, x_lenL, x_lenT, x_lenR, x_tupleL, x_listL, x_listT, x_slL, x_slR, x_slT, callM, arrOf, List.filterMap_cons, List.filterMap_nil, List.getElem?_cons_zero, List.getElem?_cons_succ, List.cons_append, List.nil_append, List.append_nil, List.length_cons, List.length_nil, and_self, if_true, List.set_cons_zero, List.set_cons_succ, Bool.false_eq_true, if_false, Nat.reduceAdd, Nat.reduceSub, List.map_cons, List.map_nil, List.replicate_succ, List.replicate_zero, Bool.not_true, Bool.not_false]
        have b1 : 0 ≤ a3 * (2 * t + 6151) := Int.mul_nonneg m2.1 (by omega)
        have b2 : a3 * (2 * t + 6151) ≤ 2147483549 * 2006151 := Int.le_trans (Int.mul_le_mul_of_nonneg_right (Int.le_of_lt m2.2) (by omega)) (Int.mul_le_mul_of_nonneg_left (by omega) (by decide))
        have b3 : 0 ≤ 90121 * t * t := Int.mul_nonneg (by omega) ht
        have b4 : 90121 * t * t ≤ 90121000000 * 1000000 := Int.le_trans (Int.mul_le_mul_of_nonneg_right (by omega) ht) (Int.mul_le_mul_of_nonneg_left (by omega) (by decide))
        rw [x_pow (by omega)]
        try simp -implicitDefEqProofs only [sM_pass, sM_seq, sM_asg, sM_ret, sM_expr, sM_if, sM_par, sM_asgT, sM_set, ret_bind, bind_assoc, x_var0, x_varS, x_C, x_op, x_un, x_A, x_nil, x_cons, x_call, x_and, x_or, x_not, x_if, x_tV, x_tCmp, x_tTru, x_tNot, x_tAnd, x_tOr, x_asB, x_sl, x_oNone, x_oSome, x_asI, x_trN, x_trB, x_trI, x_trL, x_trR, x_trT, x_add, x_sub, x_neg, x_lt, x_le, x_gt, x_ge, x_abs, x_max2, x_min2, x_intI, x_intB, x_eqI, x_neI, x_eqS, x_neS, x_lst, x_tup, x_frz0, x_frzP, x_lenL, x_lenT, x_lenR, x_tupleL, x_listL, x_listT, x_slL, x_slR, x_slT, callM, arrOf, List.filterMap_cons, List.filterMap_nil, List.getElem?_cons_zero, List.getElem?_cons_succ, List.cons_append, List.nil_append, List.append_nil, List.length_cons, List.length_nil, and_self, if_true, List.set_cons_zero, List.set_cons_succ, Bool.false_eq_true, if_false, Nat.reduceAdd, Nat.reduceSub, List.map_cons, List.map_nil, List.replicate_succ, List.replicate_zero, Bool.not_true, Bool.not_false]
        rw [x_mod (by decide)]
        try simp -implicitDefEqProofs only [sM_pass, sM_seq, sM_asg, sM_ret, sM_expr, sM_if, sM_par, sM_asgT, sM_set, ret_bind, bind_assoc, x_var0, x_varS, x_C, x_op, x_un, x_A, x_nil, x_cons, x_call, x_and, x_or, x_not, x_if, x_tV, x_tCmp, x_tTru, x_tNot, x_tAnd, x_tOr, x_asB, x_sl, x_oNone, x_oSome, x_asI, x_trN, x_trB, x_trI, x_trL, x_trR, x_trT, x_add, x_sub, x_neg, x_lt, x_le, x_gt, x_ge, x_abs, x_max2, x_min2, x_intI, x_intB, x_eqI, x_neI, x_eqS, x_neS, x_lst, x_tup, x_frz0, x_frzP, x_lenL, x_lenT, x_lenR, x_tupleL, x_listL, x_listT, x_slL, x_slR, x_slT, callM, arrOf, List.filterMap_cons, List.filterMap_nil, List.getElem?_cons_zero, List.getElem?_cons_succ, List.cons_append, List.nil_append, List.append_nil, List.length_cons, List.length_nil, and_self, if_true, List.set_cons_zero, List.set_cons_succ, Bool.false_eq_true, if_false, Nat.reduceAdd, Nat.reduceSub, List.map_cons, List.map_nil, List.replicate_succ, List.replicate_zero, Bool.not_true, Bool.not_false]
        rw [x_fdiv (by decide)]
        try simp -implicitDefEqProofs only [x_mod', sM_pass, sM_seq, sM_asg, sM_ret, sM_expr, sM_if, sM_par, sM_asgT, sM_set, ret_bind, bind_assoc, x_var0, x_varS, x_C, x_op, x_un, x_A, x_nil, x_cons, x_call, x_and, x_or, x_not, x_if, x_tV, x_tCmp, x_tTru, x_tNot, x_tAnd, x_tOr, x_asB, x_sl, x_oNone, x_oSome, x_asI, x_trN, x_trB, x_trI, x_trL, x_trR, x_trT, x_add, x_sub, x_neg, x_lt, x_le, x_gt, x_ge, x_abs, x_max2, x_min2, x_intI, x_intB, x_eqI, x_neI, x_eqS, x_neS, x_lst, x_tup, x_frz0, x_frzP, x_lenL, x_lenT, x_lenR, x_tupleL, x_listL, x_listT, x_slL, x_slR, x_slT, callM, arrOf, List.filterMap_cons, List.filterMap_nil, List.getElem?_cons_zero, List.getElem?_cons_succ, List.cons_append, List.nil_append, List.append_nil, List.length_cons, List.length_nil, and_self, if_true, List.set_cons_zero, List.set_cons_succ, Bool.false_eq_true, if_false, Nat.reduceAdd, Nat.reduceSub, List.map_cons, List.map_nil, List.replicate_succ, List.replicate_zero, Bool.not_true, Bool.not_false]
        exact Vs.ret ⟨⟨_, rfl, (fmod_lt h0).1, (fmod_lt h0).2⟩, by omega, by omega, hr⟩
theorem draught {many : Int} (h0 : 0 < many) (h1 : many < 1073741824) : Rn cells k (mFun 2 6 dDraught [.c k, .p (.int many)]) 1 fun v => ∃ d, v = .p (.int d) ∧ 0 ≤ d ∧ d < many := by
  refine Rn.fn fun st t r hk ht hb hr => ?_
  obtain ⟨a, t', r', e, ⟨d, hd, d0, d1⟩, h2, h3, h4⟩ := draught_vs (cells := cells) h0 h1 ht (by omega) hr st hk
  subst hd
  exact ⟨_, t', r', e, h2, h3, h4, ⟨_, rfl⟩, d, rfl, d0, d1⟩
/-- one of some -/
def dCupful (mD : List Vl → M Vl) : MS := (sRet (eOp gIx (eVar 1) (eCall 2 0 2 [] [0, 1] mD (aCons (eVar 0) (aCons (eA gLen (aCons (eVar 1) aNil)) aNil)) aNil)))
theorem cupful {xs : List D} (h0 : xs ≠ []) (h1 : xs.length < 1073741824) : Rn cells k (mFun 2 2 (dCupful (mFun 2 6 dDraught)) [.c k, .p (.lst xs)]) 1 fun v => ∃ d, v = .p d ∧ d ∈ xs := by
  refine Rn.fn ?_
  unfold dCupful
  try simp -implicitDefEqProofs only [sM_pass, sM_seq, sM_asg, sM_ret, sM_expr, sM_if, sM_par, sM_asgT, sM_set, ret_bind, bind_assoc, x_var0, x_varS, x_C, x_op, x_un, x_A, x_nil, x_cons, x_call, x_and, x_or, x_not, x_if, x_tV, x_tCmp, x_tTru, x_tNot, x_tAnd, x_tOr, x_asB, x_sl, x_oNone, x_oSome, x_asI, x_trN, x_trB, x_trI, x_trL, x_trR, x_trT, x_add, x_sub, x_neg, x_lt, x_le, x_gt, x_ge, x_abs, x_max2, x_min2, x_intI, x_intB, x_eqI, x_neI, x_eqS, x_neS, x_lst, x_tup, x_frz0, x_frzP, x_lenL, x_lenT, x_lenR, x_tupleL, x_listL, x_listT, x_slL, x_slR, x_slT, callM, arrOf, List.filterMap_cons, List.filterMap_nil, List.getElem?_cons_zero, List.getElem?_cons_succ, List.cons_append, List.nil_append, List.append_nil, List.length_cons, List.length_nil, and_self, if_true, List.set_cons_zero, List.set_cons_succ, Bool.false_eq_true, if_false, Nat.reduceAdd, Nat.reduceSub, List.map_cons, List.map_nil, List.replicate_succ, List.replicate_zero, Bool.not_true, Bool.not_false]
  have hl : 0 < xs.length := List.length_pos_iff.mpr h0
  refine Rn.step (draught (many := xs.length) (by omega) (by omega)) fun v ⟨d, e, d0, d1⟩ => ?_
  subst e
  obtain ⟨x, e, m, _⟩ := atI_mem d0 d1
  rw [x_ixL e]
  try simp -implicitDefEqProofs only [sM_pass, sM_seq, sM_asg, sM_ret, sM_expr, sM_if, sM_par, sM_asgT, sM_set, ret_bind, bind_assoc, x_var0, x_varS, x_C, x_op, x_un, x_A, x_nil, x_cons, x_call, x_and, x_or, x_not, x_if, x_tV, x_tCmp, x_tTru, x_tNot, x_tAnd, x_tOr, x_asB, x_sl, x_oNone, x_oSome, x_asI, x_trN, x_trB, x_trI, x_trL, x_trR, x_trT, x_add, x_sub, x_neg, x_lt, x_le, x_gt, x_ge, x_abs, x_max2, x_min2, x_intI, x_intB, x_eqI, x_neI, x_eqS, x_neS, x_lst, x_tup, x_frz0, x_frzP, x_lenL, x_lenT, x_lenR, x_tupleL, x_listL, x_listT, x_slL, x_slR, x_slT, callM, arrOf, List.filterMap_cons, List.filterMap_nil, List.getElem?_cons_zero, List.getElem?_cons_succ, List.cons_append, List.nil_append, List.append_nil, List.length_cons, List.length_nil, and_self, if_true, List.set_cons_zero, List.set_cons_succ, Bool.false_eq_true, if_false, Nat.reduceAdd, Nat.reduceSub, List.map_cons, List.map_nil, List.replicate_succ, List.replicate_zero, Bool.not_true, Bool.not_false]
  exact Rn.ret ⟨⟨_, rfl⟩, x, rfl, m⟩
end
end Sim
end

section
open PySem PySem.Spec PyProof.Rows L2 RZ Sim
namespace K00
def topS (i : Nat) : Stmt := PySem.Challenge.pw_talkerfates_k00_plain_values_told.main.body.getD i (.Pass ⟨0, 0, 0, 0⟩)
abbrev s_is_integer : Stmt := topS 2
abbrev N_is_integer : List Str := ["value"]
abbrev s_is_within : Stmt := topS 3
abbrev N_is_within : List Str := ["value", "least", "most"]
abbrev s_is_list : Stmt := topS 4
abbrev N_is_list : List Str := ["value"]
abbrev s_is_row : Stmt := topS 5
abbrev N_is_row : List Str := ["value", "length", "each"]
abbrev s_is_text : Stmt := topS 6
abbrev N_is_text : List Str := ["value", "letters", "most", "each"]
abbrev s__law_vessel : Stmt := topS 8
abbrev N__law_vessel : List Str := ["script", "cell"]
abbrev s__law_draught : Stmt := topS 9
abbrev N__law_draught : List Str := ["vessel", "many", "rest", "turn", "cell", "mixed"]
abbrev s__law_cupful : Stmt := topS 10
abbrev N__law_cupful : List Str := ["vessel", "some"]
abbrev s__law_value : Stmt := topS 11
abbrev N__law_value : List Str := ["vessel", "number", "some"]
abbrev s__law_own_integer : Stmt := topS 12
abbrev N__law_own_integer : List Str := ["value"]
abbrev s__law_odd : Stmt := topS 13
abbrev N__law_odd : List Str := ["vessel"]
abbrev s__law_bent : Stmt := topS 14
abbrev N__law_bent : List Str := ["vessel", "row", "odd", "at"]
abbrev s__law_row_right : Stmt := topS 15
abbrev N__law_row_right : List Str := ["vessel", "length", "row", "turn", "told", "spoilt"]
abbrev s__law_text_right : Stmt := topS 16
abbrev N__law_text_right : List Str := ["vessel", "letters", "most", "size", "text", "turn", "told", "spoilt", "long"]
abbrev s_law : Stmt := topS 17
abbrev N_law : List Str := ["script", "vessel", "turn", "value", "low", "high", "number", "least", "most", "due"]
/-- what the top has written -/
structure TX (K : PySem.W.Frag) (mg : Str → Option Value) where
  f_is_integer : Addr
  fd_is_integer : FuncData
  F_is_integer : FunD K "is_integer" "is_integer" (defArgs s_is_integer) (defBody s_is_integer) (defScope s_is_integer) [] [] f_is_integer fd_is_integer
  m_is_integer : mg "is_integer" = some (.ref f_is_integer)
  f_is_within : Addr
  fd_is_within : FuncData
  F_is_within : FunD K "is_within" "is_within" (defArgs s_is_within) (defBody s_is_within) (defScope s_is_within) [] [] f_is_within fd_is_within
  m_is_within : mg "is_within" = some (.ref f_is_within)
  f_is_list : Addr
  fd_is_list : FuncData
  F_is_list : FunD K "is_list" "is_list" (defArgs s_is_list) (defBody s_is_list) (defScope s_is_list) [] [] f_is_list fd_is_list
  m_is_list : mg "is_list" = some (.ref f_is_list)
  f_is_row : Addr
  fd_is_row : FuncData
  F_is_row : FunD K "is_row" "is_row" (defArgs s_is_row) (defBody s_is_row) (defScope s_is_row) [] [] f_is_row fd_is_row
  m_is_row : mg "is_row" = some (.ref f_is_row)
  f_is_text : Addr
  fd_is_text : FuncData
  F_is_text : FunD K "is_text" "is_text" (defArgs s_is_text) (defBody s_is_text) (defScope s_is_text) [.int 1000] [] f_is_text fd_is_text
  m_is_text : mg "is_text" = some (.ref f_is_text)
  f__law_vessel : Addr
  fd__law_vessel : FuncData
  F__law_vessel : FunD K "_law_vessel" "_law_vessel" (defArgs s__law_vessel) (defBody s__law_vessel) (defScope s__law_vessel) [] [] f__law_vessel fd__law_vessel
  m__law_vessel : mg "_law_vessel" = some (.ref f__law_vessel)
  f__law_draught : Addr
  fd__law_draught : FuncData
  F__law_draught : FunD K "_law_draught" "_law_draught" (defArgs s__law_draught) (defBody s__law_draught) (defScope s__law_draught) [] [] f__law_draught fd__law_draught
  m__law_draught : mg "_law_draught" = some (.ref f__law_draught)
  f__law_cupful : Addr
  fd__law_cupful : FuncData
  F__law_cupful : FunD K "_law_cupful" "_law_cupful" (defArgs s__law_cupful) (defBody s__law_cupful) (defScope s__law_cupful) [] [] f__law_cupful fd__law_cupful
  m__law_cupful : mg "_law_cupful" = some (.ref f__law_cupful)
  f__law_value : Addr
  fd__law_value : FuncData
  F__law_value : FunD K "_law_value" "_law_value" (defArgs s__law_value) (defBody s__law_value) (defScope s__law_value) [] [] f__law_value fd__law_value
  m__law_value : mg "_law_value" = some (.ref f__law_value)
  f__law_own_integer : Addr
  fd__law_own_integer : FuncData
  F__law_own_integer : FunD K "_law_own_integer" "_law_own_integer" (defArgs s__law_own_integer) (defBody s__law_own_integer) (defScope s__law_own_integer) [] [] f__law_own_integer fd__law_own_integer
  m__law_own_integer : mg "_law_own_integer" = some (.ref f__law_own_integer)
  f__law_odd : Addr
  fd__law_odd : FuncData
  F__law_odd : FunD K "_law_odd" "_law_odd" (defArgs s__law_odd) (defBody s__law_odd) (defScope s__law_odd) [] [] f__law_odd fd__law_odd
  m__law_odd : mg "_law_odd" = some (.ref f__law_odd)
  f__law_bent : Addr
  fd__law_bent : FuncData
  F__law_bent : FunD K "_law_bent" "_law_bent" (defArgs s__law_bent) (defBody s__law_bent) (defScope s__law_bent) [] [] f__law_bent fd__law_bent
  m__law_bent : mg "_law_bent" = some (.ref f__law_bent)
  f__law_row_right : Addr
  fd__law_row_right : FuncData
  F__law_row_right : FunD K "_law_row_right" "_law_row_right" (defArgs s__law_row_right) (defBody s__law_row_right) (defScope s__law_row_right) [] [] f__law_row_right fd__law_row_right
  m__law_row_right : mg "_law_row_right" = some (.ref f__law_row_right)
  f__law_text_right : Addr
  fd__law_text_right : FuncData
  F__law_text_right : FunD K "_law_text_right" "_law_text_right" (defArgs s__law_text_right) (defBody s__law_text_right) (defScope s__law_text_right) [] [] f__law_text_right fd__law_text_right
  m__law_text_right : mg "_law_text_right" = some (.ref f__law_text_right)
  f_law : Addr
  fd_law : FuncData
  F_law : FunD K "law" "law" (defArgs s_law) (defBody s_law) (defScope s_law) [] [] f_law fd_law
  m_law : mg "law" = some (.ref f_law)
  b_abs : mg "abs" = none
  b_all : mg "all" = none
  b_bool : mg "bool" = none
  b_int : mg "int" = none
  b_isinstance : mg "isinstance" = none
  b_len : mg "len" = none
  b_list : mg "list" = none
  b_max : mg "max" = none
  b_range : mg "range" = none
  b_repr : mg "repr" = none
  b_str : mg "str" = none
  b_tuple : mg "tuple" = none
section
variable {P : Program} {w : World} {K : PySem.W.Frag} {mg : Str → Option Value} {base : Heap}
theorem sc_is_integer : FnScope N_is_integer ["value"] (defScope s_is_integer) := ⟨rfl, rfl, rfl, by decide +kernel, rfl, by decide +kernel, by decide +kernel⟩
def d_is_integer : MS := (sRet (eAnd (eA gIsi (aCons (eVar 0) (aCons (eC (.ty "int")) aNil))) (eNot (eA gIsi (aCons (eVar 0) (aCons (eC (.ty "bool")) aNil))))))
abbrev m_is_integer : List Vl → M Vl := mFun 1 1 d_is_integer
theorem g_is_integer (T : TX K mg) : FnG P w K mg base 1 T.f_is_integer T.fd_is_integer ["value"] (spM ⟨K, mg⟩ 1 m_is_integer) := by
  refine fnG (k := 0) (N := N_is_integer) T.F_is_integer sc_is_integer rfl rfl fun X E hX hc hr tk => ?_
  obtain ⟨cdv, A, outer, s, H, rfl⟩ := hX
  have hu64 := hr.units
  have hu65 := u65 hr
  unfold d_is_integer
  exact (sss_one (ss_ret (se_and (se_b cg_isi T.b_isinstance (by decide +kernel) (sa_cons (se_var 0) (sa_cons (se_ty T.b_int (by decide +kernel)) sa_nil))) (se_one (se_not (se_b cg_isi T.b_isinstance (by decide +kernel) (sa_cons (se_var 0) (sa_cons (se_ty T.b_bool (by decide +kernel)) sa_nil))))))))
theorem bd_is_integer_1 (T : TX K mg) : Bd K T.fd_is_integer ["value"] 1 [] [] [0] :=
  bd_plain T.F_is_integer fun _ _ _ _ _ _ us ws h1 h2 => match us, ws, h1, h2 with | [_], [], _, _ => rfl
theorem sc_is_within : FnScope N_is_within ["value", "least", "most"] (defScope s_is_within) := ⟨rfl, rfl, rfl, by decide +kernel, rfl, by decide +kernel, by decide +kernel⟩
def d_is_within : MS := (sSeq (Sim.sIf (Sim.tNot (tTru (eCall 1 0 1 [] [0] m_is_integer (aCons (eVar 0) aNil) aNil))) (sRet (eC (.bl false))) sPass)
 (sRet (eAnd (eOr (eOp (gIs false) (eVar 1) (eC .non)) (eOp gLe (eVar 1) (eVar 0))) (eOr (eOp (gIs false) (eVar 2) (eC .non)) (eOp gLe (eVar 0) (eVar 2))))))
abbrev m_is_within : List Vl → M Vl := mFun 3 3 d_is_within
theorem g_is_within (T : TX K mg) : FnG P w K mg base 2 T.f_is_within T.fd_is_within ["value", "least", "most"] (spM ⟨K, mg⟩ 3 m_is_within) := by
  refine fnG (k := 1) (N := N_is_within) T.F_is_within sc_is_within rfl rfl fun X E hX hc hr tk => ?_
  obtain ⟨cdv, A, outer, s, H, rfl⟩ := hX
  have hu64 := hr.units
  have hu65 := u65 hr
  unfold d_is_within
  exact (sss_cons (ss_if (st_not (st_tru (se_call (g_is_integer T) hc (hr.mono (by decide)) tk T.m_is_integer T.F_is_integer.kp (bd_is_integer_1 T) (fun _ => .nil) (sa_cons (se_var 0) sa_nil) sk_nil))) (sss_one (ss_ret se_bl)) sss_nil)
 (sss_one (ss_ret (se_and (se_or (se_cmp og_is (se_var 1) se_non) (se_one (se_cmp og_le (se_var 1) (se_var 0)))) (se_one (se_or (se_cmp og_is (se_var 2) se_non) (se_one (se_cmp og_le (se_var 0) (se_var 2)))))))))
theorem sc_is_list : FnScope N_is_list ["value"] (defScope s_is_list) := ⟨rfl, rfl, rfl, by decide +kernel, rfl, by decide +kernel, by decide +kernel⟩
def d_is_list : MS := (sRet (eA gIsi (aCons (eVar 0) (aCons (eA gTup (aCons (eC (.ty "list")) (aCons (eC (.ty "tuple")) aNil))) aNil))))
abbrev m_is_list : List Vl → M Vl := mFun 1 1 d_is_list
theorem g_is_list (T : TX K mg) : FnG P w K mg base 1 T.f_is_list T.fd_is_list ["value"] (spM ⟨K, mg⟩ 1 m_is_list) := by
  refine fnG (k := 0) (N := N_is_list) T.F_is_list sc_is_list rfl rfl fun X E hX hc hr tk => ?_
  obtain ⟨cdv, A, outer, s, H, rfl⟩ := hX
  have hu64 := hr.units
  have hu65 := u65 hr
  unfold d_is_list
  exact (sss_one (ss_ret (se_b cg_isi T.b_isinstance (by decide +kernel) (sa_cons (se_var 0) (sa_cons (se_tup (sa_cons (se_ty T.b_list (by decide +kernel)) (sa_cons (se_ty T.b_tuple (by decide +kernel)) sa_nil))) sa_nil)))))
theorem bd_is_list_1 (T : TX K mg) : Bd K T.fd_is_list ["value"] 1 [] [] [0] :=
  bd_plain T.F_is_list fun _ _ _ _ _ _ us ws h1 h2 => match us, ws, h1, h2 with | [_], [], _, _ => rfl
theorem sc_is_row : FnScope N_is_row ["value", "length"] (defScope s_is_row) := ⟨rfl, rfl, rfl, by decide +kernel, rfl, by decide +kernel, by decide +kernel⟩
def d_is_row : MS := (sRet (eAnd (eCall 1 0 1 [] [0] m_is_list (aCons (eVar 0) aNil) aNil) (eAnd (eOp gEq (eA gLen (aCons (eVar 0) aNil)) (eVar 1)) (eA gAll (aCons (eComp (iSeq (eVar 0)) (.nm 2) tYesM (eCall 1 0 1 [] [0] m_is_integer (aCons (eVar 2) aNil) aNil) [2]) aNil)))))
abbrev m_is_row : List Vl → M Vl := mFun 2 3 d_is_row
theorem g_is_row (T : TX K mg) : FnG P w K mg base 2 T.f_is_row T.fd_is_row ["value", "length"] (spM ⟨K, mg⟩ 2 m_is_row) := by
  refine fnG (k := 1) (N := N_is_row) T.F_is_row sc_is_row rfl rfl fun X E hX hc hr tk => ?_
  obtain ⟨cdv, A, outer, s, H, rfl⟩ := hX
  have hu64 := hr.units
  have hu65 := u65 hr
  unfold d_is_row
  exact (sss_one (ss_ret (se_and (se_call (g_is_list T) hc (hr.mono (by decide)) tk T.m_is_list T.F_is_list.kp (bd_is_list_1 T) (fun _ => .nil) (sa_cons (se_var 0) sa_nil) sk_nil) (se_and (se_cmp (og_eq hu64) (se_b cg_len T.b_len (by decide +kernel) (sa_cons (se_var 0) sa_nil)) (se_var 1)) (se_one (se_b (cg_all rfl) T.b_all (by decide +kernel) (sa_cons (se_lc exD_ok rfl sc_is_row.nd (own := [("each", 2)]) (show blkC N_is_row (defScope s_is_row) _ [("each", 2)] = true from by decide +kernel) (by simp [Tgt.ixs, Tgt.ixss]) (si_seq (se_var 0)) (fun _ _ _ _ _ => (sg_nm 2 sc_is_row.nd)) (fun _ _ _ _ _ => spt_nil) (fun _ _ _ _ _ => (se_call (g_is_integer T) hc (hr.mono (by decide)) takes0 T.m_is_integer T.F_is_integer.kp (bd_is_integer_1 T) (fun _ => .nil) (sa_cons (se_var 2) sa_nil) sk_nil))) sa_nil)))))))
theorem bd_is_within_3 (T : TX K mg) : Bd K T.fd_is_within ["value", "least", "most"] 3 [] [] [0, 1, 2] :=
  bd_plain T.F_is_within fun _ _ _ _ _ _ us ws h1 h2 => match us, ws, h1, h2 with | [_, _, _], [], _, _ => rfl
theorem sc_is_text : FnScope N_is_text ["value", "letters", "most"] (defScope s_is_text) := ⟨rfl, rfl, rfl, by decide +kernel, rfl, by decide +kernel, by decide +kernel⟩
def d_is_text : MS := (sRet (eAnd (eCall 1 0 1 [] [0] m_is_list (aCons (eVar 0) aNil) aNil) (eAnd (eOp gLe (eA gLen (aCons (eVar 0) aNil)) (eVar 2)) (eA gAll (aCons (eComp (iSeq (eVar 0)) (.nm 3) tYesM (eCall 3 0 3 [] [0, 1, 2] m_is_within (aCons (eVar 3) (aCons (eC (.int 0)) (aCons (eOp gSub (eVar 1) (eC (.int 1))) aNil))) aNil) [3]) aNil)))))
abbrev m_is_text : List Vl → M Vl := mFun 3 4 d_is_text
theorem g_is_text (T : TX K mg) : FnG P w K mg base 3 T.f_is_text T.fd_is_text ["value", "letters", "most"] (spM ⟨K, mg⟩ 3 m_is_text) := by
  refine fnG (k := 2) (N := N_is_text) T.F_is_text sc_is_text rfl rfl fun X E hX hc hr tk => ?_
  obtain ⟨cdv, A, outer, s, H, rfl⟩ := hX
  have hu64 := hr.units
  have hu65 := u65 hr
  unfold d_is_text
  exact (sss_one (ss_ret (se_and (se_call (g_is_list T) hc (hr.mono (by decide)) tk T.m_is_list T.F_is_list.kp (bd_is_list_1 T) (fun _ => .nil) (sa_cons (se_var 0) sa_nil) sk_nil) (se_and (se_cmp og_le (se_b cg_len T.b_len (by decide +kernel) (sa_cons (se_var 0) sa_nil)) (se_var 2)) (se_one (se_b (cg_all rfl) T.b_all (by decide +kernel) (sa_cons (se_lc exD_ok rfl sc_is_text.nd (own := [("each", 3)]) (show blkC N_is_text (defScope s_is_text) _ [("each", 3)] = true from by decide +kernel) (by simp [Tgt.ixs, Tgt.ixss]) (si_seq (se_var 0)) (fun _ _ _ _ _ => (sg_nm 3 sc_is_text.nd)) (fun _ _ _ _ _ => spt_nil) (fun _ _ _ _ _ => (se_call (g_is_within T) hc (hr.mono (by decide)) takes0 T.m_is_within T.F_is_within.kp (bd_is_within_3 T) (fun _ => .nil) (sa_cons (se_var 3) (sa_cons se_int (sa_cons (se_op og_sub (se_var 1) se_int) sa_nil))) sk_nil))) sa_nil)))))))
theorem sc__law_vessel : FnScope N__law_vessel ["script"] (defScope s__law_vessel) := ⟨rfl, rfl, rfl, by decide +kernel, rfl, by decide +kernel, by decide +kernel⟩
def d__law_vessel : MS := (sRet (eA gLstM (aCons (eComp (iSeq (eSl (eVar 0) oNone (oSome (eC (.int 60))))) (.nm 1) tYesM (eA gInt (aCons (eVar 1) aNil)) [1]) (aCons (eC (.int 0)) (aCons (eC (.int 0)) aNil)))))
abbrev m__law_vessel : List Vl → M Vl := mFunWith exitC 1 2 d__law_vessel
theorem g__law_vessel (T : TX K mg) : FnG P w K mg base 1 T.f__law_vessel T.fd__law_vessel ["script"] (spM ⟨K, mg⟩ 1 m__law_vessel) := by
  refine fnGC (k := 0) (N := N__law_vessel) T.F__law_vessel sc__law_vessel rfl rfl fun X E hX hc hr tk => ?_
  obtain ⟨cdv, A, outer, s, H, rfl⟩ := hX
  have hu64 := hr.units
  have hu65 := u65 hr
  unfold d__law_vessel
  exact (sss_one (ss_ret (se_lstM (sa_cons (se_lc exD_ok rfl sc__law_vessel.nd (own := [("cell", 1)]) (show blkC N__law_vessel (defScope s__law_vessel) _ [("cell", 1)] = true from by decide +kernel) (by simp [Tgt.ixs, Tgt.ixss]) (si_seq (se_sl (se_var 0) so_none (so_some se_int))) (fun _ _ _ _ _ => (sg_nm 1 sc__law_vessel.nd)) (fun _ _ _ _ _ => spt_nil) (fun _ _ _ _ _ => (se_t cg_int T.b_int (by decide +kernel) (sa_cons (se_var 1) sa_nil)))) (sa_cons se_int (sa_cons se_int sa_nil))))))
theorem sc__law_draught : FnScope N__law_draught ["vessel", "many"] (defScope s__law_draught) := ⟨rfl, rfl, rfl, by decide +kernel, rfl, by decide +kernel, by decide +kernel⟩
def d__law_draught : MS := (sSeq (Sim.sIf (Sim.tCmp gEq (eOp gIx (eVar 0) (eC (.int 0))) (eA gLst aNil)) (sRet (eC (.int 0))) sPass)
 (sSeq (Sim.sIf (Sim.tCmp gGt (eOp gIx (eVar 0) (eC (.int 2))) (eC (.int 0))) (sSeq (sAsg 2 (eA gInt (aCons (eOp gIx (eVar 0) (eC (.int 2))) aNil)))
 (sSeq (sSet (eVar 0) (eC (.int 2)) (eOp gFdiv (eVar 2) (eVar 1)))
 (sRet (eOp gMod (eA gInt (aCons (eVar 2) aNil)) (eVar 1))))) sPass)
 (sSeq (sAsg 3 (eOp gIx (eVar 0) (eC (.int 1))))
 (sSeq (sSet (eVar 0) (eC (.int 1)) (eOp gAdd (eVar 3) (eC (.int 1))))
 (sSeq (sAsg 4 (eOp gIx (eOp gIx (eVar 0) (eC (.int 0))) (eOp gMod (eA gInt (aCons (eVar 3) aNil)) (eA gLen (aCons (eOp gIx (eVar 0) (eC (.int 0))) aNil)))))
 (sSeq (Sim.sIf (Sim.tAnd (Sim.tCmp gLt (eVar 3) (eA gLen (aCons (eOp gIx (eVar 0) (eC (.int 0))) aNil))) (Sim.tCmp gGe (eA gAbs (aCons (eVar 4) aNil)) (eOp gPow (eC (.int 10)) (eC (.int 18))))) (sSeq (sAsg 2 (eOp gAdd (eOp gMulS (eC (.int 2)) (eOp gSub (eA gAbs (aCons (eVar 4) aNil)) (eOp gPow (eC (.int 10)) (eC (.int 18))))) (eA gInt (aCons (eOp gLt (eVar 4) (eC (.int 0))) aNil))))
 (sSeq (sSet (eVar 0) (eC (.int 2)) (eOp gFdiv (eVar 2) (eVar 1)))
 (sRet (eOp gMod (eA gInt (aCons (eVar 2) aNil)) (eVar 1))))) sPass)
 (sSeq (sAsg 5 (eOp gMod (eA gInt (aCons (eOp gPow (eOp gAdd (eOp gAdd (eOp gMod (eA gInt (aCons (eVar 4) aNil)) (eC (.int 2147483563))) (eOp gMulS (eC (.int 41081)) (eVar 3))) (eC (.int 2633))) (eC (.int 5))) aNil)) (eC (.int 2147483549))))
 (sSeq (sAsg 5 (eOp gMod (eA gInt (aCons (eOp gPow (eOp gAdd (eOp gAdd (eOp gMulS (eVar 5) (eOp gAdd (eOp gMulS (eC (.int 2)) (eVar 3)) (eC (.int 6151)))) (eOp gMulS (eOp gMulS (eC (.int 90121)) (eVar 3)) (eVar 3))) (eC (.int 41081))) (eC (.int 3))) aNil)) (eC (.int 2147483587))))
 (sRet (eOp gMod (eA gInt (aCons (eOp gFdiv (eVar 5) (eC (.int 64))) aNil)) (eVar 1)))))))))))
abbrev m__law_draught : List Vl → M Vl := mFun 2 6 d__law_draught
theorem g__law_draught (T : TX K mg) : FnG P w K mg base 1 T.f__law_draught T.fd__law_draught ["vessel", "many"] (spM ⟨K, mg⟩ 2 m__law_draught) := by
  refine fnG (k := 0) (N := N__law_draught) T.F__law_draught sc__law_draught rfl rfl fun X E hX hc hr tk => ?_
  obtain ⟨cdv, A, outer, s, H, rfl⟩ := hX
  have hu64 := hr.units
  have hu65 := u65 hr
  unfold d__law_draught
  exact (sss_cons (ss_if (st_cmp (og_eq hu64) (se_ix og_ix (se_var 0) se_int) (se_lst sa_nil)) (sss_one (ss_ret se_int)) sss_nil)
 (sss_cons (ss_if (st_cmp og_gt (se_ix og_ix (se_var 0) se_int) se_int) (sss_cons (ss_set 2 sc__law_draught.nd (se_t cg_int T.b_int (by decide +kernel) (sa_cons (se_ix og_ix (se_var 0) se_int) sa_nil)))
 (sss_cons (ss_setI (se_var 0) se_int (se_op og_fdiv (se_var 2) (se_var 1)))
 (sss_one (ss_ret (se_op og_mod (se_t cg_int T.b_int (by decide +kernel) (sa_cons (se_var 2) sa_nil)) (se_var 1)))))) sss_nil)
 (sss_cons (ss_set 3 sc__law_draught.nd (se_ix og_ix (se_var 0) se_int))
 (sss_cons (ss_setI (se_var 0) se_int (se_op og_add (se_var 3) se_int))
 (sss_cons (ss_set 4 sc__law_draught.nd (se_ix og_ix (se_ix og_ix (se_var 0) se_int) (se_op og_mod (se_t cg_int T.b_int (by decide +kernel) (sa_cons (se_var 3) sa_nil)) (se_b cg_len T.b_len (by decide +kernel) (sa_cons (se_ix og_ix (se_var 0) se_int) sa_nil)))))
 (sss_cons (ss_if (st_w (sw_and (st_cmp og_lt (se_var 3) (se_b cg_len T.b_len (by decide +kernel) (sa_cons (se_ix og_ix (se_var 0) se_int) sa_nil))) (sw_and1 (st_cmp og_ge (se_b cg_abs T.b_abs (by decide +kernel) (sa_cons (se_var 4) sa_nil)) (se_op og_pow se_int se_int))))) (sss_cons (ss_set 2 sc__law_draught.nd (se_op og_add (se_op og_mulS se_int (se_op og_sub (se_b cg_abs T.b_abs (by decide +kernel) (sa_cons (se_var 4) sa_nil)) (se_op og_pow se_int se_int))) (se_t cg_int T.b_int (by decide +kernel) (sa_cons (se_cmp og_lt (se_var 4) se_int) sa_nil))))
 (sss_cons (ss_setI (se_var 0) se_int (se_op og_fdiv (se_var 2) (se_var 1)))
 (sss_one (ss_ret (se_op og_mod (se_t cg_int T.b_int (by decide +kernel) (sa_cons (se_var 2) sa_nil)) (se_var 1)))))) sss_nil)
 (sss_cons (ss_set 5 sc__law_draught.nd (se_op og_mod (se_t cg_int T.b_int (by decide +kernel) (sa_cons (se_op og_pow (se_op og_add (se_op og_add (se_op og_mod (se_t cg_int T.b_int (by decide +kernel) (sa_cons (se_var 4) sa_nil)) se_int) (se_op og_mulS se_int (se_var 3))) se_int) se_int) sa_nil)) se_int))
 (sss_cons (ss_set 5 sc__law_draught.nd (se_op og_mod (se_t cg_int T.b_int (by decide +kernel) (sa_cons (se_op og_pow (se_op og_add (se_op og_add (se_op og_mulS (se_var 5) (se_op og_add (se_op og_mulS se_int (se_var 3)) se_int)) (se_op og_mulS (se_op og_mulS se_int (se_var 3)) (se_var 3))) se_int) se_int) sa_nil)) se_int))
 (sss_one (ss_ret (se_op og_mod (se_t cg_int T.b_int (by decide +kernel) (sa_cons (se_op og_fdiv (se_var 5) se_int) sa_nil)) (se_var 1))))))))))))
theorem bd__law_draught_2 (T : TX K mg) : Bd K T.fd__law_draught ["vessel", "many"] 2 [] [] [0, 1] :=
  bd_plain T.F__law_draught fun _ _ _ _ _ _ us ws h1 h2 => match us, ws, h1, h2 with | [_, _], [], _, _ => rfl
theorem sc__law_cupful : FnScope N__law_cupful ["vessel", "some"] (defScope s__law_cupful) := ⟨rfl, rfl, rfl, by decide +kernel, rfl, by decide +kernel, by decide +kernel⟩
def d__law_cupful : MS := (sRet (eOp gIx (eVar 1) (eCall 2 0 2 [] [0, 1] m__law_draught (aCons (eVar 0) (aCons (eA gLen (aCons (eVar 1) aNil)) aNil)) aNil)))
abbrev m__law_cupful : List Vl → M Vl := mFun 2 2 d__law_cupful
theorem g__law_cupful (T : TX K mg) : FnG P w K mg base 2 T.f__law_cupful T.fd__law_cupful ["vessel", "some"] (spM ⟨K, mg⟩ 2 m__law_cupful) := by
  refine fnG (k := 1) (N := N__law_cupful) T.F__law_cupful sc__law_cupful rfl rfl fun X E hX hc hr tk => ?_
  obtain ⟨cdv, A, outer, s, H, rfl⟩ := hX
  have hu64 := hr.units
  have hu65 := u65 hr
  unfold d__law_cupful
  exact (sss_one (ss_ret (se_ix og_ix (se_var 1) (se_call (g__law_draught T) hc (hr.mono (by decide)) tk T.m__law_draught T.F__law_draught.kp (bd__law_draught_2 T) (fun _ => .nil) (sa_cons (se_var 0) (sa_cons (se_b cg_len T.b_len (by decide +kernel) (sa_cons (se_var 1) sa_nil)) sa_nil)) sk_nil))))
theorem bd__law_cupful_2 (T : TX K mg) : Bd K T.fd__law_cupful ["vessel", "some"] 2 [] [] [0, 1] :=
  bd_plain T.F__law_cupful fun _ _ _ _ _ _ us ws h1 h2 => match us, ws, h1, h2 with | [_, _], [], _, _ => rfl
theorem sc__law_value : FnScope N__law_value ["vessel"] (defScope s__law_value) := ⟨rfl, rfl, rfl, by decide +kernel, rfl, by decide +kernel, by decide +kernel⟩
def d__law_value : MS := (sSeq (sAsg 1 (eCall 2 0 2 [] [0, 1] m__law_cupful (aCons (eVar 0) (aCons (eA gLst (aCons (eOp gSub (eCall 2 0 2 [] [0, 1] m__law_draught (aCons (eVar 0) (aCons (eC (.int 9)) aNil)) aNil) (eC (.int 4))) (aCons (eOp gAdd (eOp gPow (eC (.int 10)) (eC (.int 20))) (eCall 2 0 2 [] [0, 1] m__law_draught (aCons (eVar 0) (aCons (eC (.int 9)) aNil)) aNil)) (aCons (eUn gNeg (eCall 2 0 2 [] [0, 1] m__law_draught (aCons (eVar 0) (aCons (eC (.int 1000)) aNil)) aNil)) aNil)))) aNil)) aNil))
 (sSeq (sAsg 2 (eA gLst (aCons (eVar 1) (aCons (eA gStr (aCons (eVar 1) aNil)) (aCons (eC .non) (aCons (eC (.bl true)) (aCons (eC (.bl false)) (aCons (eA gLst (aCons (eVar 1) aNil)) (aCons (eA gTup (aCons (eVar 1) (aCons (eC (.int 2)) aNil))) (aCons (eDict [((eVar 1), (eA gLst (aCons (eVar 1) aNil)))]) (aCons (eC (.str "")) (aCons (eA gLst aNil) (aCons (eA gTup aNil) (aCons (eA gLst (aCons (eA gLst (aCons (eVar 1) aNil)) (aCons (eA gTup (aCons (eC (.int 1)) (aCons (eA gLst (aCons (eC (.int 2)) aNil)) aNil))) aNil))) (aCons (eA gLst (aCons (eC (.bl true)) (aCons (eC (.int 0)) aNil))) (aCons (eC (.str "01")) aNil))))))))))))))))
 (sRet (eCall 2 0 2 [] [0, 1] m__law_cupful (aCons (eVar 0) (aCons (eVar 2) aNil)) aNil))))
abbrev m__law_value : List Vl → M Vl := mFun 1 3 d__law_value
theorem g__law_value (T : TX K mg) : FnG P w K mg base 3 T.f__law_value T.fd__law_value ["vessel"] (spM ⟨K, mg⟩ 1 m__law_value) := by
  refine fnG (k := 2) (N := N__law_value) T.F__law_value sc__law_value rfl rfl fun X E hX hc hr tk => ?_
  obtain ⟨cdv, A, outer, s, H, rfl⟩ := hX
  have hu64 := hr.units
  have hu65 := u65 hr
  unfold d__law_value
  exact (sss_cons (ss_set 1 sc__law_value.nd (se_call (g__law_cupful T) hc (hr.mono (by decide)) tk T.m__law_cupful T.F__law_cupful.kp (bd__law_cupful_2 T) (fun _ => .nil) (sa_cons (se_var 0) (sa_cons (se_lst (sa_cons (se_op og_sub (se_call (g__law_draught T) hc (hr.mono (by decide)) tk T.m__law_draught T.F__law_draught.kp (bd__law_draught_2 T) (fun _ => .nil) (sa_cons (se_var 0) (sa_cons se_int sa_nil)) sk_nil) se_int) (sa_cons (se_op og_add (se_op og_pow se_int se_int) (se_call (g__law_draught T) hc (hr.mono (by decide)) tk T.m__law_draught T.F__law_draught.kp (bd__law_draught_2 T) (fun _ => .nil) (sa_cons (se_var 0) (sa_cons se_int sa_nil)) sk_nil)) (sa_cons (se_un og_neg (se_call (g__law_draught T) hc (hr.mono (by decide)) tk T.m__law_draught T.F__law_draught.kp (bd__law_draught_2 T) (fun _ => .nil) (sa_cons (se_var 0) (sa_cons se_int sa_nil)) sk_nil)) sa_nil)))) sa_nil)) sk_nil))
 (sss_cons (ss_set 2 sc__law_value.nd (se_lst (sa_cons (se_var 1) (sa_cons (se_t cg_str T.b_str (by decide +kernel) (sa_cons (se_var 1) sa_nil)) (sa_cons se_non (sa_cons se_bl (sa_cons se_bl (sa_cons (se_lst (sa_cons (se_var 1) sa_nil)) (sa_cons (se_tup (sa_cons (se_var 1) (sa_cons se_int sa_nil))) (sa_cons (se_dict (.cons (se_var 1) (se_lst (sa_cons (se_var 1) sa_nil)) .nil)) (sa_cons se_str (sa_cons (se_lst sa_nil) (sa_cons (se_tup sa_nil) (sa_cons (se_lst (sa_cons (se_lst (sa_cons (se_var 1) sa_nil)) (sa_cons (se_tup (sa_cons se_int (sa_cons (se_lst (sa_cons se_int sa_nil)) sa_nil))) sa_nil))) (sa_cons (se_lst (sa_cons se_bl (sa_cons se_int sa_nil))) (sa_cons se_str sa_nil))))))))))))))))
 (sss_one (ss_ret (se_call (g__law_cupful T) hc (hr.mono (by decide)) tk T.m__law_cupful T.F__law_cupful.kp (bd__law_cupful_2 T) (fun _ => .nil) (sa_cons (se_var 0) (sa_cons (se_var 2) sa_nil)) sk_nil)))))
theorem sc__law_own_integer : FnScope N__law_own_integer ["value"] (defScope s__law_own_integer) := ⟨rfl, rfl, rfl, by decide +kernel, rfl, by decide +kernel, by decide +kernel⟩
def d__law_own_integer : MS := (sRet (eAnd (eA gIsi (aCons (eVar 0) (aCons (eC (.ty "int")) aNil))) (eNot (eA gIsi (aCons (eVar 0) (aCons (eC (.ty "bool")) aNil))))))
abbrev m__law_own_integer : List Vl → M Vl := mFun 1 1 d__law_own_integer
theorem g__law_own_integer (T : TX K mg) : FnG P w K mg base 1 T.f__law_own_integer T.fd__law_own_integer ["value"] (spM ⟨K, mg⟩ 1 m__law_own_integer) := by
  refine fnG (k := 0) (N := N__law_own_integer) T.F__law_own_integer sc__law_own_integer rfl rfl fun X E hX hc hr tk => ?_
  obtain ⟨cdv, A, outer, s, H, rfl⟩ := hX
  have hu64 := hr.units
  have hu65 := u65 hr
  unfold d__law_own_integer
  exact (sss_one (ss_ret (se_and (se_b cg_isi T.b_isinstance (by decide +kernel) (sa_cons (se_var 0) (sa_cons (se_ty T.b_int (by decide +kernel)) sa_nil))) (se_one (se_not (se_b cg_isi T.b_isinstance (by decide +kernel) (sa_cons (se_var 0) (sa_cons (se_ty T.b_bool (by decide +kernel)) sa_nil))))))))
theorem sc__law_odd : FnScope N__law_odd ["vessel"] (defScope s__law_odd) := ⟨rfl, rfl, rfl, by decide +kernel, rfl, by decide +kernel, by decide +kernel⟩
def d__law_odd : MS := (sRet (eCall 2 0 2 [] [0, 1] m__law_cupful (aCons (eVar 0) (aCons (eA gLst (aCons (eC (.bl true)) (aCons (eC (.bl false)) (aCons (eC .non) (aCons (eC (.str "1")) (aCons (eA gLst (aCons (eC (.int 1)) aNil)) (aCons (eA gTup (aCons (eC (.int 0)) aNil)) (aCons (eC (.str "")) (aCons eDict0 aNil))))))))) aNil)) aNil))
abbrev m__law_odd : List Vl → M Vl := mFun 1 1 d__law_odd
theorem g__law_odd (T : TX K mg) : FnG P w K mg base 3 T.f__law_odd T.fd__law_odd ["vessel"] (spM ⟨K, mg⟩ 1 m__law_odd) := by
  refine fnG (k := 2) (N := N__law_odd) T.F__law_odd sc__law_odd rfl rfl fun X E hX hc hr tk => ?_
  obtain ⟨cdv, A, outer, s, H, rfl⟩ := hX
  have hu64 := hr.units
  have hu65 := u65 hr
  unfold d__law_odd
  exact (sss_one (ss_ret (se_call (g__law_cupful T) hc (hr.mono (by decide)) tk T.m__law_cupful T.F__law_cupful.kp (bd__law_cupful_2 T) (fun _ => .nil) (sa_cons (se_var 0) (sa_cons (se_lst (sa_cons se_bl (sa_cons se_bl (sa_cons se_non (sa_cons se_str (sa_cons (se_lst (sa_cons se_int sa_nil)) (sa_cons (se_tup (sa_cons se_int sa_nil)) (sa_cons se_str (sa_cons se_dict0 sa_nil))))))))) sa_nil)) sk_nil)))
theorem sc__law_bent : FnScope N__law_bent ["vessel", "row", "odd"] (defScope s__law_bent) := ⟨rfl, rfl, rfl, by decide +kernel, rfl, by decide +kernel, by decide +kernel⟩
def d__law_bent : MS := (sSeq (sAsg 3 (eCall 2 0 2 [] [0, 1] m__law_draught (aCons (eVar 0) (aCons (eOp gAdd (eA gLen (aCons (eVar 1) aNil)) (eC (.int 1))) aNil)) aNil))
 (sRet (eOp gAdd (eOp gAdd (eSl (eVar 1) oNone (oSome (eVar 3))) (eA gLst (aCons (eVar 2) aNil))) (eSl (eVar 1) (oSome (eOp gAdd (eVar 3) (eCall 2 0 2 [] [0, 1] m__law_draught (aCons (eVar 0) (aCons (eC (.int 2)) aNil)) aNil))) oNone))))
abbrev m__law_bent : List Vl → M Vl := mFun 3 4 d__law_bent
theorem g__law_bent (T : TX K mg) : FnG P w K mg base 2 T.f__law_bent T.fd__law_bent ["vessel", "row", "odd"] (spM ⟨K, mg⟩ 3 m__law_bent) := by
  refine fnG (k := 1) (N := N__law_bent) T.F__law_bent sc__law_bent rfl rfl fun X E hX hc hr tk => ?_
  obtain ⟨cdv, A, outer, s, H, rfl⟩ := hX
  have hu64 := hr.units
  have hu65 := u65 hr
  unfold d__law_bent
  exact (sss_cons (ss_set 3 sc__law_bent.nd (se_call (g__law_draught T) hc (hr.mono (by decide)) tk T.m__law_draught T.F__law_draught.kp (bd__law_draught_2 T) (fun _ => .nil) (sa_cons (se_var 0) (sa_cons (se_op og_add (se_b cg_len T.b_len (by decide +kernel) (sa_cons (se_var 1) sa_nil)) se_int) sa_nil)) sk_nil))
 (sss_one (ss_ret (se_op og_add (se_op og_add (se_sl (se_var 1) so_none (so_some (se_var 3))) (se_lst (sa_cons (se_var 2) sa_nil))) (se_sl (se_var 1) (so_some (se_op og_add (se_var 3) (se_call (g__law_draught T) hc (hr.mono (by decide)) tk T.m__law_draught T.F__law_draught.kp (bd__law_draught_2 T) (fun _ => .nil) (sa_cons (se_var 0) (sa_cons se_int sa_nil)) sk_nil))) so_none)))))
theorem bd_is_row_2 (T : TX K mg) : Bd K T.fd_is_row ["value", "length"] 2 [] [] [0, 1] :=
  bd_plain T.F_is_row fun _ _ _ _ _ _ us ws h1 h2 => match us, ws, h1, h2 with | [_, _], [], _, _ => rfl
theorem bd_is_row_0_value_length (T : TX K mg) : Bd K T.fd_is_row ["value", "length"] 0 ["value", "length"] [] [0, 1] :=
  bd_plain T.F_is_row fun _ _ _ _ _ _ us ws h1 h2 => match us, ws, h1, h2 with | [], [_, _], _, _ => rfl
theorem bd__law_bent_3 (T : TX K mg) : Bd K T.fd__law_bent ["vessel", "row", "odd"] 3 [] [] [0, 1, 2] :=
  bd_plain T.F__law_bent fun _ _ _ _ _ _ us ws h1 h2 => match us, ws, h1, h2 with | [_, _, _], [], _, _ => rfl
theorem bd__law_odd_1 (T : TX K mg) : Bd K T.fd__law_odd ["vessel"] 1 [] [] [0] :=
  bd_plain T.F__law_odd fun _ _ _ _ _ _ us ws h1 h2 => match us, ws, h1, h2 with | [_], [], _, _ => rfl
theorem sc__law_row_right : FnScope N__law_row_right ["vessel"] (defScope s__law_row_right) := ⟨rfl, rfl, rfl, by decide +kernel, rfl, by decide +kernel, by decide +kernel⟩
def d__law_row_right : MS := (sSeq (sAsg 1 (eCall 2 0 2 [] [0, 1] m__law_draught (aCons (eVar 0) (aCons (eC (.int 6)) aNil)) aNil))
 (sSeq (sAsg 2 (eComp (iRng1 (aCons (eVar 1) aNil)) (.nm 3) tYesM (eCall 2 0 2 [] [0, 1] m__law_cupful (aCons (eVar 0) (aCons (eA gLst (aCons (eC (.int 0)) (aCons (eUn gNeg (eC (.int 1))) (aCons (eC (.int 7)) (aCons (eOp gPow (eC (.int 10)) (eC (.int 50))) (aCons (eUn gNeg (eOp gPow (eC (.int 10)) (eC (.int 21)))) (aCons (eCall 2 0 2 [] [0, 1] m__law_draught (aCons (eVar 0) (aCons (eC (.int 99)) aNil)) aNil) aNil))))))) aNil)) aNil) [3]))
 (sSeq (sAsg 4 (eA gLst (aCons (eCall 2 0 2 [] [0, 1] m_is_row (aCons (eVar 2) (aCons (eVar 1) aNil)) aNil) (aCons (eCall 0 2 2 [] [0, 1] m_is_row aNil (aCons (eA gTuple (aCons (eVar 2) aNil)) (aCons (eVar 1) aNil))) (aCons (eCall 2 0 2 [] [0, 1] m_is_row (aCons (eVar 2) (aCons (eOp gAdd (eVar 1) (eC (.int 1))) aNil)) aNil) (aCons (eCall 2 0 2 [] [0, 1] m_is_row (aCons (eOp gAdd (eVar 2) (eA gLst (aCons (eC (.int 4)) aNil))) (aCons (eVar 1) aNil)) aNil) aNil))))))
 (sSeq (sAsg 5 (eCall 3 0 3 [] [0, 1, 2] m__law_bent (aCons (eVar 0) (aCons (eVar 2) (aCons (eCall 1 0 1 [] [0] m__law_odd (aCons (eVar 0) aNil) aNil) aNil))) aNil))
 (sSeq (sAsg 4 (eOp gAdd (eVar 4) (eA gLst (aCons (eCall 2 0 2 [] [0, 1] m_is_row (aCons (eVar 5) (aCons (eA gLen (aCons (eVar 5) aNil)) aNil)) aNil) (aCons (eCall 2 0 2 [] [0, 1] m_is_row (aCons (eA gTuple (aCons (eVar 5) aNil)) (aCons (eA gLen (aCons (eVar 5) aNil)) aNil)) aNil) (aCons (eCall 2 0 2 [] [0, 1] m_is_row (aCons (eOp gMulS (eC (.str "0")) (eVar 1)) (aCons (eVar 1) aNil)) aNil) (aCons (eCall 2 0 2 [] [0, 1] m_is_row (aCons eDict0 (aCons (eC (.int 0)) aNil)) aNil) (aCons (eCall 2 0 2 [] [0, 1] m_is_row (aCons (eC .non) (aCons (eC (.int 0)) aNil)) aNil) aNil))))))))
 (sRet (eOp gEq (eA gRepr (aCons (eVar 4) aNil)) (eA gRepr (aCons (eA gLst (aCons (eC (.bl true)) (aCons (eC (.bl true)) (aCons (eC (.bl false)) (aCons (eC (.bl false)) (aCons (eC (.bl false)) (aCons (eC (.bl false)) (aCons (eC (.bl false)) (aCons (eC (.bl false)) (aCons (eC (.bl false)) aNil)))))))))) aNil)))))))))
abbrev m__law_row_right : List Vl → M Vl := mFun 1 6 d__law_row_right
theorem g__law_row_right (T : TX K mg) : FnG P w K mg base 4 T.f__law_row_right T.fd__law_row_right ["vessel"] (spM ⟨K, mg⟩ 1 m__law_row_right) := by
  refine fnG (k := 3) (N := N__law_row_right) T.F__law_row_right sc__law_row_right rfl rfl fun X E hX hc hr tk => ?_
  obtain ⟨cdv, A, outer, s, H, rfl⟩ := hX
  have hu64 := hr.units
  have hu65 := u65 hr
  unfold d__law_row_right
  exact (sss_cons (ss_set 1 sc__law_row_right.nd (se_call (g__law_draught T) hc (hr.mono (by decide)) tk T.m__law_draught T.F__law_draught.kp (bd__law_draught_2 T) (fun _ => .nil) (sa_cons (se_var 0) (sa_cons se_int sa_nil)) sk_nil))
 (sss_cons (ss_setLc 2 exD_ok rfl sc__law_row_right.nd (own := [("turn", 3)]) (show blkC N__law_row_right (defScope s__law_row_right) _ [("turn", 3)] = true from by decide +kernel) (by simp [Tgt.ixs, Tgt.ixss]) (si_range1 T.b_range (sa_cons (se_var 1) sa_nil)) (fun _ _ _ _ _ => (sg_nm 3 sc__law_row_right.nd)) (fun _ _ _ _ _ => spt_nil) (fun _ _ _ _ _ => (se_call (g__law_cupful T) hc (hr.mono (by decide)) takes0 T.m__law_cupful T.F__law_cupful.kp (bd__law_cupful_2 T) (fun _ => .nil) (sa_cons (se_var 0) (sa_cons (se_lst (sa_cons se_int (sa_cons (se_un og_neg se_int) (sa_cons se_int (sa_cons (se_op og_pow se_int se_int) (sa_cons (se_un og_neg (se_op og_pow se_int se_int)) (sa_cons (se_call (g__law_draught T) hc (hr.mono (by decide)) takes0 T.m__law_draught T.F__law_draught.kp (bd__law_draught_2 T) (fun _ => .nil) (sa_cons (se_var 0) (sa_cons se_int sa_nil)) sk_nil) sa_nil))))))) sa_nil)) sk_nil)))
 (sss_cons (ss_set 4 sc__law_row_right.nd (se_lst (sa_cons (se_call (g_is_row T) hc (hr.mono (by decide)) tk T.m_is_row T.F_is_row.kp (bd_is_row_2 T) (fun _ => .nil) (sa_cons (se_var 2) (sa_cons (se_var 1) sa_nil)) sk_nil) (sa_cons (se_callk (g_is_row T) hc (hr.mono (by decide)) tk T.m_is_row T.F_is_row.kp (bd_is_row_0_value_length T) (fun _ => .nil) (sk_cons (se_t cg_tuple T.b_tuple (by decide +kernel) (sa_cons (se_var 2) sa_nil)) (sk_cons (se_var 1) sk_nil))) (sa_cons (se_call (g_is_row T) hc (hr.mono (by decide)) tk T.m_is_row T.F_is_row.kp (bd_is_row_2 T) (fun _ => .nil) (sa_cons (se_var 2) (sa_cons (se_op og_add (se_var 1) se_int) sa_nil)) sk_nil) (sa_cons (se_call (g_is_row T) hc (hr.mono (by decide)) tk T.m_is_row T.F_is_row.kp (bd_is_row_2 T) (fun _ => .nil) (sa_cons (se_op og_add (se_var 2) (se_lst (sa_cons se_int sa_nil))) (sa_cons (se_var 1) sa_nil)) sk_nil) sa_nil))))))
 (sss_cons (ss_set 5 sc__law_row_right.nd (se_call (g__law_bent T) hc (hr.mono (by decide)) tk T.m__law_bent T.F__law_bent.kp (bd__law_bent_3 T) (fun _ => .nil) (sa_cons (se_var 0) (sa_cons (se_var 2) (sa_cons (se_call (g__law_odd T) hc (hr.mono (by decide)) tk T.m__law_odd T.F__law_odd.kp (bd__law_odd_1 T) (fun _ => .nil) (sa_cons (se_var 0) sa_nil) sk_nil) sa_nil))) sk_nil))
 (sss_cons (ss_set 4 sc__law_row_right.nd (se_op og_add (se_var 4) (se_lst (sa_cons (se_call (g_is_row T) hc (hr.mono (by decide)) tk T.m_is_row T.F_is_row.kp (bd_is_row_2 T) (fun _ => .nil) (sa_cons (se_var 5) (sa_cons (se_b cg_len T.b_len (by decide +kernel) (sa_cons (se_var 5) sa_nil)) sa_nil)) sk_nil) (sa_cons (se_call (g_is_row T) hc (hr.mono (by decide)) tk T.m_is_row T.F_is_row.kp (bd_is_row_2 T) (fun _ => .nil) (sa_cons (se_t cg_tuple T.b_tuple (by decide +kernel) (sa_cons (se_var 5) sa_nil)) (sa_cons (se_b cg_len T.b_len (by decide +kernel) (sa_cons (se_var 5) sa_nil)) sa_nil)) sk_nil) (sa_cons (se_call (g_is_row T) hc (hr.mono (by decide)) tk T.m_is_row T.F_is_row.kp (bd_is_row_2 T) (fun _ => .nil) (sa_cons (se_op og_mulS se_str (se_var 1)) (sa_cons (se_var 1) sa_nil)) sk_nil) (sa_cons (se_call (g_is_row T) hc (hr.mono (by decide)) tk T.m_is_row T.F_is_row.kp (bd_is_row_2 T) (fun _ => .nil) (sa_cons se_dict0 (sa_cons se_int sa_nil)) sk_nil) (sa_cons (se_call (g_is_row T) hc (hr.mono (by decide)) tk T.m_is_row T.F_is_row.kp (bd_is_row_2 T) (fun _ => .nil) (sa_cons se_non (sa_cons se_int sa_nil)) sk_nil) sa_nil))))))))
 (sss_one (ss_ret (se_cmp (og_eq hu64) (se_b (cg_repr hc hu64) T.b_repr (by decide +kernel) (sa_cons (se_var 4) sa_nil)) (se_b (cg_repr hc hu64) T.b_repr (by decide +kernel) (sa_cons (se_lst (sa_cons se_bl (sa_cons se_bl (sa_cons se_bl (sa_cons se_bl (sa_cons se_bl (sa_cons se_bl (sa_cons se_bl (sa_cons se_bl (sa_cons se_bl sa_nil)))))))))) sa_nil))))))))))
theorem bd_is_text_2 (T : TX K mg) : Bd K T.fd_is_text ["value", "letters", "most"] 2 [] [.int 1000] [0, 1, 2] :=
  bd_dfl T.F_is_text (fun z => nomatch z) fun _ _ _ _ _ _ _ us its ws h1 h2 h3 => match us, its, ws, h1, h2, h3 with | [_, _], [_], [], _, _, _ => ⟨_, rfl, rfl⟩
theorem bd_is_text_0_most_letters_value (T : TX K mg) : Bd K T.fd_is_text ["value", "letters", "most"] 0 ["most", "letters", "value"] [.int 1000] [2, 1, 0] :=
  bd_dfl T.F_is_text (fun z => nomatch z) fun _ _ _ _ _ _ _ us its ws h1 h2 h3 => match us, its, ws, h1, h2, h3 with | [], [_], [_, _, _], _, _, _ => ⟨_, rfl, rfl⟩
theorem bd_is_text_3 (T : TX K mg) : Bd K T.fd_is_text ["value", "letters", "most"] 3 [] [.int 1000] [0, 1, 2] :=
  bd_dfl T.F_is_text (fun z => nomatch z) fun _ _ _ _ _ _ _ us its ws h1 h2 h3 => match us, its, ws, h1, h2, h3 with | [_, _, _], [_], [], _, _, _ => ⟨_, rfl, rfl⟩
theorem sc__law_text_right : FnScope N__law_text_right ["vessel"] (defScope s__law_text_right) := ⟨rfl, rfl, rfl, by decide +kernel, rfl, by decide +kernel, by decide +kernel⟩
def d__law_text_right : MS := (sSeq (sAsgT (.tp [(.nm 1), (.nm 2)]) (eA gTup (aCons (eCall 2 0 2 [] [0, 1] m__law_cupful (aCons (eVar 0) (aCons (eA gLst (aCons (eC (.int 2)) (aCons (eC (.int 3)) (aCons (eC (.int 4)) (aCons (eC (.int 1)) (aCons (eC (.int 9)) aNil)))))) aNil)) aNil) (aCons (eCall 2 0 2 [] [0, 1] m__law_cupful (aCons (eVar 0) (aCons (eA gLst (aCons (eC (.int 3)) (aCons (eC (.int 0)) (aCons (eC (.int 60)) (aCons (eC (.int 12)) aNil))))) aNil)) aNil) aNil))))
 (sSeq (sAsg 3 (eCall 2 0 2 [] [0, 1] m__law_cupful (aCons (eVar 0) (aCons (eA gLst (aCons (eVar 2) (aCons (eOp gAdd (eVar 2) (eC (.int 1))) (aCons (eA gMax2 (aCons (eC (.int 0)) (aCons (eOp gSub (eVar 2) (eC (.int 1))) aNil))) (aCons (eC (.int 0)) aNil))))) aNil)) aNil))
 (sSeq (sAsg 4 (eComp (iRng1 (aCons (eVar 3) aNil)) (.nm 5) tYesM (eCall 2 0 2 [] [0, 1] m__law_draught (aCons (eVar 0) (aCons (eVar 1) aNil)) aNil) [5]))
 (sSeq (sAsg 6 (eA gLst (aCons (eCall 3 0 3 [.p (.int 1000)] [0, 1, 2] m_is_text (aCons (eVar 4) (aCons (eVar 1) (aCons (eVar 2) aNil))) aNil) (aCons (eCall 0 3 3 [.p (.int 1000)] [2, 1, 0] m_is_text aNil (aCons (eVar 2) (aCons (eVar 1) (aCons (eA gTuple (aCons (eVar 4) aNil)) aNil)))) (aCons (eCall 2 0 3 [.p (.int 1000)] [0, 1, 2] m_is_text (aCons (eVar 4) (aCons (eVar 1) aNil)) aNil) aNil)))))
 (sSeq (Sim.sIf (Sim.tCmp gNe (eA gRepr (aCons (eVar 6) aNil)) (eA gRepr (aCons (eA gLst (aCons (eOp gLe (eVar 3) (eVar 2)) (aCons (eOp gLe (eVar 3) (eVar 2)) (aCons (eC (.bl true)) aNil)))) aNil))) (sRet (eC (.bl false))) sPass)
 (sSeq (sAsg 7 (eCall 3 0 3 [] [0, 1, 2] m__law_bent (aCons (eVar 0) (aCons (eVar 4) (aCons (eCall 2 0 2 [] [0, 1] m__law_cupful (aCons (eVar 0) (aCons (eA gLst (aCons (eVar 1) (aCons (eUn gNeg (eC (.int 1))) (aCons (eOp gPow (eC (.int 10)) (eC (.int 20))) (aCons (eCall 1 0 1 [] [0] m__law_odd (aCons (eVar 0) aNil) aNil) aNil))))) aNil)) aNil) aNil))) aNil))
 (sSeq (Sim.sIf (Sim.tCmp gNe (eA gRepr (aCons (eA gLst (aCons (eCall 3 0 3 [.p (.int 1000)] [0, 1, 2] m_is_text (aCons (eVar 7) (aCons (eVar 1) (aCons (eC (.int 100)) aNil))) aNil) (aCons (eCall 2 0 3 [.p (.int 1000)] [0, 1, 2] m_is_text (aCons (eA gTuple (aCons (eVar 7) aNil)) (aCons (eVar 1) aNil)) aNil) aNil))) aNil)) (eA gRepr (aCons (eA gLst (aCons (eC (.bl false)) (aCons (eC (.bl false)) aNil))) aNil))) (sRet (eC (.bl false))) sPass)
 (sSeq (sAsg 8 (eSl (eOp gMulS (eA gLst (aCons (eCall 2 0 2 [] [0, 1] m__law_draught (aCons (eVar 0) (aCons (eVar 1) aNil)) aNil) aNil)) (eC (.int 1001))) oNone (oSome (eCall 2 0 2 [] [0, 1] m__law_cupful (aCons (eVar 0) (aCons (eA gLst (aCons (eC (.int 1001)) (aCons (eC (.int 1000)) (aCons (eC (.int 999)) aNil)))) aNil)) aNil))))
 (sSeq (sAsg 6 (eA gLst (aCons (eCall 2 0 3 [.p (.int 1000)] [0, 1, 2] m_is_text (aCons (eVar 8) (aCons (eVar 1) aNil)) aNil) (aCons (eCall 3 0 3 [.p (.int 1000)] [0, 1, 2] m_is_text (aCons (eA gTuple (aCons (eVar 8) aNil)) (aCons (eVar 1) (aCons (eC (.int 1001)) aNil))) aNil) (aCons (eCall 3 0 3 [.p (.int 1000)] [0, 1, 2] m_is_text (aCons (eVar 8) (aCons (eVar 1) (aCons (eC (.int 998)) aNil))) aNil) (aCons (eCall 2 0 3 [.p (.int 1000)] [0, 1, 2] m_is_text (aCons (eC (.str "0")) (aCons (eVar 1) aNil)) aNil) (aCons (eCall 2 0 3 [.p (.int 1000)] [0, 1, 2] m_is_text (aCons (eC .non) (aCons (eVar 1) aNil)) aNil) aNil)))))))
 (sRet (eOp gEq (eA gRepr (aCons (eVar 6) aNil)) (eA gRepr (aCons (eA gLst (aCons (eOp gLt (eA gLen (aCons (eVar 8) aNil)) (eC (.int 1001))) (aCons (eC (.bl true)) (aCons (eC (.bl false)) (aCons (eC (.bl false)) (aCons (eC (.bl false)) aNil)))))) aNil)))))))))))))
abbrev m__law_text_right : List Vl → M Vl := mFun 1 9 d__law_text_right
theorem g__law_text_right (T : TX K mg) : FnG P w K mg base 4 T.f__law_text_right T.fd__law_text_right ["vessel"] (spM ⟨K, mg⟩ 1 m__law_text_right) := by
  refine fnG (k := 3) (N := N__law_text_right) T.F__law_text_right sc__law_text_right rfl rfl fun X E hX hc hr tk => ?_
  obtain ⟨cdv, A, outer, s, H, rfl⟩ := hX
  have hu64 := hr.units
  have hu65 := u65 hr
  unfold d__law_text_right
  exact (sss_cons (ss_asgT (se_tup (sa_cons (se_call (g__law_cupful T) hc (hr.mono (by decide)) tk T.m__law_cupful T.F__law_cupful.kp (bd__law_cupful_2 T) (fun _ => .nil) (sa_cons (se_var 0) (sa_cons (se_lst (sa_cons se_int (sa_cons se_int (sa_cons se_int (sa_cons se_int (sa_cons se_int sa_nil)))))) sa_nil)) sk_nil) (sa_cons (se_call (g__law_cupful T) hc (hr.mono (by decide)) tk T.m__law_cupful T.F__law_cupful.kp (bd__law_cupful_2 T) (fun _ => .nil) (sa_cons (se_var 0) (sa_cons (se_lst (sa_cons se_int (sa_cons se_int (sa_cons se_int (sa_cons se_int sa_nil))))) sa_nil)) sk_nil) sa_nil))) (sg_tp rfl (sgs_cons (sg_nm 1 sc__law_text_right.nd) (sgs_cons (sg_nm 2 sc__law_text_right.nd) sgs_nil))))
 (sss_cons (ss_set 3 sc__law_text_right.nd (se_call (g__law_cupful T) hc (hr.mono (by decide)) tk T.m__law_cupful T.F__law_cupful.kp (bd__law_cupful_2 T) (fun _ => .nil) (sa_cons (se_var 0) (sa_cons (se_lst (sa_cons (se_var 2) (sa_cons (se_op og_add (se_var 2) se_int) (sa_cons (se_b (cg_max2 rfl) T.b_max (by decide +kernel) (sa_cons se_int (sa_cons (se_op og_sub (se_var 2) se_int) sa_nil))) (sa_cons se_int sa_nil))))) sa_nil)) sk_nil))
 (sss_cons (ss_setLc 4 exD_ok rfl sc__law_text_right.nd (own := [("turn", 5)]) (show blkC N__law_text_right (defScope s__law_text_right) _ [("turn", 5)] = true from by decide +kernel) (by simp [Tgt.ixs, Tgt.ixss]) (si_range1 T.b_range (sa_cons (se_var 3) sa_nil)) (fun _ _ _ _ _ => (sg_nm 5 sc__law_text_right.nd)) (fun _ _ _ _ _ => spt_nil) (fun _ _ _ _ _ => (se_call (g__law_draught T) hc (hr.mono (by decide)) takes0 T.m__law_draught T.F__law_draught.kp (bd__law_draught_2 T) (fun _ => .nil) (sa_cons (se_var 0) (sa_cons (se_var 1) sa_nil)) sk_nil)))
 (sss_cons (ss_set 6 sc__law_text_right.nd (se_lst (sa_cons (se_call (g_is_text T) hc (hr.mono (by decide)) tk T.m_is_text T.F_is_text.kp (bd_is_text_3 T) (fun _ => (.cons (.p (.int 1000)) .nil)) (sa_cons (se_var 4) (sa_cons (se_var 1) (sa_cons (se_var 2) sa_nil))) sk_nil) (sa_cons (se_callk (g_is_text T) hc (hr.mono (by decide)) tk T.m_is_text T.F_is_text.kp (bd_is_text_0_most_letters_value T) (fun _ => (.cons (.p (.int 1000)) .nil)) (sk_cons (se_var 2) (sk_cons (se_var 1) (sk_cons (se_t cg_tuple T.b_tuple (by decide +kernel) (sa_cons (se_var 4) sa_nil)) sk_nil)))) (sa_cons (se_call (g_is_text T) hc (hr.mono (by decide)) tk T.m_is_text T.F_is_text.kp (bd_is_text_2 T) (fun _ => (.cons (.p (.int 1000)) .nil)) (sa_cons (se_var 4) (sa_cons (se_var 1) sa_nil)) sk_nil) sa_nil)))))
 (sss_cons (ss_if (st_cmp (og_ne hu64) (se_b (cg_repr hc hu64) T.b_repr (by decide +kernel) (sa_cons (se_var 6) sa_nil)) (se_b (cg_repr hc hu64) T.b_repr (by decide +kernel) (sa_cons (se_lst (sa_cons (se_cmp og_le (se_var 3) (se_var 2)) (sa_cons (se_cmp og_le (se_var 3) (se_var 2)) (sa_cons se_bl sa_nil)))) sa_nil))) (sss_one (ss_ret se_bl)) sss_nil)
 (sss_cons (ss_set 7 sc__law_text_right.nd (se_call (g__law_bent T) hc (hr.mono (by decide)) tk T.m__law_bent T.F__law_bent.kp (bd__law_bent_3 T) (fun _ => .nil) (sa_cons (se_var 0) (sa_cons (se_var 4) (sa_cons (se_call (g__law_cupful T) hc (hr.mono (by decide)) tk T.m__law_cupful T.F__law_cupful.kp (bd__law_cupful_2 T) (fun _ => .nil) (sa_cons (se_var 0) (sa_cons (se_lst (sa_cons (se_var 1) (sa_cons (se_un og_neg se_int) (sa_cons (se_op og_pow se_int se_int) (sa_cons (se_call (g__law_odd T) hc (hr.mono (by decide)) tk T.m__law_odd T.F__law_odd.kp (bd__law_odd_1 T) (fun _ => .nil) (sa_cons (se_var 0) sa_nil) sk_nil) sa_nil))))) sa_nil)) sk_nil) sa_nil))) sk_nil))
 (sss_cons (ss_if (st_cmp (og_ne hu64) (se_b (cg_repr hc hu64) T.b_repr (by decide +kernel) (sa_cons (se_lst (sa_cons (se_call (g_is_text T) hc (hr.mono (by decide)) tk T.m_is_text T.F_is_text.kp (bd_is_text_3 T) (fun _ => (.cons (.p (.int 1000)) .nil)) (sa_cons (se_var 7) (sa_cons (se_var 1) (sa_cons se_int sa_nil))) sk_nil) (sa_cons (se_call (g_is_text T) hc (hr.mono (by decide)) tk T.m_is_text T.F_is_text.kp (bd_is_text_2 T) (fun _ => (.cons (.p (.int 1000)) .nil)) (sa_cons (se_t cg_tuple T.b_tuple (by decide +kernel) (sa_cons (se_var 7) sa_nil)) (sa_cons (se_var 1) sa_nil)) sk_nil) sa_nil))) sa_nil)) (se_b (cg_repr hc hu64) T.b_repr (by decide +kernel) (sa_cons (se_lst (sa_cons se_bl (sa_cons se_bl sa_nil))) sa_nil))) (sss_one (ss_ret se_bl)) sss_nil)
 (sss_cons (ss_set 8 sc__law_text_right.nd (se_sl (se_op og_mulS (se_lst (sa_cons (se_call (g__law_draught T) hc (hr.mono (by decide)) tk T.m__law_draught T.F__law_draught.kp (bd__law_draught_2 T) (fun _ => .nil) (sa_cons (se_var 0) (sa_cons (se_var 1) sa_nil)) sk_nil) sa_nil)) se_int) so_none (so_some (se_call (g__law_cupful T) hc (hr.mono (by decide)) tk T.m__law_cupful T.F__law_cupful.kp (bd__law_cupful_2 T) (fun _ => .nil) (sa_cons (se_var 0) (sa_cons (se_lst (sa_cons se_int (sa_cons se_int (sa_cons se_int sa_nil)))) sa_nil)) sk_nil))))
 (sss_cons (ss_set 6 sc__law_text_right.nd (se_lst (sa_cons (se_call (g_is_text T) hc (hr.mono (by decide)) tk T.m_is_text T.F_is_text.kp (bd_is_text_2 T) (fun _ => (.cons (.p (.int 1000)) .nil)) (sa_cons (se_var 8) (sa_cons (se_var 1) sa_nil)) sk_nil) (sa_cons (se_call (g_is_text T) hc (hr.mono (by decide)) tk T.m_is_text T.F_is_text.kp (bd_is_text_3 T) (fun _ => (.cons (.p (.int 1000)) .nil)) (sa_cons (se_t cg_tuple T.b_tuple (by decide +kernel) (sa_cons (se_var 8) sa_nil)) (sa_cons (se_var 1) (sa_cons se_int sa_nil))) sk_nil) (sa_cons (se_call (g_is_text T) hc (hr.mono (by decide)) tk T.m_is_text T.F_is_text.kp (bd_is_text_3 T) (fun _ => (.cons (.p (.int 1000)) .nil)) (sa_cons (se_var 8) (sa_cons (se_var 1) (sa_cons se_int sa_nil))) sk_nil) (sa_cons (se_call (g_is_text T) hc (hr.mono (by decide)) tk T.m_is_text T.F_is_text.kp (bd_is_text_2 T) (fun _ => (.cons (.p (.int 1000)) .nil)) (sa_cons se_str (sa_cons (se_var 1) sa_nil)) sk_nil) (sa_cons (se_call (g_is_text T) hc (hr.mono (by decide)) tk T.m_is_text T.F_is_text.kp (bd_is_text_2 T) (fun _ => (.cons (.p (.int 1000)) .nil)) (sa_cons se_non (sa_cons (se_var 1) sa_nil)) sk_nil) sa_nil)))))))
 (sss_one (ss_ret (se_cmp (og_eq hu64) (se_b (cg_repr hc hu64) T.b_repr (by decide +kernel) (sa_cons (se_var 6) sa_nil)) (se_b (cg_repr hc hu64) T.b_repr (by decide +kernel) (sa_cons (se_lst (sa_cons (se_cmp og_lt (se_b cg_len T.b_len (by decide +kernel) (sa_cons (se_var 8) sa_nil)) se_int) (sa_cons se_bl (sa_cons se_bl (sa_cons se_bl (sa_cons se_bl sa_nil)))))) sa_nil))))))))))))))
theorem bd__law_vessel_1 (T : TX K mg) : Bd K T.fd__law_vessel ["script"] 1 [] [] [0] :=
  bd_plain T.F__law_vessel fun _ _ _ _ _ _ us ws h1 h2 => match us, ws, h1, h2 with | [_], [], _, _ => rfl
theorem bd__law_value_1 (T : TX K mg) : Bd K T.fd__law_value ["vessel"] 1 [] [] [0] :=
  bd_plain T.F__law_value fun _ _ _ _ _ _ us ws h1 h2 => match us, ws, h1, h2 with | [_], [], _, _ => rfl
theorem bd__law_own_integer_1 (T : TX K mg) : Bd K T.fd__law_own_integer ["value"] 1 [] [] [0] :=
  bd_plain T.F__law_own_integer fun _ _ _ _ _ _ us ws h1 h2 => match us, ws, h1, h2 with | [_], [], _, _ => rfl
theorem bd_is_integer_0_value (T : TX K mg) : Bd K T.fd_is_integer ["value"] 0 ["value"] [] [0] :=
  bd_plain T.F_is_integer fun _ _ _ _ _ _ us ws h1 h2 => match us, ws, h1, h2 with | [], [_], _, _ => rfl
theorem bd_is_within_0_most_least_value (T : TX K mg) : Bd K T.fd_is_within ["value", "least", "most"] 0 ["most", "least", "value"] [] [2, 1, 0] :=
  bd_plain T.F_is_within fun _ _ _ _ _ _ us ws h1 h2 => match us, ws, h1, h2 with | [], [_, _, _], _, _ => rfl
theorem bd_is_list_0_value (T : TX K mg) : Bd K T.fd_is_list ["value"] 0 ["value"] [] [0] :=
  bd_plain T.F_is_list fun _ _ _ _ _ _ us ws h1 h2 => match us, ws, h1, h2 with | [], [_], _, _ => rfl
theorem bd__law_row_right_1 (T : TX K mg) : Bd K T.fd__law_row_right ["vessel"] 1 [] [] [0] :=
  bd_plain T.F__law_row_right fun _ _ _ _ _ _ us ws h1 h2 => match us, ws, h1, h2 with | [_], [], _, _ => rfl
theorem bd__law_text_right_1 (T : TX K mg) : Bd K T.fd__law_text_right ["vessel"] 1 [] [] [0] :=
  bd_plain T.F__law_text_right fun _ _ _ _ _ _ us ws h1 h2 => match us, ws, h1, h2 with | [_], [], _, _ => rfl
theorem sc_law : FnScope N_law ["script"] (defScope s_law) := ⟨rfl, rfl, rfl, by decide +kernel, rfl, by decide +kernel, by decide +kernel⟩
def d_law : MS := (sSeq (sAsg 1 (eCall 1 0 1 [] [0] m__law_vessel (aCons (eVar 0) aNil) aNil))
 (sSeq (sFor (iRng1 (aCons (eC (.int 4)) aNil)) (.nm 2) (sSeq (sAsg 3 (eCall 1 0 1 [] [0] m__law_value (aCons (eVar 1) aNil) aNil))
 (sSeq (sPar 4 5 (aCons (eOp gSub (eCall 2 0 2 [] [0, 1] m__law_draught (aCons (eVar 1) (aCons (eC (.int 9)) aNil)) aNil) (eC (.int 4))) (aCons (eOp gSub (eCall 2 0 2 [] [0, 1] m__law_draught (aCons (eVar 1) (aCons (eC (.int 9)) aNil)) aNil) (eC (.int 4))) aNil)))
 (sSeq (sAsg 6 (eCall 2 0 2 [] [0, 1] m__law_cupful (aCons (eVar 1) (aCons (eA gLst (aCons (eVar 3) (aCons (eVar 4) (aCons (eVar 5) (aCons (eOp gSub (eVar 4) (eC (.int 1))) (aCons (eOp gAdd (eVar 5) (eC (.int 1))) (aCons (eC (.int 0)) aNil))))))) aNil)) aNil))
 (sSeq (sPar 7 8 (aCons (eCall 2 0 2 [] [0, 1] m__law_cupful (aCons (eVar 1) (aCons (eA gLst (aCons (eVar 4) (aCons (eC .non) aNil))) aNil)) aNil) (aCons (eCall 2 0 2 [] [0, 1] m__law_cupful (aCons (eVar 1) (aCons (eA gLst (aCons (eVar 5) (aCons (eC .non) aNil))) aNil)) aNil) aNil)))
 (sSeq (sAsg 9 (eAnd (eCall 1 0 1 [] [0] m__law_own_integer (aCons (eVar 6) aNil) aNil) (eAnd (eOr (eOp (gIs false) (eVar 7) (eC .non)) (eOp gGe (eVar 6) (eVar 7))) (eOr (eOp (gIs false) (eVar 8) (eC .non)) (eOp gLe (eVar 6) (eVar 8))))))
 (sSeq (Sim.sIf (Sim.tOr (Sim.tCmp gNe (eA gRepr (aCons (eCall 0 1 1 [] [0] m_is_integer aNil (aCons (eVar 6) aNil)) aNil)) (eA gRepr (aCons (eCall 1 0 1 [] [0] m__law_own_integer (aCons (eVar 6) aNil) aNil) aNil))) (Sim.tCmp gNe (eA gRepr (aCons (eCall 0 3 3 [] [2, 1, 0] m_is_within aNil (aCons (eVar 8) (aCons (eVar 7) (aCons (eVar 6) aNil)))) aNil)) (eA gRepr (aCons (eVar 9) aNil)))) (sRet (eC (.bl false))) sPass)
 (sSeq (Sim.sIf (Sim.tCmp gNe (eA gRepr (aCons (eA gLst (aCons (eCall 1 0 1 [] [0] m_is_list (aCons (eVar 3) aNil) aNil) (aCons (eCall 0 1 1 [] [0] m_is_list aNil (aCons (eA gLst (aCons (eVar 3) aNil)) aNil)) (aCons (eCall 1 0 1 [] [0] m_is_list (aCons (eA gTup (aCons (eVar 3) aNil)) aNil) aNil) aNil)))) aNil)) (eA gRepr (aCons (eA gLst (aCons (eA gIsi (aCons (eVar 3) (aCons (eA gTup (aCons (eC (.ty "list")) (aCons (eC (.ty "tuple")) aNil))) aNil))) (aCons (eC (.bl true)) (aCons (eC (.bl true)) aNil)))) aNil))) (sRet (eC (.bl false))) sPass)
 (Sim.sIf (Sim.tOr (Sim.tNot (tTru (eCall 1 0 1 [] [0] m__law_row_right (aCons (eVar 1) aNil) aNil))) (Sim.tNot (tTru (eCall 1 0 1 [] [0] m__law_text_right (aCons (eVar 1) aNil) aNil)))) (sRet (eC (.bl false))) sPass)))))))))
 (sRet (eC (.bl true)))))
abbrev m_law : List Vl → M Vl := mFun 1 10 d_law
theorem g_law (T : TX K mg) : FnG P w K mg base 5 T.f_law T.fd_law ["script"] (spM ⟨K, mg⟩ 1 m_law) := by
  refine fnG (k := 4) (N := N_law) T.F_law sc_law rfl rfl fun X E hX hc hr tk => ?_
  obtain ⟨cdv, A, outer, s, H, rfl⟩ := hX
  have hu64 := hr.units
  have hu65 := u65 hr
  unfold d_law
  exact (sss_cons (ss_set 1 sc_law.nd (se_call (g__law_vessel T) hc (hr.mono (by decide)) tk T.m__law_vessel T.F__law_vessel.kp (bd__law_vessel_1 T) (fun _ => .nil) (sa_cons (se_var 0) sa_nil) sk_nil))
 (sss_cons (ss_for (passes_of rfl) rfl (si_range1 T.b_range (sa_cons se_int sa_nil)) (sg_nm 2 sc_law.nd) (sss_cons (ss_set 3 sc_law.nd (se_call (g__law_value T) hc (hr.mono (by decide)) tk T.m__law_value T.F__law_value.kp (bd__law_value_1 T) (fun _ => .nil) (sa_cons (se_var 1) sa_nil) sk_nil))
 (sss_cons (ss_par 4 5 rfl sc_law.nd (sa_cons (se_op og_sub (se_call (g__law_draught T) hc (hr.mono (by decide)) tk T.m__law_draught T.F__law_draught.kp (bd__law_draught_2 T) (fun _ => .nil) (sa_cons (se_var 1) (sa_cons se_int sa_nil)) sk_nil) se_int) (sa_cons (se_op og_sub (se_call (g__law_draught T) hc (hr.mono (by decide)) tk T.m__law_draught T.F__law_draught.kp (bd__law_draught_2 T) (fun _ => .nil) (sa_cons (se_var 1) (sa_cons se_int sa_nil)) sk_nil) se_int) sa_nil)))
 (sss_cons (ss_set 6 sc_law.nd (se_call (g__law_cupful T) hc (hr.mono (by decide)) tk T.m__law_cupful T.F__law_cupful.kp (bd__law_cupful_2 T) (fun _ => .nil) (sa_cons (se_var 1) (sa_cons (se_lst (sa_cons (se_var 3) (sa_cons (se_var 4) (sa_cons (se_var 5) (sa_cons (se_op og_sub (se_var 4) se_int) (sa_cons (se_op og_add (se_var 5) se_int) (sa_cons se_int sa_nil))))))) sa_nil)) sk_nil))
 (sss_cons (ss_par 7 8 rfl sc_law.nd (sa_cons (se_call (g__law_cupful T) hc (hr.mono (by decide)) tk T.m__law_cupful T.F__law_cupful.kp (bd__law_cupful_2 T) (fun _ => .nil) (sa_cons (se_var 1) (sa_cons (se_lst (sa_cons (se_var 4) (sa_cons se_non sa_nil))) sa_nil)) sk_nil) (sa_cons (se_call (g__law_cupful T) hc (hr.mono (by decide)) tk T.m__law_cupful T.F__law_cupful.kp (bd__law_cupful_2 T) (fun _ => .nil) (sa_cons (se_var 1) (sa_cons (se_lst (sa_cons (se_var 5) (sa_cons se_non sa_nil))) sa_nil)) sk_nil) sa_nil)))
 (sss_cons (ss_set 9 sc_law.nd (se_and (se_call (g__law_own_integer T) hc (hr.mono (by decide)) tk T.m__law_own_integer T.F__law_own_integer.kp (bd__law_own_integer_1 T) (fun _ => .nil) (sa_cons (se_var 6) sa_nil) sk_nil) (se_and (se_or (se_cmp og_is (se_var 7) se_non) (se_one (se_cmp og_ge (se_var 6) (se_var 7)))) (se_one (se_or (se_cmp og_is (se_var 8) se_non) (se_one (se_cmp og_le (se_var 6) (se_var 8))))))))
 (sss_cons (ss_if (st_w (sw_or (st_cmp (og_ne hu64) (se_b (cg_repr hc hu64) T.b_repr (by decide +kernel) (sa_cons (se_callk (g_is_integer T) hc (hr.mono (by decide)) tk T.m_is_integer T.F_is_integer.kp (bd_is_integer_0_value T) (fun _ => .nil) (sk_cons (se_var 6) sk_nil)) sa_nil)) (se_b (cg_repr hc hu64) T.b_repr (by decide +kernel) (sa_cons (se_call (g__law_own_integer T) hc (hr.mono (by decide)) tk T.m__law_own_integer T.F__law_own_integer.kp (bd__law_own_integer_1 T) (fun _ => .nil) (sa_cons (se_var 6) sa_nil) sk_nil) sa_nil))) (sw_or1 (st_cmp (og_ne hu64) (se_b (cg_repr hc hu64) T.b_repr (by decide +kernel) (sa_cons (se_callk (g_is_within T) hc (hr.mono (by decide)) tk T.m_is_within T.F_is_within.kp (bd_is_within_0_most_least_value T) (fun _ => .nil) (sk_cons (se_var 8) (sk_cons (se_var 7) (sk_cons (se_var 6) sk_nil)))) sa_nil)) (se_b (cg_repr hc hu64) T.b_repr (by decide +kernel) (sa_cons (se_var 9) sa_nil)))))) (sss_one (ss_ret se_bl)) sss_nil)
 (sss_cons (ss_if (st_cmp (og_ne hu64) (se_b (cg_repr hc hu64) T.b_repr (by decide +kernel) (sa_cons (se_lst (sa_cons (se_call (g_is_list T) hc (hr.mono (by decide)) tk T.m_is_list T.F_is_list.kp (bd_is_list_1 T) (fun _ => .nil) (sa_cons (se_var 3) sa_nil) sk_nil) (sa_cons (se_callk (g_is_list T) hc (hr.mono (by decide)) tk T.m_is_list T.F_is_list.kp (bd_is_list_0_value T) (fun _ => .nil) (sk_cons (se_lst (sa_cons (se_var 3) sa_nil)) sk_nil)) (sa_cons (se_call (g_is_list T) hc (hr.mono (by decide)) tk T.m_is_list T.F_is_list.kp (bd_is_list_1 T) (fun _ => .nil) (sa_cons (se_tup (sa_cons (se_var 3) sa_nil)) sa_nil) sk_nil) sa_nil)))) sa_nil)) (se_b (cg_repr hc hu64) T.b_repr (by decide +kernel) (sa_cons (se_lst (sa_cons (se_b cg_isi T.b_isinstance (by decide +kernel) (sa_cons (se_var 3) (sa_cons (se_tup (sa_cons (se_ty T.b_list (by decide +kernel)) (sa_cons (se_ty T.b_tuple (by decide +kernel)) sa_nil))) sa_nil))) (sa_cons se_bl (sa_cons se_bl sa_nil)))) sa_nil))) (sss_one (ss_ret se_bl)) sss_nil)
 (sss_one (ss_if (st_w (sw_or (st_not (st_tru (se_call (g__law_row_right T) hc (hr.mono (by decide)) tk T.m__law_row_right T.F__law_row_right.kp (bd__law_row_right_1 T) (fun _ => .nil) (sa_cons (se_var 1) sa_nil) sk_nil))) (sw_or1 (st_not (st_tru (se_call (g__law_text_right T) hc (hr.mono (by decide)) tk T.m__law_text_right T.F__law_text_right.kp (bd__law_text_right_1 T) (fun _ => .nil) (sa_cons (se_var 1) sa_nil) sk_nil)))))) (sss_one (ss_ret se_bl)) sss_nil))))))))))
 (sss_one (ss_ret se_bl))))
end
end K00
end

section
open PySem PySem.Spec PyProof.Rows L2 RZ Sim
namespace K00
section
variable {cells : List Int} {k : Nat}
theorem r_draught {many : Int} (h0 : 0 < many) (h1 : many < 1073741824) : Rn cells k (m__law_draught [.c k, .p (.int many)]) 1 fun v => ∃ d, v = .p (.int d) ∧ 0 ≤ d ∧ d < many := draught h0 h1
theorem r_cupful {xs : List D} (h0 : xs ≠ []) (h1 : xs.length < 1073741824) : Rn cells k (m__law_cupful [.c k, .p (.lst xs)]) 1 fun v => ∃ d, v = .p d ∧ d ∈ xs := cupful h0 h1
/-! the program's checks -/
theorem e_is_integer {d : D} (h : tyN d ≠ none) : m_is_integer [.p d] = M.ret (.p (.bl (isIntD d))) := fn_eq (by
  unfold d_is_integer
  try simp -implicitDefEqProofs only [Sim.sM_pass, Sim.sM_seq, Sim.sM_asg, Sim.sM_ret, Sim.sM_expr, Sim.sM_if, Sim.sM_par, Sim.sM_asgT, Sim.sM_set, Sim.ret_bind, Sim.bind_assoc, Sim.x_var0, Sim.x_varS, Sim.x_C, Sim.x_op, Sim.x_un, Sim.x_A, Sim.x_nil, Sim.x_cons, Sim.x_call, Sim.x_and, Sim.x_or, Sim.x_not, Sim.x_if, Sim.x_tV, Sim.x_tCmp, Sim.x_tTru, Sim.x_tNot, Sim.x_tAnd, Sim.x_tOr, Sim.x_asB, Sim.x_sl, Sim.x_oNone, Sim.x_oSome, Sim.x_asI, Sim.x_trN, Sim.x_trB, Sim.x_trI, Sim.x_trL, Sim.x_trR, Sim.x_trT, Sim.x_add, Sim.x_sub, Sim.x_neg, Sim.x_lt, Sim.x_le, Sim.x_gt, Sim.x_ge, Sim.x_abs, Sim.x_max2, Sim.x_min2, Sim.x_intI, Sim.x_intB, Sim.x_eqI, Sim.x_neI, Sim.x_eqS, Sim.x_neS, Sim.x_lst, Sim.x_tup, Sim.x_frz0, Sim.x_frzP, Sim.x_lenL, Sim.x_lenT, Sim.x_lenR, Sim.x_tupleL, Sim.x_listL, Sim.x_listT, Sim.x_slL, Sim.x_slR, Sim.x_slT, Sim.callM, Sim.arrOf, List.filterMap_cons, List.filterMap_nil, List.getElem?_cons_zero, List.getElem?_cons_succ, List.cons_append, List.nil_append, List.append_nil, List.length_cons, List.length_nil, and_self, if_true, List.set_cons_zero, List.set_cons_succ, Bool.false_eq_true, if_false, Nat.reduceAdd, Nat.reduceSub, List.map_cons, List.map_nil, List.replicate_succ, List.replicate_zero, Bool.not_true, Bool.not_false, Sim.x_sized, Nat.reduceLeDiff, Nat.zero_add]
  rw [isi_int h]
  cases d <;> try simp -implicitDefEqProofs only [Sim.sM_pass, Sim.sM_seq, Sim.sM_asg, Sim.sM_ret, Sim.sM_expr, Sim.sM_if, Sim.sM_par, Sim.sM_asgT, Sim.sM_set, Sim.ret_bind, Sim.bind_assoc, Sim.x_var0, Sim.x_varS, Sim.x_C, Sim.x_op, Sim.x_un, Sim.x_A, Sim.x_nil, Sim.x_cons, Sim.x_call, Sim.x_and, Sim.x_or, Sim.x_not, Sim.x_if, Sim.x_tV, Sim.x_tCmp, Sim.x_tTru, Sim.x_tNot, Sim.x_tAnd, Sim.x_tOr, Sim.x_asB, Sim.x_sl, Sim.x_oNone, Sim.x_oSome, Sim.x_asI, Sim.x_trN, Sim.x_trB, Sim.x_trI, Sim.x_trL, Sim.x_trR, Sim.x_trT, Sim.x_add, Sim.x_sub, Sim.x_neg, Sim.x_lt, Sim.x_le, Sim.x_gt, Sim.x_ge, Sim.x_abs, Sim.x_max2, Sim.x_min2, Sim.x_intI, Sim.x_intB, Sim.x_eqI, Sim.x_neI, Sim.x_eqS, Sim.x_neS, Sim.x_lst, Sim.x_tup, Sim.x_frz0, Sim.x_frzP, Sim.x_lenL, Sim.x_lenT, Sim.x_lenR, Sim.x_tupleL, Sim.x_listL, Sim.x_listT, Sim.x_slL, Sim.x_slR, Sim.x_slT, Sim.callM, Sim.arrOf, List.filterMap_cons, List.filterMap_nil, List.getElem?_cons_zero, List.getElem?_cons_succ, List.cons_append, List.nil_append, List.append_nil, List.length_cons, List.length_nil, and_self, if_true, List.set_cons_zero, List.set_cons_succ, Bool.false_eq_true, if_false, Nat.reduceAdd, Nat.reduceSub, List.map_cons, List.map_nil, List.replicate_succ, List.replicate_zero, Bool.not_true, Bool.not_false, Sim.x_sized, Nat.reduceLeDiff, Nat.zero_add] <;> first | rfl | (rw [isi_bool h]; rfl))
theorem e_own_integer {d : D} (h : tyN d ≠ none) : m__law_own_integer [.p d] = M.ret (.p (.bl (isIntD d))) := e_is_integer h
theorem e_is_list {d : D} (h : tyN d ≠ none) : m_is_list [.p d] = M.ret (.p (.bl (isListD d))) := fn_eq (by
  unfold d_is_list
  try simp -implicitDefEqProofs only [Sim.sM_pass, Sim.sM_seq, Sim.sM_asg, Sim.sM_ret, Sim.sM_expr, Sim.sM_if, Sim.sM_par, Sim.sM_asgT, Sim.sM_set, Sim.ret_bind, Sim.bind_assoc, Sim.x_var0, Sim.x_varS, Sim.x_C, Sim.x_op, Sim.x_un, Sim.x_A, Sim.x_nil, Sim.x_cons, Sim.x_call, Sim.x_and, Sim.x_or, Sim.x_not, Sim.x_if, Sim.x_tV, Sim.x_tCmp, Sim.x_tTru, Sim.x_tNot, Sim.x_tAnd, Sim.x_tOr, Sim.x_asB, Sim.x_sl, Sim.x_oNone, Sim.x_oSome, Sim.x_asI, Sim.x_trN, Sim.x_trB, Sim.x_trI, Sim.x_trL, Sim.x_trR, Sim.x_trT, Sim.x_add, Sim.x_sub, Sim.x_neg, Sim.x_lt, Sim.x_le, Sim.x_gt, Sim.x_ge, Sim.x_abs, Sim.x_max2, Sim.x_min2, Sim.x_intI, Sim.x_intB, Sim.x_eqI, Sim.x_neI, Sim.x_eqS, Sim.x_neS, Sim.x_lst, Sim.x_tup, Sim.x_frz0, Sim.x_frzP, Sim.x_lenL, Sim.x_lenT, Sim.x_lenR, Sim.x_tupleL, Sim.x_listL, Sim.x_listT, Sim.x_slL, Sim.x_slR, Sim.x_slT, Sim.callM, Sim.arrOf, List.filterMap_cons, List.filterMap_nil, List.getElem?_cons_zero, List.getElem?_cons_succ, List.cons_append, List.nil_append, List.append_nil, List.length_cons, List.length_nil, and_self, if_true, List.set_cons_zero, List.set_cons_succ, Bool.false_eq_true, if_false, Nat.reduceAdd, Nat.reduceSub, List.map_cons, List.map_nil, List.replicate_succ, List.replicate_zero, Bool.not_true, Bool.not_false, Sim.x_sized, Nat.reduceLeDiff, Nat.zero_add]
  rw [isi_list h]
  try simp -implicitDefEqProofs only [Sim.sM_pass, Sim.sM_seq, Sim.sM_asg, Sim.sM_ret, Sim.sM_expr, Sim.sM_if, Sim.sM_par, Sim.sM_asgT, Sim.sM_set, Sim.ret_bind, Sim.bind_assoc, Sim.x_var0, Sim.x_varS, Sim.x_C, Sim.x_op, Sim.x_un, Sim.x_A, Sim.x_nil, Sim.x_cons, Sim.x_call, Sim.x_and, Sim.x_or, Sim.x_not, Sim.x_if, Sim.x_tV, Sim.x_tCmp, Sim.x_tTru, Sim.x_tNot, Sim.x_tAnd, Sim.x_tOr, Sim.x_asB, Sim.x_sl, Sim.x_oNone, Sim.x_oSome, Sim.x_asI, Sim.x_trN, Sim.x_trB, Sim.x_trI, Sim.x_trL, Sim.x_trR, Sim.x_trT, Sim.x_add, Sim.x_sub, Sim.x_neg, Sim.x_lt, Sim.x_le, Sim.x_gt, Sim.x_ge, Sim.x_abs, Sim.x_max2, Sim.x_min2, Sim.x_intI, Sim.x_intB, Sim.x_eqI, Sim.x_neI, Sim.x_eqS, Sim.x_neS, Sim.x_lst, Sim.x_tup, Sim.x_frz0, Sim.x_frzP, Sim.x_lenL, Sim.x_lenT, Sim.x_lenR, Sim.x_tupleL, Sim.x_listL, Sim.x_listT, Sim.x_slL, Sim.x_slR, Sim.x_slT, Sim.callM, Sim.arrOf, List.filterMap_cons, List.filterMap_nil, List.getElem?_cons_zero, List.getElem?_cons_succ, List.cons_append, List.nil_append, List.append_nil, List.length_cons, List.length_nil, and_self, if_true, List.set_cons_zero, List.set_cons_succ, Bool.false_eq_true, if_false, Nat.reduceAdd, Nat.reduceSub, List.map_cons, List.map_nil, List.replicate_succ, List.replicate_zero, Bool.not_true, Bool.not_false, Sim.x_sized, Nat.reduceLeDiff, Nat.zero_add])
/-- an end that may be none -/
def optD : Option Int → D | none => .non | some i => .int i
def within (d : D) (lo hi : Option Int) : Bool := match d with
  | .int i => (match lo with | none => true | some l => decide (l ≤ i)) && (match hi with | none => true | some u => decide (i ≤ u))
  | _ => false
theorem e_is_within {d : D} {lo hi : Option Int} (h : tyN d ≠ none) : m_is_within [.p d, .p (optD lo), .p (optD hi)] = M.ret (.p (.bl (within d lo hi))) := fn_eq (by
  unfold d_is_within
  try simp -implicitDefEqProofs only [Sim.sM_pass, Sim.sM_seq, Sim.sM_asg, Sim.sM_ret, Sim.sM_expr, Sim.sM_if, Sim.sM_par, Sim.sM_asgT, Sim.sM_set, Sim.ret_bind, Sim.bind_assoc, Sim.x_var0, Sim.x_varS, Sim.x_C, Sim.x_op, Sim.x_un, Sim.x_A, Sim.x_nil, Sim.x_cons, Sim.x_call, Sim.x_and, Sim.x_or, Sim.x_not, Sim.x_if, Sim.x_tV, Sim.x_tCmp, Sim.x_tTru, Sim.x_tNot, Sim.x_tAnd, Sim.x_tOr, Sim.x_asB, Sim.x_sl, Sim.x_oNone, Sim.x_oSome, Sim.x_asI, Sim.x_trN, Sim.x_trB, Sim.x_trI, Sim.x_trL, Sim.x_trR, Sim.x_trT, Sim.x_add, Sim.x_sub, Sim.x_neg, Sim.x_lt, Sim.x_le, Sim.x_gt, Sim.x_ge, Sim.x_abs, Sim.x_max2, Sim.x_min2, Sim.x_intI, Sim.x_intB, Sim.x_eqI, Sim.x_neI, Sim.x_eqS, Sim.x_neS, Sim.x_lst, Sim.x_tup, Sim.x_frz0, Sim.x_frzP, Sim.x_lenL, Sim.x_lenT, Sim.x_lenR, Sim.x_tupleL, Sim.x_listL, Sim.x_listT, Sim.x_slL, Sim.x_slR, Sim.x_slT, Sim.callM, Sim.arrOf, List.filterMap_cons, List.filterMap_nil, List.getElem?_cons_zero, List.getElem?_cons_succ, List.cons_append, List.nil_append, List.append_nil, List.length_cons, List.length_nil, and_self, if_true, List.set_cons_zero, List.set_cons_succ, Bool.false_eq_true, if_false, Nat.reduceAdd, Nat.reduceSub, List.map_cons, List.map_nil, List.replicate_succ, List.replicate_zero, Bool.not_true, Bool.not_false, Sim.x_sized, Nat.reduceLeDiff, Nat.zero_add]
  rw [e_is_integer h]
  try simp -implicitDefEqProofs only [Sim.sM_pass, Sim.sM_seq, Sim.sM_asg, Sim.sM_ret, Sim.sM_expr, Sim.sM_if, Sim.sM_par, Sim.sM_asgT, Sim.sM_set, Sim.ret_bind, Sim.bind_assoc, Sim.x_var0, Sim.x_varS, Sim.x_C, Sim.x_op, Sim.x_un, Sim.x_A, Sim.x_nil, Sim.x_cons, Sim.x_call, Sim.x_and, Sim.x_or, Sim.x_not, Sim.x_if, Sim.x_tV, Sim.x_tCmp, Sim.x_tTru, Sim.x_tNot, Sim.x_tAnd, Sim.x_tOr, Sim.x_asB, Sim.x_sl, Sim.x_oNone, Sim.x_oSome, Sim.x_asI, Sim.x_trN, Sim.x_trB, Sim.x_trI, Sim.x_trL, Sim.x_trR, Sim.x_trT, Sim.x_add, Sim.x_sub, Sim.x_neg, Sim.x_lt, Sim.x_le, Sim.x_gt, Sim.x_ge, Sim.x_abs, Sim.x_max2, Sim.x_min2, Sim.x_intI, Sim.x_intB, Sim.x_eqI, Sim.x_neI, Sim.x_eqS, Sim.x_neS, Sim.x_lst, Sim.x_tup, Sim.x_frz0, Sim.x_frzP, Sim.x_lenL, Sim.x_lenT, Sim.x_lenR, Sim.x_tupleL, Sim.x_listL, Sim.x_listT, Sim.x_slL, Sim.x_slR, Sim.x_slT, Sim.callM, Sim.arrOf, List.filterMap_cons, List.filterMap_nil, List.getElem?_cons_zero, List.getElem?_cons_succ, List.cons_append, List.nil_append, List.append_nil, List.length_cons, List.length_nil, and_self, if_true, List.set_cons_zero, List.set_cons_succ, Bool.false_eq_true, if_false, Nat.reduceAdd, Nat.reduceSub, List.map_cons, List.map_nil, List.replicate_succ, List.replicate_zero, Bool.not_true, Bool.not_false, Sim.x_sized, Nat.reduceLeDiff, Nat.zero_add]
  cases d <;> simp only [isIntD, within] <;> try simp -implicitDefEqProofs only [Sim.sM_pass, Sim.sM_seq, Sim.sM_asg, Sim.sM_ret, Sim.sM_expr, Sim.sM_if, Sim.sM_par, Sim.sM_asgT, Sim.sM_set, Sim.ret_bind, Sim.bind_assoc, Sim.x_var0, Sim.x_varS, Sim.x_C, Sim.x_op, Sim.x_un, Sim.x_A, Sim.x_nil, Sim.x_cons, Sim.x_call, Sim.x_and, Sim.x_or, Sim.x_not, Sim.x_if, Sim.x_tV, Sim.x_tCmp, Sim.x_tTru, Sim.x_tNot, Sim.x_tAnd, Sim.x_tOr, Sim.x_asB, Sim.x_sl, Sim.x_oNone, Sim.x_oSome, Sim.x_asI, Sim.x_trN, Sim.x_trB, Sim.x_trI, Sim.x_trL, Sim.x_trR, Sim.x_trT, Sim.x_add, Sim.x_sub, Sim.x_neg, Sim.x_lt, Sim.x_le, Sim.x_gt, Sim.x_ge, Sim.x_abs, Sim.x_max2, Sim.x_min2, Sim.x_intI, Sim.x_intB, Sim.x_eqI, Sim.x_neI, Sim.x_eqS, Sim.x_neS, Sim.x_lst, Sim.x_tup, Sim.x_frz0, Sim.x_frzP, Sim.x_lenL, Sim.x_lenT, Sim.x_lenR, Sim.x_tupleL, Sim.x_listL, Sim.x_listT, Sim.x_slL, Sim.x_slR, Sim.x_slT, Sim.callM, Sim.arrOf, List.filterMap_cons, List.filterMap_nil, List.getElem?_cons_zero, List.getElem?_cons_succ, List.cons_append, List.nil_append, List.append_nil, List.length_cons, List.length_nil, and_self, if_true, List.set_cons_zero, List.set_cons_succ, Bool.false_eq_true, if_false, Nat.reduceAdd, Nat.reduceSub, List.map_cons, List.map_nil, List.replicate_succ, List.replicate_zero, Bool.not_true, Bool.not_false, Sim.x_sized, Nat.reduceLeDiff, Nat.zero_add]
  rename_i i
  cases lo <;> cases hi <;> simp only [optD, x_isN] <;> try simp -implicitDefEqProofs only [Sim.sM_pass, Sim.sM_seq, Sim.sM_asg, Sim.sM_ret, Sim.sM_expr, Sim.sM_if, Sim.sM_par, Sim.sM_asgT, Sim.sM_set, Sim.ret_bind, Sim.bind_assoc, Sim.x_var0, Sim.x_varS, Sim.x_C, Sim.x_op, Sim.x_un, Sim.x_A, Sim.x_nil, Sim.x_cons, Sim.x_call, Sim.x_and, Sim.x_or, Sim.x_not, Sim.x_if, Sim.x_tV, Sim.x_tCmp, Sim.x_tTru, Sim.x_tNot, Sim.x_tAnd, Sim.x_tOr, Sim.x_asB, Sim.x_sl, Sim.x_oNone, Sim.x_oSome, Sim.x_asI, Sim.x_trN, Sim.x_trB, Sim.x_trI, Sim.x_trL, Sim.x_trR, Sim.x_trT, Sim.x_add, Sim.x_sub, Sim.x_neg, Sim.x_lt, Sim.x_le, Sim.x_gt, Sim.x_ge, Sim.x_abs, Sim.x_max2, Sim.x_min2, Sim.x_intI, Sim.x_intB, Sim.x_eqI, Sim.x_neI, Sim.x_eqS, Sim.x_neS, Sim.x_lst, Sim.x_tup, Sim.x_frz0, Sim.x_frzP, Sim.x_lenL, Sim.x_lenT, Sim.x_lenR, Sim.x_tupleL, Sim.x_listL, Sim.x_listT, Sim.x_slL, Sim.x_slR, Sim.x_slT, Sim.callM, Sim.arrOf, List.filterMap_cons, List.filterMap_nil, List.getElem?_cons_zero, List.getElem?_cons_succ, List.cons_append, List.nil_append, List.append_nil, List.length_cons, List.length_nil, and_self, if_true, List.set_cons_zero, List.set_cons_succ, Bool.false_eq_true, if_false, Nat.reduceAdd, Nat.reduceSub, List.map_cons, List.map_nil, List.replicate_succ, List.replicate_zero, Bool.not_true, Bool.not_false, Sim.x_sized, Nat.reduceLeDiff, Nat.zero_add]
  · rfl
  · rfl
  · rename_i l; cases decide (l ≤ i) <;> rfl
  · rename_i l u; cases decide (l ≤ i) <;> rfl)
theorem seqV_D {d : D} {xs : List D} (h : seqD d = some xs) (st : Store) : seqV st (.p d) = some xs := by
  cases d <;> cases h <;> rfl
theorem len_D {d : D} {xs : List D} (h : seqD d = some xs) : M.of (gLen [.p d]) = M.ret (.p (.int xs.length)) := by
  cases d <;> cases h <;> rfl
theorem isl_some {d : D} {xs : List D} (h : seqD d = some xs) : isListD d = true := by
  cases d <;> cases h <;> rfl
theorem isl_none {d : D} (h : seqD d = none) : isListD d = false := by
  cases d <;> first | rfl | cases h
def Good (d : D) : Prop := tyN d ≠ none ∧ ∀ xs, seqD d = some xs → xs.length ≤ 16777216 ∧ ∀ x ∈ xs, tyN x ≠ none
theorem iSeq_D {d : D} {xs : List D} {m : ME} {ev : Ev} (hm : m ev = M.ret (.p d)) (h : seqD d = some xs) : ∀ st, iSeq m ev st = .ok (.seq (.p d)) st := fun st => by
  show ((m ev).bind fun v st => match seqV st v with | some _ => Res.ok (Src.seq v) st | none => .stuck) st = _
  rw [hm, ret_bind, seqV_D h]
theorem e_is_row {d : D} {n : Int} (h : Good d) : m_is_row [.p d, .p (.int n)] = M.ret (.p (.bl (match seqD d with | some xs => decide ((xs.length : Int) = n) && xs.all isIntD | none => false))) := fn_eq (by
  unfold d_is_row
  try simp -implicitDefEqProofs only [Sim.sM_pass, Sim.sM_seq, Sim.sM_asg, Sim.sM_ret, Sim.sM_expr, Sim.sM_if, Sim.sM_par, Sim.sM_asgT, Sim.sM_set, Sim.ret_bind, Sim.bind_assoc, Sim.x_var0, Sim.x_varS, Sim.x_C, Sim.x_op, Sim.x_un, Sim.x_A, Sim.x_nil, Sim.x_cons, Sim.x_call, Sim.x_and, Sim.x_or, Sim.x_not, Sim.x_if, Sim.x_tV, Sim.x_tCmp, Sim.x_tTru, Sim.x_tNot, Sim.x_tAnd, Sim.x_tOr, Sim.x_asB, Sim.x_sl, Sim.x_oNone, Sim.x_oSome, Sim.x_asI, Sim.x_trN, Sim.x_trB, Sim.x_trI, Sim.x_trL, Sim.x_trR, Sim.x_trT, Sim.x_add, Sim.x_sub, Sim.x_neg, Sim.x_lt, Sim.x_le, Sim.x_gt, Sim.x_ge, Sim.x_abs, Sim.x_max2, Sim.x_min2, Sim.x_intI, Sim.x_intB, Sim.x_eqI, Sim.x_neI, Sim.x_eqS, Sim.x_neS, Sim.x_lst, Sim.x_tup, Sim.x_frz0, Sim.x_frzP, Sim.x_lenL, Sim.x_lenT, Sim.x_lenR, Sim.x_tupleL, Sim.x_listL, Sim.x_listT, Sim.x_slL, Sim.x_slR, Sim.x_slT, Sim.callM, Sim.arrOf, List.filterMap_cons, List.filterMap_nil, List.getElem?_cons_zero, List.getElem?_cons_succ, List.cons_append, List.nil_append, List.append_nil, List.length_cons, List.length_nil, and_self, if_true, List.set_cons_zero, List.set_cons_succ, Bool.false_eq_true, if_false, Nat.reduceAdd, Nat.reduceSub, List.map_cons, List.map_nil, List.replicate_succ, List.replicate_zero, Bool.not_true, Bool.not_false, Sim.x_sized, Nat.reduceLeDiff, Nat.zero_add]
  rw [e_is_list h.1]
  try simp -implicitDefEqProofs only [Sim.sM_pass, Sim.sM_seq, Sim.sM_asg, Sim.sM_ret, Sim.sM_expr, Sim.sM_if, Sim.sM_par, Sim.sM_asgT, Sim.sM_set, Sim.ret_bind, Sim.bind_assoc, Sim.x_var0, Sim.x_varS, Sim.x_C, Sim.x_op, Sim.x_un, Sim.x_A, Sim.x_nil, Sim.x_cons, Sim.x_call, Sim.x_and, Sim.x_or, Sim.x_not, Sim.x_if, Sim.x_tV, Sim.x_tCmp, Sim.x_tTru, Sim.x_tNot, Sim.x_tAnd, Sim.x_tOr, Sim.x_asB, Sim.x_sl, Sim.x_oNone, Sim.x_oSome, Sim.x_asI, Sim.x_trN, Sim.x_trB, Sim.x_trI, Sim.x_trL, Sim.x_trR, Sim.x_trT, Sim.x_add, Sim.x_sub, Sim.x_neg, Sim.x_lt, Sim.x_le, Sim.x_gt, Sim.x_ge, Sim.x_abs, Sim.x_max2, Sim.x_min2, Sim.x_intI, Sim.x_intB, Sim.x_eqI, Sim.x_neI, Sim.x_eqS, Sim.x_neS, Sim.x_lst, Sim.x_tup, Sim.x_frz0, Sim.x_frzP, Sim.x_lenL, Sim.x_lenT, Sim.x_lenR, Sim.x_tupleL, Sim.x_listL, Sim.x_listT, Sim.x_slL, Sim.x_slR, Sim.x_slT, Sim.callM, Sim.arrOf, List.filterMap_cons, List.filterMap_nil, List.getElem?_cons_zero, List.getElem?_cons_succ, List.cons_append, List.nil_append, List.append_nil, List.length_cons, List.length_nil, and_self, if_true, List.set_cons_zero, List.set_cons_succ, Bool.false_eq_true, if_false, Nat.reduceAdd, Nat.reduceSub, List.map_cons, List.map_nil, List.replicate_succ, List.replicate_zero, Bool.not_true, Bool.not_false, Sim.x_sized, Nat.reduceLeDiff, Nat.zero_add]
  cases hs : seqD d with
  | none => simp only [isl_none hs]; try simp -implicitDefEqProofs only [Sim.sM_pass, Sim.sM_seq, Sim.sM_asg, Sim.sM_ret, Sim.sM_expr, Sim.sM_if, Sim.sM_par, Sim.sM_asgT, Sim.sM_set, Sim.ret_bind, Sim.bind_assoc, Sim.x_var0, Sim.x_varS, Sim.x_C, Sim.x_op, Sim.x_un, Sim.x_A, Sim.x_nil, Sim.x_cons, Sim.x_call, Sim.x_and, Sim.x_or, Sim.x_not, Sim.x_if, Sim.x_tV, Sim.x_tCmp, Sim.x_tTru, Sim.x_tNot, Sim.x_tAnd, Sim.x_tOr, Sim.x_asB, Sim.x_sl, Sim.x_oNone, Sim.x_oSome, Sim.x_asI, Sim.x_trN, Sim.x_trB, Sim.x_trI, Sim.x_trL, Sim.x_trR, Sim.x_trT, Sim.x_add, Sim.x_sub, Sim.x_neg, Sim.x_lt, Sim.x_le, Sim.x_gt, Sim.x_ge, Sim.x_abs, Sim.x_max2, Sim.x_min2, Sim.x_intI, Sim.x_intB, Sim.x_eqI, Sim.x_neI, Sim.x_eqS, Sim.x_neS, Sim.x_lst, Sim.x_tup, Sim.x_frz0, Sim.x_frzP, Sim.x_lenL, Sim.x_lenT, Sim.x_lenR, Sim.x_tupleL, Sim.x_listL, Sim.x_listT, Sim.x_slL, Sim.x_slR, Sim.x_slT, Sim.callM, Sim.arrOf, List.filterMap_cons, List.filterMap_nil, List.getElem?_cons_zero, List.getElem?_cons_succ, List.cons_append, List.nil_append, List.append_nil, List.length_cons, List.length_nil, and_self, if_true, List.set_cons_zero, List.set_cons_succ, Bool.false_eq_true, if_false, Nat.reduceAdd, Nat.reduceSub, List.map_cons, List.map_nil, List.replicate_succ, List.replicate_zero, Bool.not_true, Bool.not_false, Sim.x_sized, Nat.reduceLeDiff, Nat.zero_add]
  | some xs =>
    obtain ⟨hz, ht⟩ := h.2 xs hs
    simp only [isl_some hs]
    try simp -implicitDefEqProofs only [Sim.sM_pass, Sim.sM_seq, Sim.sM_asg, Sim.sM_ret, Sim.sM_expr, Sim.sM_if, Sim.sM_par, Sim.sM_asgT, Sim.sM_set, Sim.ret_bind, Sim.bind_assoc, Sim.x_var0, Sim.x_varS, Sim.x_C, Sim.x_op, Sim.x_un, Sim.x_A, Sim.x_nil, Sim.x_cons, Sim.x_call, Sim.x_and, Sim.x_or, Sim.x_not, Sim.x_if, Sim.x_tV, Sim.x_tCmp, Sim.x_tTru, Sim.x_tNot, Sim.x_tAnd, Sim.x_tOr, Sim.x_asB, Sim.x_sl, Sim.x_oNone, Sim.x_oSome, Sim.x_asI, Sim.x_trN, Sim.x_trB, Sim.x_trI, Sim.x_trL, Sim.x_trR, Sim.x_trT, Sim.x_add, Sim.x_sub, Sim.x_neg, Sim.x_lt, Sim.x_le, Sim.x_gt, Sim.x_ge, Sim.x_abs, Sim.x_max2, Sim.x_min2, Sim.x_intI, Sim.x_intB, Sim.x_eqI, Sim.x_neI, Sim.x_eqS, Sim.x_neS, Sim.x_lst, Sim.x_tup, Sim.x_frz0, Sim.x_frzP, Sim.x_lenL, Sim.x_lenT, Sim.x_lenR, Sim.x_tupleL, Sim.x_listL, Sim.x_listT, Sim.x_slL, Sim.x_slR, Sim.x_slT, Sim.callM, Sim.arrOf, List.filterMap_cons, List.filterMap_nil, List.getElem?_cons_zero, List.getElem?_cons_succ, List.cons_append, List.nil_append, List.append_nil, List.length_cons, List.length_nil, and_self, if_true, List.set_cons_zero, List.set_cons_succ, Bool.false_eq_true, if_false, Nat.reduceAdd, Nat.reduceSub, List.map_cons, List.map_nil, List.replicate_succ, List.replicate_zero, Bool.not_true, Bool.not_false, Sim.x_sized, Nat.reduceLeDiff, Nat.zero_add]
    rw [len_D hs]
    try simp -implicitDefEqProofs only [Sim.sM_pass, Sim.sM_seq, Sim.sM_asg, Sim.sM_ret, Sim.sM_expr, Sim.sM_if, Sim.sM_par, Sim.sM_asgT, Sim.sM_set, Sim.ret_bind, Sim.bind_assoc, Sim.x_var0, Sim.x_varS, Sim.x_C, Sim.x_op, Sim.x_un, Sim.x_A, Sim.x_nil, Sim.x_cons, Sim.x_call, Sim.x_and, Sim.x_or, Sim.x_not, Sim.x_if, Sim.x_tV, Sim.x_tCmp, Sim.x_tTru, Sim.x_tNot, Sim.x_tAnd, Sim.x_tOr, Sim.x_asB, Sim.x_sl, Sim.x_oNone, Sim.x_oSome, Sim.x_asI, Sim.x_trN, Sim.x_trB, Sim.x_trI, Sim.x_trL, Sim.x_trR, Sim.x_trT, Sim.x_add, Sim.x_sub, Sim.x_neg, Sim.x_lt, Sim.x_le, Sim.x_gt, Sim.x_ge, Sim.x_abs, Sim.x_max2, Sim.x_min2, Sim.x_intI, Sim.x_intB, Sim.x_eqI, Sim.x_neI, Sim.x_eqS, Sim.x_neS, Sim.x_lst, Sim.x_tup, Sim.x_frz0, Sim.x_frzP, Sim.x_lenL, Sim.x_lenT, Sim.x_lenR, Sim.x_tupleL, Sim.x_listL, Sim.x_listT, Sim.x_slL, Sim.x_slR, Sim.x_slT, Sim.callM, Sim.arrOf, List.filterMap_cons, List.filterMap_nil, List.getElem?_cons_zero, List.getElem?_cons_succ, List.cons_append, List.nil_append, List.append_nil, List.length_cons, List.length_nil, and_self, if_true, List.set_cons_zero, List.set_cons_succ, Bool.false_eq_true, if_false, Nat.reduceAdd, Nat.reduceSub, List.map_cons, List.map_nil, List.replicate_succ, List.replicate_zero, Bool.not_true, Bool.not_false, Sim.x_sized, Nat.reduceLeDiff, Nat.zero_add]
    cases hq : decide ((xs.length : Int) = n) with
    | false => try simp -implicitDefEqProofs only [Sim.sM_pass, Sim.sM_seq, Sim.sM_asg, Sim.sM_ret, Sim.sM_expr, Sim.sM_if, Sim.sM_par, Sim.sM_asgT, Sim.sM_set, Sim.ret_bind, Sim.bind_assoc, Sim.x_var0, Sim.x_varS, Sim.x_C, Sim.x_op, Sim.x_un, Sim.x_A, Sim.x_nil, Sim.x_cons, Sim.x_call, Sim.x_and, Sim.x_or, Sim.x_not, Sim.x_if, Sim.x_tV, Sim.x_tCmp, Sim.x_tTru, Sim.x_tNot, Sim.x_tAnd, Sim.x_tOr, Sim.x_asB, Sim.x_sl, Sim.x_oNone, Sim.x_oSome, Sim.x_asI, Sim.x_trN, Sim.x_trB, Sim.x_trI, Sim.x_trL, Sim.x_trR, Sim.x_trT, Sim.x_add, Sim.x_sub, Sim.x_neg, Sim.x_lt, Sim.x_le, Sim.x_gt, Sim.x_ge, Sim.x_abs, Sim.x_max2, Sim.x_min2, Sim.x_intI, Sim.x_intB, Sim.x_eqI, Sim.x_neI, Sim.x_eqS, Sim.x_neS, Sim.x_lst, Sim.x_tup, Sim.x_frz0, Sim.x_frzP, Sim.x_lenL, Sim.x_lenT, Sim.x_lenR, Sim.x_tupleL, Sim.x_listL, Sim.x_listT, Sim.x_slL, Sim.x_slR, Sim.x_slT, Sim.callM, Sim.arrOf, List.filterMap_cons, List.filterMap_nil, List.getElem?_cons_zero, List.getElem?_cons_succ, List.cons_append, List.nil_append, List.append_nil, List.length_cons, List.length_nil, and_self, if_true, List.set_cons_zero, List.set_cons_succ, Bool.false_eq_true, if_false, Nat.reduceAdd, Nat.reduceSub, List.map_cons, List.map_nil, List.replicate_succ, List.replicate_zero, Bool.not_true, Bool.not_false, Sim.x_sized, Nat.reduceLeDiff, Nat.zero_add]; rfl
    | true =>
      try simp -implicitDefEqProofs only [Sim.sM_pass, Sim.sM_seq, Sim.sM_asg, Sim.sM_ret, Sim.sM_expr, Sim.sM_if, Sim.sM_par, Sim.sM_asgT, Sim.sM_set, Sim.ret_bind, Sim.bind_assoc, Sim.x_var0, Sim.x_varS, Sim.x_C, Sim.x_op, Sim.x_un, Sim.x_A, Sim.x_nil, Sim.x_cons, Sim.x_call, Sim.x_and, Sim.x_or, Sim.x_not, Sim.x_if, Sim.x_tV, Sim.x_tCmp, Sim.x_tTru, Sim.x_tNot, Sim.x_tAnd, Sim.x_tOr, Sim.x_asB, Sim.x_sl, Sim.x_oNone, Sim.x_oSome, Sim.x_asI, Sim.x_trN, Sim.x_trB, Sim.x_trI, Sim.x_trL, Sim.x_trR, Sim.x_trT, Sim.x_add, Sim.x_sub, Sim.x_neg, Sim.x_lt, Sim.x_le, Sim.x_gt, Sim.x_ge, Sim.x_abs, Sim.x_max2, Sim.x_min2, Sim.x_intI, Sim.x_intB, Sim.x_eqI, Sim.x_neI, Sim.x_eqS, Sim.x_neS, Sim.x_lst, Sim.x_tup, Sim.x_frz0, Sim.x_frzP, Sim.x_lenL, Sim.x_lenT, Sim.x_lenR, Sim.x_tupleL, Sim.x_listL, Sim.x_listT, Sim.x_slL, Sim.x_slR, Sim.x_slT, Sim.callM, Sim.arrOf, List.filterMap_cons, List.filterMap_nil, List.getElem?_cons_zero, List.getElem?_cons_succ, List.cons_append, List.nil_append, List.append_nil, List.length_cons, List.length_nil, and_self, if_true, List.set_cons_zero, List.set_cons_succ, Bool.false_eq_true, if_false, Nat.reduceAdd, Nat.reduceSub, List.map_cons, List.map_nil, List.replicate_succ, List.replicate_zero, Bool.not_true, Bool.not_false, Sim.x_sized, Nat.reduceLeDiff, Nat.zero_add]
      have hc : eComp (iSeq (eVar 0)) (.nm 2) tYesM (eCall 1 0 1 [] [0] m_is_integer (aCons (eVar 2) aNil) aNil) [2] [some (.p d), some (.p (.int n)), none] = M.ret (.p (.lst (xs.map fun x => .bl (isIntD x)))) :=
        Pu.eq (comp_all (iSeq_D rfl hs) (seqV_D hs) _ hz fun x hx => ⟨[some (.p d), some (.p (.int n)), some (.p x)], rfl, fun st => by
          try simp -implicitDefEqProofs only [Sim.sM_pass, Sim.sM_seq, Sim.sM_asg, Sim.sM_ret, Sim.sM_expr, Sim.sM_if, Sim.sM_par, Sim.sM_asgT, Sim.sM_set, Sim.ret_bind, Sim.bind_assoc, Sim.x_var0, Sim.x_varS, Sim.x_C, Sim.x_op, Sim.x_un, Sim.x_A, Sim.x_nil, Sim.x_cons, Sim.x_call, Sim.x_and, Sim.x_or, Sim.x_not, Sim.x_if, Sim.x_tV, Sim.x_tCmp, Sim.x_tTru, Sim.x_tNot, Sim.x_tAnd, Sim.x_tOr, Sim.x_asB, Sim.x_sl, Sim.x_oNone, Sim.x_oSome, Sim.x_asI, Sim.x_trN, Sim.x_trB, Sim.x_trI, Sim.x_trL, Sim.x_trR, Sim.x_trT, Sim.x_add, Sim.x_sub, Sim.x_neg, Sim.x_lt, Sim.x_le, Sim.x_gt, Sim.x_ge, Sim.x_abs, Sim.x_max2, Sim.x_min2, Sim.x_intI, Sim.x_intB, Sim.x_eqI, Sim.x_neI, Sim.x_eqS, Sim.x_neS, Sim.x_lst, Sim.x_tup, Sim.x_frz0, Sim.x_frzP, Sim.x_lenL, Sim.x_lenT, Sim.x_lenR, Sim.x_tupleL, Sim.x_listL, Sim.x_listT, Sim.x_slL, Sim.x_slR, Sim.x_slT, Sim.callM, Sim.arrOf, List.filterMap_cons, List.filterMap_nil, List.getElem?_cons_zero, List.getElem?_cons_succ, List.cons_append, List.nil_append, List.append_nil, List.length_cons, List.length_nil, and_self, if_true, List.set_cons_zero, List.set_cons_succ, Bool.false_eq_true, if_false, Nat.reduceAdd, Nat.reduceSub, List.map_cons, List.map_nil, List.replicate_succ, List.replicate_zero, Bool.not_true, Bool.not_false, Sim.x_sized, Nat.reduceLeDiff, Nat.zero_add]
          rw [e_is_integer (ht x hx)]
          try simp -implicitDefEqProofs only [Sim.sM_pass, Sim.sM_seq, Sim.sM_asg, Sim.sM_ret, Sim.sM_expr, Sim.sM_if, Sim.sM_par, Sim.sM_asgT, Sim.sM_set, Sim.ret_bind, Sim.bind_assoc, Sim.x_var0, Sim.x_varS, Sim.x_C, Sim.x_op, Sim.x_un, Sim.x_A, Sim.x_nil, Sim.x_cons, Sim.x_call, Sim.x_and, Sim.x_or, Sim.x_not, Sim.x_if, Sim.x_tV, Sim.x_tCmp, Sim.x_tTru, Sim.x_tNot, Sim.x_tAnd, Sim.x_tOr, Sim.x_asB, Sim.x_sl, Sim.x_oNone, Sim.x_oSome, Sim.x_asI, Sim.x_trN, Sim.x_trB, Sim.x_trI, Sim.x_trL, Sim.x_trR, Sim.x_trT, Sim.x_add, Sim.x_sub, Sim.x_neg, Sim.x_lt, Sim.x_le, Sim.x_gt, Sim.x_ge, Sim.x_abs, Sim.x_max2, Sim.x_min2, Sim.x_intI, Sim.x_intB, Sim.x_eqI, Sim.x_neI, Sim.x_eqS, Sim.x_neS, Sim.x_lst, Sim.x_tup, Sim.x_frz0, Sim.x_frzP, Sim.x_lenL, Sim.x_lenT, Sim.x_lenR, Sim.x_tupleL, Sim.x_listL, Sim.x_listT, Sim.x_slL, Sim.x_slR, Sim.x_slT, Sim.callM, Sim.arrOf, List.filterMap_cons, List.filterMap_nil, List.getElem?_cons_zero, List.getElem?_cons_succ, List.cons_append, List.nil_append, List.append_nil, List.length_cons, List.length_nil, and_self, if_true, List.set_cons_zero, List.set_cons_succ, Bool.false_eq_true, if_false, Nat.reduceAdd, Nat.reduceSub, List.map_cons, List.map_nil, List.replicate_succ, List.replicate_zero, Bool.not_true, Bool.not_false, Sim.x_sized, Nat.reduceLeDiff, Nat.zero_add]
          rfl⟩)
      rw [hc]
      try simp -implicitDefEqProofs only [Sim.sM_pass, Sim.sM_seq, Sim.sM_asg, Sim.sM_ret, Sim.sM_expr, Sim.sM_if, Sim.sM_par, Sim.sM_asgT, Sim.sM_set, Sim.ret_bind, Sim.bind_assoc, Sim.x_var0, Sim.x_varS, Sim.x_C, Sim.x_op, Sim.x_un, Sim.x_A, Sim.x_nil, Sim.x_cons, Sim.x_call, Sim.x_and, Sim.x_or, Sim.x_not, Sim.x_if, Sim.x_tV, Sim.x_tCmp, Sim.x_tTru, Sim.x_tNot, Sim.x_tAnd, Sim.x_tOr, Sim.x_asB, Sim.x_sl, Sim.x_oNone, Sim.x_oSome, Sim.x_asI, Sim.x_trN, Sim.x_trB, Sim.x_trI, Sim.x_trL, Sim.x_trR, Sim.x_trT, Sim.x_add, Sim.x_sub, Sim.x_neg, Sim.x_lt, Sim.x_le, Sim.x_gt, Sim.x_ge, Sim.x_abs, Sim.x_max2, Sim.x_min2, Sim.x_intI, Sim.x_intB, Sim.x_eqI, Sim.x_neI, Sim.x_eqS, Sim.x_neS, Sim.x_lst, Sim.x_tup, Sim.x_frz0, Sim.x_frzP, Sim.x_lenL, Sim.x_lenT, Sim.x_lenR, Sim.x_tupleL, Sim.x_listL, Sim.x_listT, Sim.x_slL, Sim.x_slR, Sim.x_slT, Sim.callM, Sim.arrOf, List.filterMap_cons, List.filterMap_nil, List.getElem?_cons_zero, List.getElem?_cons_succ, List.cons_append, List.nil_append, List.append_nil, List.length_cons, List.length_nil, and_self, if_true, List.set_cons_zero, List.set_cons_succ, Bool.false_eq_true, if_false, Nat.reduceAdd, Nat.reduceSub, List.map_cons, List.map_nil, List.replicate_succ, List.replicate_zero, Bool.not_true, Bool.not_false, Sim.x_sized, Nat.reduceLeDiff, Nat.zero_add]
      have e : (xs.map fun x => D.bl (isIntD x)) = (xs.map isIntD).map D.bl := by rw [List.map_map]; rfl
      rw [e, x_all]
      try simp -implicitDefEqProofs only [Sim.sM_pass, Sim.sM_seq, Sim.sM_asg, Sim.sM_ret, Sim.sM_expr, Sim.sM_if, Sim.sM_par, Sim.sM_asgT, Sim.sM_set, Sim.ret_bind, Sim.bind_assoc, Sim.x_var0, Sim.x_varS, Sim.x_C, Sim.x_op, Sim.x_un, Sim.x_A, Sim.x_nil, Sim.x_cons, Sim.x_call, Sim.x_and, Sim.x_or, Sim.x_not, Sim.x_if, Sim.x_tV, Sim.x_tCmp, Sim.x_tTru, Sim.x_tNot, Sim.x_tAnd, Sim.x_tOr, Sim.x_asB, Sim.x_sl, Sim.x_oNone, Sim.x_oSome, Sim.x_asI, Sim.x_trN, Sim.x_trB, Sim.x_trI, Sim.x_trL, Sim.x_trR, Sim.x_trT, Sim.x_add, Sim.x_sub, Sim.x_neg, Sim.x_lt, Sim.x_le, Sim.x_gt, Sim.x_ge, Sim.x_abs, Sim.x_max2, Sim.x_min2, Sim.x_intI, Sim.x_intB, Sim.x_eqI, Sim.x_neI, Sim.x_eqS, Sim.x_neS, Sim.x_lst, Sim.x_tup, Sim.x_frz0, Sim.x_frzP, Sim.x_lenL, Sim.x_lenT, Sim.x_lenR, Sim.x_tupleL, Sim.x_listL, Sim.x_listT, Sim.x_slL, Sim.x_slR, Sim.x_slT, Sim.callM, Sim.arrOf, List.filterMap_cons, List.filterMap_nil, List.getElem?_cons_zero, List.getElem?_cons_succ, List.cons_append, List.nil_append, List.append_nil, List.length_cons, List.length_nil, and_self, if_true, List.set_cons_zero, List.set_cons_succ, Bool.false_eq_true, if_false, Nat.reduceAdd, Nat.reduceSub, List.map_cons, List.map_nil, List.replicate_succ, List.replicate_zero, Bool.not_true, Bool.not_false, Sim.x_sized, Nat.reduceLeDiff, Nat.zero_add]
      rw [List.all_map]; rfl)
theorem e_is_text {d : D} {n m : Int} (h : Good d) : m_is_text [.p d, .p (.int n), .p (.int m)] = M.ret (.p (.bl (match seqD d with | some xs => decide ((xs.length : Int) ≤ m) && xs.all fun x => within x (some 0) (some (n - 1)) | none => false))) := fn_eq (by
  unfold d_is_text
  try simp -implicitDefEqProofs only [Sim.sM_pass, Sim.sM_seq, Sim.sM_asg, Sim.sM_ret, Sim.sM_expr, Sim.sM_if, Sim.sM_par, Sim.sM_asgT, Sim.sM_set, Sim.ret_bind, Sim.bind_assoc, Sim.x_var0, Sim.x_varS, Sim.x_C, Sim.x_op, Sim.x_un, Sim.x_A, Sim.x_nil, Sim.x_cons, Sim.x_call, Sim.x_and, Sim.x_or, Sim.x_not, Sim.x_if, Sim.x_tV, Sim.x_tCmp, Sim.x_tTru, Sim.x_tNot, Sim.x_tAnd, Sim.x_tOr, Sim.x_asB, Sim.x_sl, Sim.x_oNone, Sim.x_oSome, Sim.x_asI, Sim.x_trN, Sim.x_trB, Sim.x_trI, Sim.x_trL, Sim.x_trR, Sim.x_trT, Sim.x_add, Sim.x_sub, Sim.x_neg, Sim.x_lt, Sim.x_le, Sim.x_gt, Sim.x_ge, Sim.x_abs, Sim.x_max2, Sim.x_min2, Sim.x_intI, Sim.x_intB, Sim.x_eqI, Sim.x_neI, Sim.x_eqS, Sim.x_neS, Sim.x_lst, Sim.x_tup, Sim.x_frz0, Sim.x_frzP, Sim.x_lenL, Sim.x_lenT, Sim.x_lenR, Sim.x_tupleL, Sim.x_listL, Sim.x_listT, Sim.x_slL, Sim.x_slR, Sim.x_slT, Sim.callM, Sim.arrOf, List.filterMap_cons, List.filterMap_nil, List.getElem?_cons_zero, List.getElem?_cons_succ, List.cons_append, List.nil_append, List.append_nil, List.length_cons, List.length_nil, and_self, if_true, List.set_cons_zero, List.set_cons_succ, Bool.false_eq_true, if_false, Nat.reduceAdd, Nat.reduceSub, List.map_cons, List.map_nil, List.replicate_succ, List.replicate_zero, Bool.not_true, Bool.not_false, Sim.x_sized, Nat.reduceLeDiff, Nat.zero_add]
  rw [e_is_list h.1]
  try simp -implicitDefEqProofs only [Sim.sM_pass, Sim.sM_seq, Sim.sM_asg, Sim.sM_ret, Sim.sM_expr, Sim.sM_if, Sim.sM_par, Sim.sM_asgT, Sim.sM_set, Sim.ret_bind, Sim.bind_assoc, Sim.x_var0, Sim.x_varS, Sim.x_C, Sim.x_op, Sim.x_un, Sim.x_A, Sim.x_nil, Sim.x_cons, Sim.x_call, Sim.x_and, Sim.x_or, Sim.x_not, Sim.x_if, Sim.x_tV, Sim.x_tCmp, Sim.x_tTru, Sim.x_tNot, Sim.x_tAnd, Sim.x_tOr, Sim.x_asB, Sim.x_sl, Sim.x_oNone, Sim.x_oSome, Sim.x_asI, Sim.x_trN, Sim.x_trB, Sim.x_trI, Sim.x_trL, Sim.x_trR, Sim.x_trT, Sim.x_add, Sim.x_sub, Sim.x_neg, Sim.x_lt, Sim.x_le, Sim.x_gt, Sim.x_ge, Sim.x_abs, Sim.x_max2, Sim.x_min2, Sim.x_intI, Sim.x_intB, Sim.x_eqI, Sim.x_neI, Sim.x_eqS, Sim.x_neS, Sim.x_lst, Sim.x_tup, Sim.x_frz0, Sim.x_frzP, Sim.x_lenL, Sim.x_lenT, Sim.x_lenR, Sim.x_tupleL, Sim.x_listL, Sim.x_listT, Sim.x_slL, Sim.x_slR, Sim.x_slT, Sim.callM, Sim.arrOf, List.filterMap_cons, List.filterMap_nil, List.getElem?_cons_zero, List.getElem?_cons_succ, List.cons_append, List.nil_append, List.append_nil, List.length_cons, List.length_nil, and_self, if_true, List.set_cons_zero, List.set_cons_succ, Bool.false_eq_true, if_false, Nat.reduceAdd, Nat.reduceSub, List.map_cons, List.map_nil, List.replicate_succ, List.replicate_zero, Bool.not_true, Bool.not_false, Sim.x_sized, Nat.reduceLeDiff, Nat.zero_add]
  cases hs : seqD d with
  | none => simp only [isl_none hs]; try simp -implicitDefEqProofs only [Sim.sM_pass, Sim.sM_seq, Sim.sM_asg, Sim.sM_ret, Sim.sM_expr, Sim.sM_if, Sim.sM_par, Sim.sM_asgT, Sim.sM_set, Sim.ret_bind, Sim.bind_assoc, Sim.x_var0, Sim.x_varS, Sim.x_C, Sim.x_op, Sim.x_un, Sim.x_A, Sim.x_nil, Sim.x_cons, Sim.x_call, Sim.x_and, Sim.x_or, Sim.x_not, Sim.x_if, Sim.x_tV, Sim.x_tCmp, Sim.x_tTru, Sim.x_tNot, Sim.x_tAnd, Sim.x_tOr, Sim.x_asB, Sim.x_sl, Sim.x_oNone, Sim.x_oSome, Sim.x_asI, Sim.x_trN, Sim.x_trB, Sim.x_trI, Sim.x_trL, Sim.x_trR, Sim.x_trT, Sim.x_add, Sim.x_sub, Sim.x_neg, Sim.x_lt, Sim.x_le, Sim.x_gt, Sim.x_ge, Sim.x_abs, Sim.x_max2, Sim.x_min2, Sim.x_intI, Sim.x_intB, Sim.x_eqI, Sim.x_neI, Sim.x_eqS, Sim.x_neS, Sim.x_lst, Sim.x_tup, Sim.x_frz0, Sim.x_frzP, Sim.x_lenL, Sim.x_lenT, Sim.x_lenR, Sim.x_tupleL, Sim.x_listL, Sim.x_listT, Sim.x_slL, Sim.x_slR, Sim.x_slT, Sim.callM, Sim.arrOf, List.filterMap_cons, List.filterMap_nil, List.getElem?_cons_zero, List.getElem?_cons_succ, List.cons_append, List.nil_append, List.append_nil, List.length_cons, List.length_nil, and_self, if_true, List.set_cons_zero, List.set_cons_succ, Bool.false_eq_true, if_false, Nat.reduceAdd, Nat.reduceSub, List.map_cons, List.map_nil, List.replicate_succ, List.replicate_zero, Bool.not_true, Bool.not_false, Sim.x_sized, Nat.reduceLeDiff, Nat.zero_add]
  | some xs =>
    obtain ⟨hz, ht⟩ := h.2 xs hs
    simp only [isl_some hs]
    try simp -implicitDefEqProofs only [Sim.sM_pass, Sim.sM_seq, Sim.sM_asg, Sim.sM_ret, Sim.sM_expr, Sim.sM_if, Sim.sM_par, Sim.sM_asgT, Sim.sM_set, Sim.ret_bind, Sim.bind_assoc, Sim.x_var0, Sim.x_varS, Sim.x_C, Sim.x_op, Sim.x_un, Sim.x_A, Sim.x_nil, Sim.x_cons, Sim.x_call, Sim.x_and, Sim.x_or, Sim.x_not, Sim.x_if, Sim.x_tV, Sim.x_tCmp, Sim.x_tTru, Sim.x_tNot, Sim.x_tAnd, Sim.x_tOr, Sim.x_asB, Sim.x_sl, Sim.x_oNone, Sim.x_oSome, Sim.x_asI, Sim.x_trN, Sim.x_trB, Sim.x_trI, Sim.x_trL, Sim.x_trR, Sim.x_trT, Sim.x_add, Sim.x_sub, Sim.x_neg, Sim.x_lt, Sim.x_le, Sim.x_gt, Sim.x_ge, Sim.x_abs, Sim.x_max2, Sim.x_min2, Sim.x_intI, Sim.x_intB, Sim.x_eqI, Sim.x_neI, Sim.x_eqS, Sim.x_neS, Sim.x_lst, Sim.x_tup, Sim.x_frz0, Sim.x_frzP, Sim.x_lenL, Sim.x_lenT, Sim.x_lenR, Sim.x_tupleL, Sim.x_listL, Sim.x_listT, Sim.x_slL, Sim.x_slR, Sim.x_slT, Sim.callM, Sim.arrOf, List.filterMap_cons, List.filterMap_nil, List.getElem?_cons_zero, List.getElem?_cons_succ, List.cons_append, List.nil_append, List.append_nil, List.length_cons, List.length_nil, and_self, if_true, List.set_cons_zero, List.set_cons_succ, Bool.false_eq_true, if_false, Nat.reduceAdd, Nat.reduceSub, List.map_cons, List.map_nil, List.replicate_succ, List.replicate_zero, Bool.not_true, Bool.not_false, Sim.x_sized, Nat.reduceLeDiff, Nat.zero_add]
    rw [len_D hs]
    try simp -implicitDefEqProofs only [Sim.sM_pass, Sim.sM_seq, Sim.sM_asg, Sim.sM_ret, Sim.sM_expr, Sim.sM_if, Sim.sM_par, Sim.sM_asgT, Sim.sM_set, Sim.ret_bind, Sim.bind_assoc, Sim.x_var0, Sim.x_varS, Sim.x_C, Sim.x_op, Sim.x_un, Sim.x_A, Sim.x_nil, Sim.x_cons, Sim.x_call, Sim.x_and, Sim.x_or, Sim.x_not, Sim.x_if, Sim.x_tV, Sim.x_tCmp, Sim.x_tTru, Sim.x_tNot, Sim.x_tAnd, Sim.x_tOr, Sim.x_asB, Sim.x_sl, Sim.x_oNone, Sim.x_oSome, Sim.x_asI, Sim.x_trN, Sim.x_trB, Sim.x_trI, Sim.x_trL, Sim.x_trR, Sim.x_trT, Sim.x_add, Sim.x_sub, Sim.x_neg, Sim.x_lt, Sim.x_le, Sim.x_gt, Sim.x_ge, Sim.x_abs, Sim.x_max2, Sim.x_min2, Sim.x_intI, Sim.x_intB, Sim.x_eqI, Sim.x_neI, Sim.x_eqS, Sim.x_neS, Sim.x_lst, Sim.x_tup, Sim.x_frz0, Sim.x_frzP, Sim.x_lenL, Sim.x_lenT, Sim.x_lenR, Sim.x_tupleL, Sim.x_listL, Sim.x_listT, Sim.x_slL, Sim.x_slR, Sim.x_slT, Sim.callM, Sim.arrOf, List.filterMap_cons, List.filterMap_nil, List.getElem?_cons_zero, List.getElem?_cons_succ, List.cons_append, List.nil_append, List.append_nil, List.length_cons, List.length_nil, and_self, if_true, List.set_cons_zero, List.set_cons_succ, Bool.false_eq_true, if_false, Nat.reduceAdd, Nat.reduceSub, List.map_cons, List.map_nil, List.replicate_succ, List.replicate_zero, Bool.not_true, Bool.not_false, Sim.x_sized, Nat.reduceLeDiff, Nat.zero_add]
    cases hq : decide ((xs.length : Int) ≤ m) with
    | false => try simp -implicitDefEqProofs only [Sim.sM_pass, Sim.sM_seq, Sim.sM_asg, Sim.sM_ret, Sim.sM_expr, Sim.sM_if, Sim.sM_par, Sim.sM_asgT, Sim.sM_set, Sim.ret_bind, Sim.bind_assoc, Sim.x_var0, Sim.x_varS, Sim.x_C, Sim.x_op, Sim.x_un, Sim.x_A, Sim.x_nil, Sim.x_cons, Sim.x_call, Sim.x_and, Sim.x_or, Sim.x_not, Sim.x_if, Sim.x_tV, Sim.x_tCmp, Sim.x_tTru, Sim.x_tNot, Sim.x_tAnd, Sim.x_tOr, Sim.x_asB, Sim.x_sl, Sim.x_oNone, Sim.x_oSome, Sim.x_asI, Sim.x_trN, Sim.x_trB, Sim.x_trI, Sim.x_trL, Sim.x_trR, Sim.x_trT, Sim.x_add, Sim.x_sub, Sim.x_neg, Sim.x_lt, Sim.x_le, Sim.x_gt, Sim.x_ge, Sim.x_abs, Sim.x_max2, Sim.x_min2, Sim.x_intI, Sim.x_intB, Sim.x_eqI, Sim.x_neI, Sim.x_eqS, Sim.x_neS, Sim.x_lst, Sim.x_tup, Sim.x_frz0, Sim.x_frzP, Sim.x_lenL, Sim.x_lenT, Sim.x_lenR, Sim.x_tupleL, Sim.x_listL, Sim.x_listT, Sim.x_slL, Sim.x_slR, Sim.x_slT, Sim.callM, Sim.arrOf, List.filterMap_cons, List.filterMap_nil, List.getElem?_cons_zero, List.getElem?_cons_succ, List.cons_append, List.nil_append, List.append_nil, List.length_cons, List.length_nil, and_self, if_true, List.set_cons_zero, List.set_cons_succ, Bool.false_eq_true, if_false, Nat.reduceAdd, Nat.reduceSub, List.map_cons, List.map_nil, List.replicate_succ, List.replicate_zero, Bool.not_true, Bool.not_false, Sim.x_sized, Nat.reduceLeDiff, Nat.zero_add]; rfl
    | true =>
      try simp -implicitDefEqProofs only [Sim.sM_pass, Sim.sM_seq, Sim.sM_asg, Sim.sM_ret, Sim.sM_expr, Sim.sM_if, Sim.sM_par, Sim.sM_asgT, Sim.sM_set, Sim.ret_bind, Sim.bind_assoc, Sim.x_var0, Sim.x_varS, Sim.x_C, Sim.x_op, Sim.x_un, Sim.x_A, Sim.x_nil, Sim.x_cons, Sim.x_call, Sim.x_and, Sim.x_or, Sim.x_not, Sim.x_if, Sim.x_tV, Sim.x_tCmp, Sim.x_tTru, Sim.x_tNot, Sim.x_tAnd, Sim.x_tOr, Sim.x_asB, Sim.x_sl, Sim.x_oNone, Sim.x_oSome, Sim.x_asI, Sim.x_trN, Sim.x_trB, Sim.x_trI, Sim.x_trL, Sim.x_trR, Sim.x_trT, Sim.x_add, Sim.x_sub, Sim.x_neg, Sim.x_lt, Sim.x_le, Sim.x_gt, Sim.x_ge, Sim.x_abs, Sim.x_max2, Sim.x_min2, Sim.x_intI, Sim.x_intB, Sim.x_eqI, Sim.x_neI, Sim.x_eqS, Sim.x_neS, Sim.x_lst, Sim.x_tup, Sim.x_frz0, Sim.x_frzP, Sim.x_lenL, Sim.x_lenT, Sim.x_lenR, Sim.x_tupleL, Sim.x_listL, Sim.x_listT, Sim.x_slL, Sim.x_slR, Sim.x_slT, Sim.callM, Sim.arrOf, List.filterMap_cons, List.filterMap_nil, List.getElem?_cons_zero, List.getElem?_cons_succ, List.cons_append, List.nil_append, List.append_nil, List.length_cons, List.length_nil, and_self, if_true, List.set_cons_zero, List.set_cons_succ, Bool.false_eq_true, if_false, Nat.reduceAdd, Nat.reduceSub, List.map_cons, List.map_nil, List.replicate_succ, List.replicate_zero, Bool.not_true, Bool.not_false, Sim.x_sized, Nat.reduceLeDiff, Nat.zero_add]
      have hc : eComp (iSeq (eVar 0)) (.nm 3) tYesM (eCall 3 0 3 [] [0, 1, 2] m_is_within (aCons (eVar 3) (aCons (eC (.int 0)) (aCons (eOp gSub (eVar 1) (eC (.int 1))) aNil))) aNil) [3] [some (.p d), some (.p (.int n)), some (.p (.int m)), none] = M.ret (.p (.lst (xs.map fun x => .bl (within x (some 0) (some (n - 1)))))) :=
        Pu.eq (comp_all (iSeq_D rfl hs) (seqV_D hs) _ hz fun x hx => ⟨[some (.p d), some (.p (.int n)), some (.p (.int m)), some (.p x)], rfl, fun st => by
          try simp -implicitDefEqProofs only [Sim.sM_pass, Sim.sM_seq, Sim.sM_asg, Sim.sM_ret, Sim.sM_expr, Sim.sM_if, Sim.sM_par, Sim.sM_asgT, Sim.sM_set, Sim.ret_bind, Sim.bind_assoc, Sim.x_var0, Sim.x_varS, Sim.x_C, Sim.x_op, Sim.x_un, Sim.x_A, Sim.x_nil, Sim.x_cons, Sim.x_call, Sim.x_and, Sim.x_or, Sim.x_not, Sim.x_if, Sim.x_tV, Sim.x_tCmp, Sim.x_tTru, Sim.x_tNot, Sim.x_tAnd, Sim.x_tOr, Sim.x_asB, Sim.x_sl, Sim.x_oNone, Sim.x_oSome, Sim.x_asI, Sim.x_trN, Sim.x_trB, Sim.x_trI, Sim.x_trL, Sim.x_trR, Sim.x_trT, Sim.x_add, Sim.x_sub, Sim.x_neg, Sim.x_lt, Sim.x_le, Sim.x_gt, Sim.x_ge, Sim.x_abs, Sim.x_max2, Sim.x_min2, Sim.x_intI, Sim.x_intB, Sim.x_eqI, Sim.x_neI, Sim.x_eqS, Sim.x_neS, Sim.x_lst, Sim.x_tup, Sim.x_frz0, Sim.x_frzP, Sim.x_lenL, Sim.x_lenT, Sim.x_lenR, Sim.x_tupleL, Sim.x_listL, Sim.x_listT, Sim.x_slL, Sim.x_slR, Sim.x_slT, Sim.callM, Sim.arrOf, List.filterMap_cons, List.filterMap_nil, List.getElem?_cons_zero, List.getElem?_cons_succ, List.cons_append, List.nil_append, List.append_nil, List.length_cons, List.length_nil, and_self, if_true, List.set_cons_zero, List.set_cons_succ, Bool.false_eq_true, if_false, Nat.reduceAdd, Nat.reduceSub, List.map_cons, List.map_nil, List.replicate_succ, List.replicate_zero, Bool.not_true, Bool.not_false, Sim.x_sized, Nat.reduceLeDiff, Nat.zero_add]
          have e := e_is_within (lo := some 0) (hi := some (n - 1)) (ht x hx)
          simp only [optD] at e
          rw [e]
          try simp -implicitDefEqProofs only [Sim.sM_pass, Sim.sM_seq, Sim.sM_asg, Sim.sM_ret, Sim.sM_expr, Sim.sM_if, Sim.sM_par, Sim.sM_asgT, Sim.sM_set, Sim.ret_bind, Sim.bind_assoc, Sim.x_var0, Sim.x_varS, Sim.x_C, Sim.x_op, Sim.x_un, Sim.x_A, Sim.x_nil, Sim.x_cons, Sim.x_call, Sim.x_and, Sim.x_or, Sim.x_not, Sim.x_if, Sim.x_tV, Sim.x_tCmp, Sim.x_tTru, Sim.x_tNot, Sim.x_tAnd, Sim.x_tOr, Sim.x_asB, Sim.x_sl, Sim.x_oNone, Sim.x_oSome, Sim.x_asI, Sim.x_trN, Sim.x_trB, Sim.x_trI, Sim.x_trL, Sim.x_trR, Sim.x_trT, Sim.x_add, Sim.x_sub, Sim.x_neg, Sim.x_lt, Sim.x_le, Sim.x_gt, Sim.x_ge, Sim.x_abs, Sim.x_max2, Sim.x_min2, Sim.x_intI, Sim.x_intB, Sim.x_eqI, Sim.x_neI, Sim.x_eqS, Sim.x_neS, Sim.x_lst, Sim.x_tup, Sim.x_frz0, Sim.x_frzP, Sim.x_lenL, Sim.x_lenT, Sim.x_lenR, Sim.x_tupleL, Sim.x_listL, Sim.x_listT, Sim.x_slL, Sim.x_slR, Sim.x_slT, Sim.callM, Sim.arrOf, List.filterMap_cons, List.filterMap_nil, List.getElem?_cons_zero, List.getElem?_cons_succ, List.cons_append, List.nil_append, List.append_nil, List.length_cons, List.length_nil, and_self, if_true, List.set_cons_zero, List.set_cons_succ, Bool.false_eq_true, if_false, Nat.reduceAdd, Nat.reduceSub, List.map_cons, List.map_nil, List.replicate_succ, List.replicate_zero, Bool.not_true, Bool.not_false, Sim.x_sized, Nat.reduceLeDiff, Nat.zero_add]
          rfl⟩)
      rw [hc]
      try simp -implicitDefEqProofs only [Sim.sM_pass, Sim.sM_seq, Sim.sM_asg, Sim.sM_ret, Sim.sM_expr, Sim.sM_if, Sim.sM_par, Sim.sM_asgT, Sim.sM_set, Sim.ret_bind, Sim.bind_assoc, Sim.x_var0, Sim.x_varS, Sim.x_C, Sim.x_op, Sim.x_un, Sim.x_A, Sim.x_nil, Sim.x_cons, Sim.x_call, Sim.x_and, Sim.x_or, Sim.x_not, Sim.x_if, Sim.x_tV, Sim.x_tCmp, Sim.x_tTru, Sim.x_tNot, Sim.x_tAnd, Sim.x_tOr, Sim.x_asB, Sim.x_sl, Sim.x_oNone, Sim.x_oSome, Sim.x_asI, Sim.x_trN, Sim.x_trB, Sim.x_trI, Sim.x_trL, Sim.x_trR, Sim.x_trT, Sim.x_add, Sim.x_sub, Sim.x_neg, Sim.x_lt, Sim.x_le, Sim.x_gt, Sim.x_ge, Sim.x_abs, Sim.x_max2, Sim.x_min2, Sim.x_intI, Sim.x_intB, Sim.x_eqI, Sim.x_neI, Sim.x_eqS, Sim.x_neS, Sim.x_lst, Sim.x_tup, Sim.x_frz0, Sim.x_frzP, Sim.x_lenL, Sim.x_lenT, Sim.x_lenR, Sim.x_tupleL, Sim.x_listL, Sim.x_listT, Sim.x_slL, Sim.x_slR, Sim.x_slT, Sim.callM, Sim.arrOf, List.filterMap_cons, List.filterMap_nil, List.getElem?_cons_zero, List.getElem?_cons_succ, List.cons_append, List.nil_append, List.append_nil, List.length_cons, List.length_nil, and_self, if_true, List.set_cons_zero, List.set_cons_succ, Bool.false_eq_true, if_false, Nat.reduceAdd, Nat.reduceSub, List.map_cons, List.map_nil, List.replicate_succ, List.replicate_zero, Bool.not_true, Bool.not_false, Sim.x_sized, Nat.reduceLeDiff, Nat.zero_add]
      have e : (xs.map fun x => D.bl (within x (some 0) (some (n - 1)))) = (xs.map fun x => within x (some 0) (some (n - 1))).map D.bl := by rw [List.map_map]; rfl
      rw [e, x_all]
      try simp -implicitDefEqProofs only [Sim.sM_pass, Sim.sM_seq, Sim.sM_asg, Sim.sM_ret, Sim.sM_expr, Sim.sM_if, Sim.sM_par, Sim.sM_asgT, Sim.sM_set, Sim.ret_bind, Sim.bind_assoc, Sim.x_var0, Sim.x_varS, Sim.x_C, Sim.x_op, Sim.x_un, Sim.x_A, Sim.x_nil, Sim.x_cons, Sim.x_call, Sim.x_and, Sim.x_or, Sim.x_not, Sim.x_if, Sim.x_tV, Sim.x_tCmp, Sim.x_tTru, Sim.x_tNot, Sim.x_tAnd, Sim.x_tOr, Sim.x_asB, Sim.x_sl, Sim.x_oNone, Sim.x_oSome, Sim.x_asI, Sim.x_trN, Sim.x_trB, Sim.x_trI, Sim.x_trL, Sim.x_trR, Sim.x_trT, Sim.x_add, Sim.x_sub, Sim.x_neg, Sim.x_lt, Sim.x_le, Sim.x_gt, Sim.x_ge, Sim.x_abs, Sim.x_max2, Sim.x_min2, Sim.x_intI, Sim.x_intB, Sim.x_eqI, Sim.x_neI, Sim.x_eqS, Sim.x_neS, Sim.x_lst, Sim.x_tup, Sim.x_frz0, Sim.x_frzP, Sim.x_lenL, Sim.x_lenT, Sim.x_lenR, Sim.x_tupleL, Sim.x_listL, Sim.x_listT, Sim.x_slL, Sim.x_slR, Sim.x_slT, Sim.callM, Sim.arrOf, List.filterMap_cons, List.filterMap_nil, List.getElem?_cons_zero, List.getElem?_cons_succ, List.cons_append, List.nil_append, List.append_nil, List.length_cons, List.length_nil, and_self, if_true, List.set_cons_zero, List.set_cons_succ, Bool.false_eq_true, if_false, Nat.reduceAdd, Nat.reduceSub, List.map_cons, List.map_nil, List.replicate_succ, List.replicate_zero, Bool.not_true, Bool.not_false, Sim.x_sized, Nat.reduceLeDiff, Nat.zero_add]
      rw [List.all_map]; rfl)
/-! the law's own -/
theorem cutD_mem {xs : List D} {lo hi : Option Int} {d : D} (h : d ∈ Sim.cutD xs lo hi) : d ∈ xs := List.mem_of_mem_drop (List.mem_of_mem_take h)
theorem cutD_len {xs : List D} {lo hi : Option Int} : (Sim.cutD xs lo hi).length ≤ xs.length := by
  unfold Sim.cutD
  rw [List.length_take, List.length_drop]; omega
theorem r_bent {row : List D} {odd : D} (hz : row.length ≤ 1000) : Rn cells k (m__law_bent [.c k, .p (.lst row), .p odd]) 2 fun v => ∃ zs, v = .p (.lst zs) ∧ odd ∈ zs ∧ zs.length ≤ 2001 ∧ ∀ x ∈ zs, x = odd ∨ x ∈ row := by
  refine Rn.fn ?_
  unfold d__law_bent
  try simp -implicitDefEqProofs only [Sim.sM_pass, Sim.sM_seq, Sim.sM_asg, Sim.sM_ret, Sim.sM_expr, Sim.sM_if, Sim.sM_par, Sim.sM_asgT, Sim.sM_set, Sim.ret_bind, Sim.bind_assoc, Sim.x_var0, Sim.x_varS, Sim.x_C, Sim.x_op, Sim.x_un, Sim.x_A, Sim.x_nil, Sim.x_cons, Sim.x_call, Sim.x_and, Sim.x_or, Sim.x_not, Sim.x_if, Sim.x_tV, Sim.x_tCmp, Sim.x_tTru, Sim.x_tNot, Sim.x_tAnd, Sim.x_tOr, Sim.x_asB, Sim.x_sl, Sim.x_oNone, Sim.x_oSome, Sim.x_asI, Sim.x_trN, Sim.x_trB, Sim.x_trI, Sim.x_trL, Sim.x_trR, Sim.x_trT, Sim.x_add, Sim.x_sub, Sim.x_neg, Sim.x_lt, Sim.x_le, Sim.x_gt, Sim.x_ge, Sim.x_abs, Sim.x_max2, Sim.x_min2, Sim.x_intI, Sim.x_intB, Sim.x_eqI, Sim.x_neI, Sim.x_eqS, Sim.x_neS, Sim.x_lst, Sim.x_tup, Sim.x_frz0, Sim.x_frzP, Sim.x_lenL, Sim.x_lenT, Sim.x_lenR, Sim.x_tupleL, Sim.x_listL, Sim.x_listT, Sim.x_slL, Sim.x_slR, Sim.x_slT, Sim.callM, Sim.arrOf, List.filterMap_cons, List.filterMap_nil, List.getElem?_cons_zero, List.getElem?_cons_succ, List.cons_append, List.nil_append, List.append_nil, List.length_cons, List.length_nil, and_self, if_true, List.set_cons_zero, List.set_cons_succ, Bool.false_eq_true, if_false, Nat.reduceAdd, Nat.reduceSub, List.map_cons, List.map_nil, List.replicate_succ, List.replicate_zero, Bool.not_true, Bool.not_false, Sim.x_sized, Nat.reduceLeDiff, Nat.zero_add]
  refine Rn.step (r_draught (by omega) (by omega)) fun v ⟨d, e, d0, d1⟩ => ?_
  subst e
  try simp -implicitDefEqProofs only [Sim.sM_pass, Sim.sM_seq, Sim.sM_asg, Sim.sM_ret, Sim.sM_expr, Sim.sM_if, Sim.sM_par, Sim.sM_asgT, Sim.sM_set, Sim.ret_bind, Sim.bind_assoc, Sim.x_var0, Sim.x_varS, Sim.x_C, Sim.x_op, Sim.x_un, Sim.x_A, Sim.x_nil, Sim.x_cons, Sim.x_call, Sim.x_and, Sim.x_or, Sim.x_not, Sim.x_if, Sim.x_tV, Sim.x_tCmp, Sim.x_tTru, Sim.x_tNot, Sim.x_tAnd, Sim.x_tOr, Sim.x_asB, Sim.x_sl, Sim.x_oNone, Sim.x_oSome, Sim.x_asI, Sim.x_trN, Sim.x_trB, Sim.x_trI, Sim.x_trL, Sim.x_trR, Sim.x_trT, Sim.x_add, Sim.x_sub, Sim.x_neg, Sim.x_lt, Sim.x_le, Sim.x_gt, Sim.x_ge, Sim.x_abs, Sim.x_max2, Sim.x_min2, Sim.x_intI, Sim.x_intB, Sim.x_eqI, Sim.x_neI, Sim.x_eqS, Sim.x_neS, Sim.x_lst, Sim.x_tup, Sim.x_frz0, Sim.x_frzP, Sim.x_lenL, Sim.x_lenT, Sim.x_lenR, Sim.x_tupleL, Sim.x_listL, Sim.x_listT, Sim.x_slL, Sim.x_slR, Sim.x_slT, Sim.callM, Sim.arrOf, List.filterMap_cons, List.filterMap_nil, List.getElem?_cons_zero, List.getElem?_cons_succ, List.cons_append, List.nil_append, List.append_nil, List.length_cons, List.length_nil, and_self, if_true, List.set_cons_zero, List.set_cons_succ, Bool.false_eq_true, if_false, Nat.reduceAdd, Nat.reduceSub, List.map_cons, List.map_nil, List.replicate_succ, List.replicate_zero, Bool.not_true, Bool.not_false, Sim.x_sized, Nat.reduceLeDiff, Nat.zero_add]
  have l1 := cutD_len (xs := row) (lo := none) (hi := some d)
  rw [x_addL (by simp; omega)]
  try simp -implicitDefEqProofs only [Sim.sM_pass, Sim.sM_seq, Sim.sM_asg, Sim.sM_ret, Sim.sM_expr, Sim.sM_if, Sim.sM_par, Sim.sM_asgT, Sim.sM_set, Sim.ret_bind, Sim.bind_assoc, Sim.x_var0, Sim.x_varS, Sim.x_C, Sim.x_op, Sim.x_un, Sim.x_A, Sim.x_nil, Sim.x_cons, Sim.x_call, Sim.x_and, Sim.x_or, Sim.x_not, Sim.x_if, Sim.x_tV, Sim.x_tCmp, Sim.x_tTru, Sim.x_tNot, Sim.x_tAnd, Sim.x_tOr, Sim.x_asB, Sim.x_sl, Sim.x_oNone, Sim.x_oSome, Sim.x_asI, Sim.x_trN, Sim.x_trB, Sim.x_trI, Sim.x_trL, Sim.x_trR, Sim.x_trT, Sim.x_add, Sim.x_sub, Sim.x_neg, Sim.x_lt, Sim.x_le, Sim.x_gt, Sim.x_ge, Sim.x_abs, Sim.x_max2, Sim.x_min2, Sim.x_intI, Sim.x_intB, Sim.x_eqI, Sim.x_neI, Sim.x_eqS, Sim.x_neS, Sim.x_lst, Sim.x_tup, Sim.x_frz0, Sim.x_frzP, Sim.x_lenL, Sim.x_lenT, Sim.x_lenR, Sim.x_tupleL, Sim.x_listL, Sim.x_listT, Sim.x_slL, Sim.x_slR, Sim.x_slT, Sim.callM, Sim.arrOf, List.filterMap_cons, List.filterMap_nil, List.getElem?_cons_zero, List.getElem?_cons_succ, List.cons_append, List.nil_append, List.append_nil, List.length_cons, List.length_nil, and_self, if_true, List.set_cons_zero, List.set_cons_succ, Bool.false_eq_true, if_false, Nat.reduceAdd, Nat.reduceSub, List.map_cons, List.map_nil, List.replicate_succ, List.replicate_zero, Bool.not_true, Bool.not_false, Sim.x_sized, Nat.reduceLeDiff, Nat.zero_add]
  refine Rn.step (r_draught (by omega) (by omega)) fun v ⟨d2, e, _, _⟩ => ?_
  subst e
  try simp -implicitDefEqProofs only [Sim.sM_pass, Sim.sM_seq, Sim.sM_asg, Sim.sM_ret, Sim.sM_expr, Sim.sM_if, Sim.sM_par, Sim.sM_asgT, Sim.sM_set, Sim.ret_bind, Sim.bind_assoc, Sim.x_var0, Sim.x_varS, Sim.x_C, Sim.x_op, Sim.x_un, Sim.x_A, Sim.x_nil, Sim.x_cons, Sim.x_call, Sim.x_and, Sim.x_or, Sim.x_not, Sim.x_if, Sim.x_tV, Sim.x_tCmp, Sim.x_tTru, Sim.x_tNot, Sim.x_tAnd, Sim.x_tOr, Sim.x_asB, Sim.x_sl, Sim.x_oNone, Sim.x_oSome, Sim.x_asI, Sim.x_trN, Sim.x_trB, Sim.x_trI, Sim.x_trL, Sim.x_trR, Sim.x_trT, Sim.x_add, Sim.x_sub, Sim.x_neg, Sim.x_lt, Sim.x_le, Sim.x_gt, Sim.x_ge, Sim.x_abs, Sim.x_max2, Sim.x_min2, Sim.x_intI, Sim.x_intB, Sim.x_eqI, Sim.x_neI, Sim.x_eqS, Sim.x_neS, Sim.x_lst, Sim.x_tup, Sim.x_frz0, Sim.x_frzP, Sim.x_lenL, Sim.x_lenT, Sim.x_lenR, Sim.x_tupleL, Sim.x_listL, Sim.x_listT, Sim.x_slL, Sim.x_slR, Sim.x_slT, Sim.callM, Sim.arrOf, List.filterMap_cons, List.filterMap_nil, List.getElem?_cons_zero, List.getElem?_cons_succ, List.cons_append, List.nil_append, List.append_nil, List.length_cons, List.length_nil, and_self, if_true, List.set_cons_zero, List.set_cons_succ, Bool.false_eq_true, if_false, Nat.reduceAdd, Nat.reduceSub, List.map_cons, List.map_nil, List.replicate_succ, List.replicate_zero, Bool.not_true, Bool.not_false, Sim.x_sized, Nat.reduceLeDiff, Nat.zero_add]
  have l2 := cutD_len (xs := row) (lo := some (d + d2)) (hi := none)
  rw [x_addL (by simp; omega)]
  try simp -implicitDefEqProofs only [Sim.sM_pass, Sim.sM_seq, Sim.sM_asg, Sim.sM_ret, Sim.sM_expr, Sim.sM_if, Sim.sM_par, Sim.sM_asgT, Sim.sM_set, Sim.ret_bind, Sim.bind_assoc, Sim.x_var0, Sim.x_varS, Sim.x_C, Sim.x_op, Sim.x_un, Sim.x_A, Sim.x_nil, Sim.x_cons, Sim.x_call, Sim.x_and, Sim.x_or, Sim.x_not, Sim.x_if, Sim.x_tV, Sim.x_tCmp, Sim.x_tTru, Sim.x_tNot, Sim.x_tAnd, Sim.x_tOr, Sim.x_asB, Sim.x_sl, Sim.x_oNone, Sim.x_oSome, Sim.x_asI, Sim.x_trN, Sim.x_trB, Sim.x_trI, Sim.x_trL, Sim.x_trR, Sim.x_trT, Sim.x_add, Sim.x_sub, Sim.x_neg, Sim.x_lt, Sim.x_le, Sim.x_gt, Sim.x_ge, Sim.x_abs, Sim.x_max2, Sim.x_min2, Sim.x_intI, Sim.x_intB, Sim.x_eqI, Sim.x_neI, Sim.x_eqS, Sim.x_neS, Sim.x_lst, Sim.x_tup, Sim.x_frz0, Sim.x_frzP, Sim.x_lenL, Sim.x_lenT, Sim.x_lenR, Sim.x_tupleL, Sim.x_listL, Sim.x_listT, Sim.x_slL, Sim.x_slR, Sim.x_slT, Sim.callM, Sim.arrOf, List.filterMap_cons, List.filterMap_nil, List.getElem?_cons_zero, List.getElem?_cons_succ, List.cons_append, List.nil_append, List.append_nil, List.length_cons, List.length_nil, and_self, if_true, List.set_cons_zero, List.set_cons_succ, Bool.false_eq_true, if_false, Nat.reduceAdd, Nat.reduceSub, List.map_cons, List.map_nil, List.replicate_succ, List.replicate_zero, Bool.not_true, Bool.not_false, Sim.x_sized, Nat.reduceLeDiff, Nat.zero_add]
  refine Rn.ret ⟨⟨_, rfl⟩, _, rfl, by simp, by simp; omega, fun x hx => ?_⟩
  simp only [List.mem_append, List.mem_singleton] at hx
  rcases hx with (hx | hx) | hx
  · exact .inr (cutD_mem hx)
  · exact .inl hx
  · exact .inr (cutD_mem hx)
/-- an odd thing: no int, good -/
theorem r_odd : Rn cells k (m__law_odd [.c k]) 1 fun v => ∃ d, v = .p d ∧ isIntD d = false ∧ tyN d ≠ none := by
  refine Rn.fn ?_
  unfold d__law_odd
  have hd : ∀ ev, eDict0 ev = M.ret (.p (.dic [])) := fun _ => rfl
  try simp -implicitDefEqProofs only [hd, Sim.sM_pass, Sim.sM_seq, Sim.sM_asg, Sim.sM_ret, Sim.sM_expr, Sim.sM_if, Sim.sM_par, Sim.sM_asgT, Sim.sM_set, Sim.ret_bind, Sim.bind_assoc, Sim.x_var0, Sim.x_varS, Sim.x_C, Sim.x_op, Sim.x_un, Sim.x_A, Sim.x_nil, Sim.x_cons, Sim.x_call, Sim.x_and, Sim.x_or, Sim.x_not, Sim.x_if, Sim.x_tV, Sim.x_tCmp, Sim.x_tTru, Sim.x_tNot, Sim.x_tAnd, Sim.x_tOr, Sim.x_asB, Sim.x_sl, Sim.x_oNone, Sim.x_oSome, Sim.x_asI, Sim.x_trN, Sim.x_trB, Sim.x_trI, Sim.x_trL, Sim.x_trR, Sim.x_trT, Sim.x_add, Sim.x_sub, Sim.x_neg, Sim.x_lt, Sim.x_le, Sim.x_gt, Sim.x_ge, Sim.x_abs, Sim.x_max2, Sim.x_min2, Sim.x_intI, Sim.x_intB, Sim.x_eqI, Sim.x_neI, Sim.x_eqS, Sim.x_neS, Sim.x_lst, Sim.x_tup, Sim.x_frz0, Sim.x_frzP, Sim.x_lenL, Sim.x_lenT, Sim.x_lenR, Sim.x_tupleL, Sim.x_listL, Sim.x_listT, Sim.x_slL, Sim.x_slR, Sim.x_slT, Sim.callM, Sim.arrOf, List.filterMap_cons, List.filterMap_nil, List.getElem?_cons_zero, List.getElem?_cons_succ, List.cons_append, List.nil_append, List.append_nil, List.length_cons, List.length_nil, and_self, if_true, List.set_cons_zero, List.set_cons_succ, Bool.false_eq_true, if_false, Nat.reduceAdd, Nat.reduceSub, List.map_cons, List.map_nil, List.replicate_succ, List.replicate_zero, Bool.not_true, Bool.not_false, Sim.x_sized, Nat.reduceLeDiff, Nat.zero_add]
  refine Rn.step (r_cupful (by simp) (by simp)) fun v ⟨d, e, hd⟩ => ?_
  subst e
  refine Rn.ret ⟨⟨_, rfl⟩, d, rfl, ?_⟩
  simp only [List.mem_cons, List.not_mem_nil, or_false] at hd
  rcases hd with rfl | rfl | rfl | rfl | rfl | rfl | rfl | rfl <;> exact ⟨rfl, by simp [tyN]⟩
theorem eDict_ret {ps : List (ME × ME)} {ev : Ev} {kvs : List (Key × D)} (h : pairsM ps ev = M.ret kvs) (hl : kvs.length ≤ 15) : eDict ps ev = M.ret (.p (.dic (mergeD [] kvs))) := by
  funext st
  show (match pairsM ps ev (st ++ [.dic []]) with | .ok kvs st' => (match st'[st.length]? with | some (.dic []) => if kvs.length ≤ 15 then Res.ok (Vl.p (.dic (mergeD [] kvs))) (st'.take st.length) else .stuck | _ => .stuck) | .exn e st' => .exn e (st'.take st.length) | .stuck => .stuck) = _
  rw [h]
  show (match (st ++ [Cell.dic []])[st.length]? with | some (.dic []) => if kvs.length ≤ 15 then Res.ok (Vl.p (.dic (mergeD [] kvs))) ((st ++ [Cell.dic []]).take st.length) else .stuck | _ => .stuck) = _
  have g : (st ++ [Cell.dic []])[st.length]? = some (.dic []) := by simp
  have g2 : (st ++ [Cell.dic []]).take st.length = st := by simp
  rw [g, g2]
  simp only [if_pos hl]
  rfl
theorem pairsM_cons {mk mv : ME} {r : List (ME × ME)} {ev : Ev} {d x : D} {key : Key} {ps : List (Key × D)} (h1 : mk ev = M.ret (.p d)) (h2 : asKey d = some key) (h3 : mv ev = M.ret (.p x)) (h4 : pairsM r ev = M.ret ps) : pairsM ((mk, mv) :: r) ev = M.ret ((key, x) :: ps) := by
  funext st
  show ((mk ev).bind fun kd => (mv ev).bind fun vd => fun st => match kd with | .p d => (match asKey d with | some k => (match frz1 vd st with | some (x, st1) => ((pairsM r ev).bind fun ps st2 => .ok ((k, x) :: ps) st2) st1 | none => .stuck) | none => .stuck) | _ => .stuck) st = _
  rw [h1, ret_bind, h3, ret_bind]
  simp only [h2, frz1, h4]
  rfl
theorem log2_lt_of {n k : Nat} (h : n < 2 ^ k) (hk : 0 < k) : n.log2 < k := by
  by_cases h0 : n = 0
  · subst h0; simpa using hk
  · exact (Nat.log2_lt h0).mpr h
theorem x_str {i : Int} (h : i.natAbs < 2 ^ 200) : M.of (gStr [.p (.int i)]) = M.ret (.p (.str (toString i))) := of_some fun st => by
  have := log2_lt_of h (by omega)
  simp only [gStr]
  rw [if_pos (by omega)]
theorem r_value : Rn cells k (m__law_value [.c k]) 5 fun v => ∃ d, v = .p d ∧ tyN d ≠ none := by
  refine Rn.fn ?_
  unfold d__law_value
  have h20 : M.of (gPow (.p (.int 10)) (.p (.int 20))) = M.ret (.p (.int (10 ^ 20))) := x_pow (by decide)
  try simp -implicitDefEqProofs only [Sim.sM_pass, Sim.sM_seq, Sim.sM_asg, Sim.sM_ret, Sim.sM_expr, Sim.sM_if, Sim.sM_par, Sim.sM_asgT, Sim.sM_set, Sim.ret_bind, Sim.bind_assoc, Sim.x_var0, Sim.x_varS, Sim.x_C, Sim.x_op, Sim.x_un, Sim.x_A, Sim.x_nil, Sim.x_cons, Sim.x_call, Sim.x_and, Sim.x_or, Sim.x_not, Sim.x_if, Sim.x_tV, Sim.x_tCmp, Sim.x_tTru, Sim.x_tNot, Sim.x_tAnd, Sim.x_tOr, Sim.x_asB, Sim.x_sl, Sim.x_oNone, Sim.x_oSome, Sim.x_asI, Sim.x_trN, Sim.x_trB, Sim.x_trI, Sim.x_trL, Sim.x_trR, Sim.x_trT, Sim.x_add, Sim.x_sub, Sim.x_neg, Sim.x_lt, Sim.x_le, Sim.x_gt, Sim.x_ge, Sim.x_abs, Sim.x_max2, Sim.x_min2, Sim.x_intI, Sim.x_intB, Sim.x_eqI, Sim.x_neI, Sim.x_eqS, Sim.x_neS, Sim.x_lst, Sim.x_tup, Sim.x_frz0, Sim.x_frzP, Sim.x_lenL, Sim.x_lenT, Sim.x_lenR, Sim.x_tupleL, Sim.x_listL, Sim.x_listT, Sim.x_slL, Sim.x_slR, Sim.x_slT, Sim.callM, Sim.arrOf, List.filterMap_cons, List.filterMap_nil, List.getElem?_cons_zero, List.getElem?_cons_succ, List.cons_append, List.nil_append, List.append_nil, List.length_cons, List.length_nil, and_self, if_true, List.set_cons_zero, List.set_cons_succ, Bool.false_eq_true, if_false, Nat.reduceAdd, Nat.reduceSub, List.map_cons, List.map_nil, List.replicate_succ, List.replicate_zero, Bool.not_true, Bool.not_false, Sim.x_sized, Nat.reduceLeDiff, Nat.zero_add]
  refine Rn.step (r_draught (by decide) (by decide)) fun v ⟨d1, e, a1, a2⟩ => ?_
  subst e
  try simp -implicitDefEqProofs only [h20, Sim.sM_pass, Sim.sM_seq, Sim.sM_asg, Sim.sM_ret, Sim.sM_expr, Sim.sM_if, Sim.sM_par, Sim.sM_asgT, Sim.sM_set, Sim.ret_bind, Sim.bind_assoc, Sim.x_var0, Sim.x_varS, Sim.x_C, Sim.x_op, Sim.x_un, Sim.x_A, Sim.x_nil, Sim.x_cons, Sim.x_call, Sim.x_and, Sim.x_or, Sim.x_not, Sim.x_if, Sim.x_tV, Sim.x_tCmp, Sim.x_tTru, Sim.x_tNot, Sim.x_tAnd, Sim.x_tOr, Sim.x_asB, Sim.x_sl, Sim.x_oNone, Sim.x_oSome, Sim.x_asI, Sim.x_trN, Sim.x_trB, Sim.x_trI, Sim.x_trL, Sim.x_trR, Sim.x_trT, Sim.x_add, Sim.x_sub, Sim.x_neg, Sim.x_lt, Sim.x_le, Sim.x_gt, Sim.x_ge, Sim.x_abs, Sim.x_max2, Sim.x_min2, Sim.x_intI, Sim.x_intB, Sim.x_eqI, Sim.x_neI, Sim.x_eqS, Sim.x_neS, Sim.x_lst, Sim.x_tup, Sim.x_frz0, Sim.x_frzP, Sim.x_lenL, Sim.x_lenT, Sim.x_lenR, Sim.x_tupleL, Sim.x_listL, Sim.x_listT, Sim.x_slL, Sim.x_slR, Sim.x_slT, Sim.callM, Sim.arrOf, List.filterMap_cons, List.filterMap_nil, List.getElem?_cons_zero, List.getElem?_cons_succ, List.cons_append, List.nil_append, List.append_nil, List.length_cons, List.length_nil, and_self, if_true, List.set_cons_zero, List.set_cons_succ, Bool.false_eq_true, if_false, Nat.reduceAdd, Nat.reduceSub, List.map_cons, List.map_nil, List.replicate_succ, List.replicate_zero, Bool.not_true, Bool.not_false, Sim.x_sized, Nat.reduceLeDiff, Nat.zero_add]
  refine Rn.step (r_draught (by decide) (by decide)) fun v ⟨d2, e, b1, b2⟩ => ?_
  subst e
  try simp -implicitDefEqProofs only [Sim.sM_pass, Sim.sM_seq, Sim.sM_asg, Sim.sM_ret, Sim.sM_expr, Sim.sM_if, Sim.sM_par, Sim.sM_asgT, Sim.sM_set, Sim.ret_bind, Sim.bind_assoc, Sim.x_var0, Sim.x_varS, Sim.x_C, Sim.x_op, Sim.x_un, Sim.x_A, Sim.x_nil, Sim.x_cons, Sim.x_call, Sim.x_and, Sim.x_or, Sim.x_not, Sim.x_if, Sim.x_tV, Sim.x_tCmp, Sim.x_tTru, Sim.x_tNot, Sim.x_tAnd, Sim.x_tOr, Sim.x_asB, Sim.x_sl, Sim.x_oNone, Sim.x_oSome, Sim.x_asI, Sim.x_trN, Sim.x_trB, Sim.x_trI, Sim.x_trL, Sim.x_trR, Sim.x_trT, Sim.x_add, Sim.x_sub, Sim.x_neg, Sim.x_lt, Sim.x_le, Sim.x_gt, Sim.x_ge, Sim.x_abs, Sim.x_max2, Sim.x_min2, Sim.x_intI, Sim.x_intB, Sim.x_eqI, Sim.x_neI, Sim.x_eqS, Sim.x_neS, Sim.x_lst, Sim.x_tup, Sim.x_frz0, Sim.x_frzP, Sim.x_lenL, Sim.x_lenT, Sim.x_lenR, Sim.x_tupleL, Sim.x_listL, Sim.x_listT, Sim.x_slL, Sim.x_slR, Sim.x_slT, Sim.callM, Sim.arrOf, List.filterMap_cons, List.filterMap_nil, List.getElem?_cons_zero, List.getElem?_cons_succ, List.cons_append, List.nil_append, List.append_nil, List.length_cons, List.length_nil, and_self, if_true, List.set_cons_zero, List.set_cons_succ, Bool.false_eq_true, if_false, Nat.reduceAdd, Nat.reduceSub, List.map_cons, List.map_nil, List.replicate_succ, List.replicate_zero, Bool.not_true, Bool.not_false, Sim.x_sized, Nat.reduceLeDiff, Nat.zero_add]
  refine Rn.step (r_draught (by decide) (by decide)) fun v ⟨d3, e, c1, c2⟩ => ?_
  subst e
  try simp -implicitDefEqProofs only [Sim.sM_pass, Sim.sM_seq, Sim.sM_asg, Sim.sM_ret, Sim.sM_expr, Sim.sM_if, Sim.sM_par, Sim.sM_asgT, Sim.sM_set, Sim.ret_bind, Sim.bind_assoc, Sim.x_var0, Sim.x_varS, Sim.x_C, Sim.x_op, Sim.x_un, Sim.x_A, Sim.x_nil, Sim.x_cons, Sim.x_call, Sim.x_and, Sim.x_or, Sim.x_not, Sim.x_if, Sim.x_tV, Sim.x_tCmp, Sim.x_tTru, Sim.x_tNot, Sim.x_tAnd, Sim.x_tOr, Sim.x_asB, Sim.x_sl, Sim.x_oNone, Sim.x_oSome, Sim.x_asI, Sim.x_trN, Sim.x_trB, Sim.x_trI, Sim.x_trL, Sim.x_trR, Sim.x_trT, Sim.x_add, Sim.x_sub, Sim.x_neg, Sim.x_lt, Sim.x_le, Sim.x_gt, Sim.x_ge, Sim.x_abs, Sim.x_max2, Sim.x_min2, Sim.x_intI, Sim.x_intB, Sim.x_eqI, Sim.x_neI, Sim.x_eqS, Sim.x_neS, Sim.x_lst, Sim.x_tup, Sim.x_frz0, Sim.x_frzP, Sim.x_lenL, Sim.x_lenT, Sim.x_lenR, Sim.x_tupleL, Sim.x_listL, Sim.x_listT, Sim.x_slL, Sim.x_slR, Sim.x_slT, Sim.callM, Sim.arrOf, List.filterMap_cons, List.filterMap_nil, List.getElem?_cons_zero, List.getElem?_cons_succ, List.cons_append, List.nil_append, List.append_nil, List.length_cons, List.length_nil, and_self, if_true, List.set_cons_zero, List.set_cons_succ, Bool.false_eq_true, if_false, Nat.reduceAdd, Nat.reduceSub, List.map_cons, List.map_nil, List.replicate_succ, List.replicate_zero, Bool.not_true, Bool.not_false, Sim.x_sized, Nat.reduceLeDiff, Nat.zero_add]
  refine Rn.step (r_cupful (by simp) (by simp)) fun v ⟨d, e, hd⟩ => ?_
  subst e
  obtain ⟨i, rfl, hi⟩ : ∃ i, d = .int i ∧ i.natAbs < 2 ^ 70 := by
    simp only [List.mem_cons, List.not_mem_nil, or_false] at hd
    rcases hd with rfl | rfl | rfl
    · exact ⟨_, rfl, by omega⟩
    · exact ⟨_, rfl, by omega⟩
    · exact ⟨_, rfl, by omega⟩
  have hs : M.of (gStr [.p (.int i)]) = M.ret (.p (.str (toString i))) := x_str (Nat.lt_of_lt_of_le hi (Nat.pow_le_pow_right (by decide) (by decide)))
  have hdi : eDict [((eVar 1), (eA gLst (aCons (eVar 1) aNil)))] [some (.c k), some (.p (.int i)), none] = M.ret (.p (.dic [(.inl i, .lst [.int i])])) := by
    have h1 : eA gLst (aCons (eVar 1) aNil) [some (.c k), some (.p (.int i)), none] = M.ret (.p (.lst [.int i])) := by try simp -implicitDefEqProofs only [Sim.sM_pass, Sim.sM_seq, Sim.sM_asg, Sim.sM_ret, Sim.sM_expr, Sim.sM_if, Sim.sM_par, Sim.sM_asgT, Sim.sM_set, Sim.ret_bind, Sim.bind_assoc, Sim.x_var0, Sim.x_varS, Sim.x_C, Sim.x_op, Sim.x_un, Sim.x_A, Sim.x_nil, Sim.x_cons, Sim.x_call, Sim.x_and, Sim.x_or, Sim.x_not, Sim.x_if, Sim.x_tV, Sim.x_tCmp, Sim.x_tTru, Sim.x_tNot, Sim.x_tAnd, Sim.x_tOr, Sim.x_asB, Sim.x_sl, Sim.x_oNone, Sim.x_oSome, Sim.x_asI, Sim.x_trN, Sim.x_trB, Sim.x_trI, Sim.x_trL, Sim.x_trR, Sim.x_trT, Sim.x_add, Sim.x_sub, Sim.x_neg, Sim.x_lt, Sim.x_le, Sim.x_gt, Sim.x_ge, Sim.x_abs, Sim.x_max2, Sim.x_min2, Sim.x_intI, Sim.x_intB, Sim.x_eqI, Sim.x_neI, Sim.x_eqS, Sim.x_neS, Sim.x_lst, Sim.x_tup, Sim.x_frz0, Sim.x_frzP, Sim.x_lenL, Sim.x_lenT, Sim.x_lenR, Sim.x_tupleL, Sim.x_listL, Sim.x_listT, Sim.x_slL, Sim.x_slR, Sim.x_slT, Sim.callM, Sim.arrOf, List.filterMap_cons, List.filterMap_nil, List.getElem?_cons_zero, List.getElem?_cons_succ, List.cons_append, List.nil_append, List.append_nil, List.length_cons, List.length_nil, and_self, if_true, List.set_cons_zero, List.set_cons_succ, Bool.false_eq_true, if_false, Nat.reduceAdd, Nat.reduceSub, List.map_cons, List.map_nil, List.replicate_succ, List.replicate_zero, Bool.not_true, Bool.not_false, Sim.x_sized, Nat.reduceLeDiff, Nat.zero_add]
    have h2 : pairsM [((eVar 1), (eA gLst (aCons (eVar 1) aNil)))] [some (.c k), some (.p (.int i)), none] = M.ret [(.inl i, .lst [.int i])] := pairsM_cons (d := .int i) rfl rfl h1 rfl
    exact eDict_ret h2 (by simp)
  try simp -implicitDefEqProofs only [hs, hdi, Sim.sM_pass, Sim.sM_seq, Sim.sM_asg, Sim.sM_ret, Sim.sM_expr, Sim.sM_if, Sim.sM_par, Sim.sM_asgT, Sim.sM_set, Sim.ret_bind, Sim.bind_assoc, Sim.x_var0, Sim.x_varS, Sim.x_C, Sim.x_op, Sim.x_un, Sim.x_A, Sim.x_nil, Sim.x_cons, Sim.x_call, Sim.x_and, Sim.x_or, Sim.x_not, Sim.x_if, Sim.x_tV, Sim.x_tCmp, Sim.x_tTru, Sim.x_tNot, Sim.x_tAnd, Sim.x_tOr, Sim.x_asB, Sim.x_sl, Sim.x_oNone, Sim.x_oSome, Sim.x_asI, Sim.x_trN, Sim.x_trB, Sim.x_trI, Sim.x_trL, Sim.x_trR, Sim.x_trT, Sim.x_add, Sim.x_sub, Sim.x_neg, Sim.x_lt, Sim.x_le, Sim.x_gt, Sim.x_ge, Sim.x_abs, Sim.x_max2, Sim.x_min2, Sim.x_intI, Sim.x_intB, Sim.x_eqI, Sim.x_neI, Sim.x_eqS, Sim.x_neS, Sim.x_lst, Sim.x_tup, Sim.x_frz0, Sim.x_frzP, Sim.x_lenL, Sim.x_lenT, Sim.x_lenR, Sim.x_tupleL, Sim.x_listL, Sim.x_listT, Sim.x_slL, Sim.x_slR, Sim.x_slT, Sim.callM, Sim.arrOf, List.filterMap_cons, List.filterMap_nil, List.getElem?_cons_zero, List.getElem?_cons_succ, List.cons_append, List.nil_append, List.append_nil, List.length_cons, List.length_nil, and_self, if_true, List.set_cons_zero, List.set_cons_succ, Bool.false_eq_true, if_false, Nat.reduceAdd, Nat.reduceSub, List.map_cons, List.map_nil, List.replicate_succ, List.replicate_zero, Bool.not_true, Bool.not_false, Sim.x_sized, Nat.reduceLeDiff, Nat.zero_add]
  refine Rn.step (r_cupful (by simp) (by simp)) fun v ⟨d, e, hd⟩ => ?_
  subst e
  refine Rn.ret ⟨⟨_, rfl⟩, d, rfl, ?_⟩
  simp only [List.mem_cons, List.not_mem_nil, or_false] at hd
  rcases hd with rfl | rfl | rfl | rfl | rfl | rfl | rfl | rfl | rfl | rfl | rfl | rfl | rfl | rfl <;> simp [tyN]
theorem x_rng1 {j : Int} (h : -(2 ^ 62) ≤ j ∧ j < 2 ^ 62) : srcR1 [.p (.int j)] = M.ret (.ints 0 j.toNat) := by
  funext st
  simp only [srcR1, if_pos h]
  rfl
theorem x_iRng1 {m : MA} {ev : Ev} : iRng1 m ev = (m ev).bind srcR1 := rfl
theorem good_of {d : D} (h1 : tyN d ≠ none) (h2 : ∀ xs, seqD d = some xs → xs.length ≤ 16777216 ∧ ∀ x ∈ xs, tyN x ≠ none) : Good d := ⟨h1, h2⟩
theorem good_lst {xs : List D} (h : xs.length ≤ 16777216) (h2 : ∀ x ∈ xs, tyN x ≠ none) : Good (.lst xs) := ⟨by simp [tyN], fun ys e => by cases e; exact ⟨h, h2⟩⟩
theorem good_tup {xs : List D} (h : xs.length ≤ 16777216) (h2 : ∀ x ∈ xs, tyN x ≠ none) : Good (.tup xs) := ⟨by simp [tyN], fun ys e => by cases e; exact ⟨h, h2⟩⟩
theorem good_str {x : Str} : Good (.str x) := ⟨by simp [tyN], fun ys e => by cases e⟩
theorem good_dic {x : List (Key × D)} : Good (.dic x) := ⟨by simp [tyN], fun ys e => by cases e⟩
theorem good_non : Good .non := ⟨by simp [tyN], fun ys e => by cases e⟩
theorem pys_bl : ∀ bs : List Bool, D.pys (bs.map D.bl) = some (bs.map PyData.bool)
  | [] => rfl
  | n :: r => by
    show (match D.py (.bl n), D.pys (r.map D.bl) with | some a, some b => some (a :: b) | _, _ => none) = _
    rw [pys_bl r]; rfl
def okR (bs : List Bool) : Bool := let e := PyData.list (bs.map .bool); e.showable && !e.hasDict && decide (e.depth ≤ 60) && decide (e.shown.length ≤ 16777216)
theorem rep_bl (bs : List Bool) (h : okR bs = true) : ∃ S, M.of (gRepr [.p (.lst (bs.map D.bl))]) = M.ret (.p (.str S)) := ⟨_, of_some fun st => by
  have e : D.py (.lst (bs.map D.bl)) = some (.list (bs.map .bool)) := by
    show (D.pys (bs.map D.bl)).map PyData.list = _
    rw [pys_bl]; rfl
  simp only [okR, Bool.and_eq_true, decide_eq_true_eq, Bool.not_eq_true'] at h
  simp only [gRepr, Vl.py, e]
  rw [if_pos ⟨h.1.1.1, h.1.1.2, h.1.2, h.2⟩]⟩
theorem r_row_right : Rn cells k (m__law_row_right [.c k]) 20 fun v => v = .p (.bl true) := by
  refine Rn.fn ?_
  unfold d__law_row_right
  try simp -implicitDefEqProofs only [Sim.sM_pass, Sim.sM_seq, Sim.sM_asg, Sim.sM_ret, Sim.sM_expr, Sim.sM_if, Sim.sM_par, Sim.sM_asgT, Sim.sM_set, Sim.ret_bind, Sim.bind_assoc, Sim.x_var0, Sim.x_varS, Sim.x_C, Sim.x_op, Sim.x_un, Sim.x_A, Sim.x_nil, Sim.x_cons, Sim.x_call, Sim.x_and, Sim.x_or, Sim.x_not, Sim.x_if, Sim.x_tV, Sim.x_tCmp, Sim.x_tTru, Sim.x_tNot, Sim.x_tAnd, Sim.x_tOr, Sim.x_asB, Sim.x_sl, Sim.x_oNone, Sim.x_oSome, Sim.x_asI, Sim.x_trN, Sim.x_trB, Sim.x_trI, Sim.x_trL, Sim.x_trR, Sim.x_trT, Sim.x_add, Sim.x_sub, Sim.x_neg, Sim.x_lt, Sim.x_le, Sim.x_gt, Sim.x_ge, Sim.x_abs, Sim.x_max2, Sim.x_min2, Sim.x_intI, Sim.x_intB, Sim.x_eqI, Sim.x_neI, Sim.x_eqS, Sim.x_neS, Sim.x_lst, Sim.x_tup, Sim.x_frz0, Sim.x_frzP, Sim.x_lenL, Sim.x_lenT, Sim.x_lenR, Sim.x_tupleL, Sim.x_listL, Sim.x_listT, Sim.x_slL, Sim.x_slR, Sim.x_slT, Sim.callM, Sim.arrOf, List.filterMap_cons, List.filterMap_nil, List.getElem?_cons_zero, List.getElem?_cons_succ, List.cons_append, List.nil_append, List.append_nil, List.length_cons, List.length_nil, and_self, if_true, List.set_cons_zero, List.set_cons_succ, Bool.false_eq_true, if_false, Nat.reduceAdd, Nat.reduceSub, List.map_cons, List.map_nil, List.replicate_succ, List.replicate_zero, Bool.not_true, Bool.not_false, Sim.x_sized, Nat.reduceLeDiff, Nat.zero_add]
  refine Rn.step (r_draught (by decide) (by decide)) fun v ⟨n, e, n0, n1⟩ => ?_
  subst e
  try simp -implicitDefEqProofs only [Sim.sM_pass, Sim.sM_seq, Sim.sM_asg, Sim.sM_ret, Sim.sM_expr, Sim.sM_if, Sim.sM_par, Sim.sM_asgT, Sim.sM_set, Sim.ret_bind, Sim.bind_assoc, Sim.x_var0, Sim.x_varS, Sim.x_C, Sim.x_op, Sim.x_un, Sim.x_A, Sim.x_nil, Sim.x_cons, Sim.x_call, Sim.x_and, Sim.x_or, Sim.x_not, Sim.x_if, Sim.x_tV, Sim.x_tCmp, Sim.x_tTru, Sim.x_tNot, Sim.x_tAnd, Sim.x_tOr, Sim.x_asB, Sim.x_sl, Sim.x_oNone, Sim.x_oSome, Sim.x_asI, Sim.x_trN, Sim.x_trB, Sim.x_trI, Sim.x_trL, Sim.x_trR, Sim.x_trT, Sim.x_add, Sim.x_sub, Sim.x_neg, Sim.x_lt, Sim.x_le, Sim.x_gt, Sim.x_ge, Sim.x_abs, Sim.x_max2, Sim.x_min2, Sim.x_intI, Sim.x_intB, Sim.x_eqI, Sim.x_neI, Sim.x_eqS, Sim.x_neS, Sim.x_lst, Sim.x_tup, Sim.x_frz0, Sim.x_frzP, Sim.x_lenL, Sim.x_lenT, Sim.x_lenR, Sim.x_tupleL, Sim.x_listL, Sim.x_listT, Sim.x_slL, Sim.x_slR, Sim.x_slT, Sim.callM, Sim.arrOf, List.filterMap_cons, List.filterMap_nil, List.getElem?_cons_zero, List.getElem?_cons_succ, List.cons_append, List.nil_append, List.append_nil, List.length_cons, List.length_nil, and_self, if_true, List.set_cons_zero, List.set_cons_succ, Bool.false_eq_true, if_false, Nat.reduceAdd, Nat.reduceSub, List.map_cons, List.map_nil, List.replicate_succ, List.replicate_zero, Bool.not_true, Bool.not_false, Sim.x_sized, Nat.reduceLeDiff, Nat.zero_add]
  have h50 : M.of (gPow (.p (.int 10)) (.p (.int 50))) = M.ret (.p (.int (10 ^ 50))) := x_pow (by decide)
  have h21 : M.of (gPow (.p (.int 10)) (.p (.int 21))) = M.ret (.p (.int (10 ^ 21))) := x_pow (by decide)
  refine Rn.step (c := 12) (Rn.imp (Rn.comp (n := n.toNat) (src := .ints 0 n.toNat) (item := fun i => .int (0 + (i : Nat))) (P := fun _ d => isIntD d = true ∧ tyN d ≠ none) (c := 2) ?_ (fun i st => rfl) (by omega) fun i hi => ⟨[some (.c k), some (.p (.int n)), none, some (.p (.int (0 + (i : Nat)))), none, none], rfl, ?_⟩) (by omega) fun a ha => ha) fun v ⟨row, e, rl, rP⟩ => ?_
  · intro st
    rw [x_iRng1]
    try simp -implicitDefEqProofs only [Sim.sM_pass, Sim.sM_seq, Sim.sM_asg, Sim.sM_ret, Sim.sM_expr, Sim.sM_if, Sim.sM_par, Sim.sM_asgT, Sim.sM_set, Sim.ret_bind, Sim.bind_assoc, Sim.x_var0, Sim.x_varS, Sim.x_C, Sim.x_op, Sim.x_un, Sim.x_A, Sim.x_nil, Sim.x_cons, Sim.x_call, Sim.x_and, Sim.x_or, Sim.x_not, Sim.x_if, Sim.x_tV, Sim.x_tCmp, Sim.x_tTru, Sim.x_tNot, Sim.x_tAnd, Sim.x_tOr, Sim.x_asB, Sim.x_sl, Sim.x_oNone, Sim.x_oSome, Sim.x_asI, Sim.x_trN, Sim.x_trB, Sim.x_trI, Sim.x_trL, Sim.x_trR, Sim.x_trT, Sim.x_add, Sim.x_sub, Sim.x_neg, Sim.x_lt, Sim.x_le, Sim.x_gt, Sim.x_ge, Sim.x_abs, Sim.x_max2, Sim.x_min2, Sim.x_intI, Sim.x_intB, Sim.x_eqI, Sim.x_neI, Sim.x_eqS, Sim.x_neS, Sim.x_lst, Sim.x_tup, Sim.x_frz0, Sim.x_frzP, Sim.x_lenL, Sim.x_lenT, Sim.x_lenR, Sim.x_tupleL, Sim.x_listL, Sim.x_listT, Sim.x_slL, Sim.x_slR, Sim.x_slT, Sim.callM, Sim.arrOf, List.filterMap_cons, List.filterMap_nil, List.getElem?_cons_zero, List.getElem?_cons_succ, List.cons_append, List.nil_append, List.append_nil, List.length_cons, List.length_nil, and_self, if_true, List.set_cons_zero, List.set_cons_succ, Bool.false_eq_true, if_false, Nat.reduceAdd, Nat.reduceSub, List.map_cons, List.map_nil, List.replicate_succ, List.replicate_zero, Bool.not_true, Bool.not_false, Sim.x_sized, Nat.reduceLeDiff, Nat.zero_add]
    rw [x_rng1 (by omega)]
    rfl
  · try simp -implicitDefEqProofs only [Sim.sM_pass, Sim.sM_seq, Sim.sM_asg, Sim.sM_ret, Sim.sM_expr, Sim.sM_if, Sim.sM_par, Sim.sM_asgT, Sim.sM_set, Sim.ret_bind, Sim.bind_assoc, Sim.x_var0, Sim.x_varS, Sim.x_C, Sim.x_op, Sim.x_un, Sim.x_A, Sim.x_nil, Sim.x_cons, Sim.x_call, Sim.x_and, Sim.x_or, Sim.x_not, Sim.x_if, Sim.x_tV, Sim.x_tCmp, Sim.x_tTru, Sim.x_tNot, Sim.x_tAnd, Sim.x_tOr, Sim.x_asB, Sim.x_sl, Sim.x_oNone, Sim.x_oSome, Sim.x_asI, Sim.x_trN, Sim.x_trB, Sim.x_trI, Sim.x_trL, Sim.x_trR, Sim.x_trT, Sim.x_add, Sim.x_sub, Sim.x_neg, Sim.x_lt, Sim.x_le, Sim.x_gt, Sim.x_ge, Sim.x_abs, Sim.x_max2, Sim.x_min2, Sim.x_intI, Sim.x_intB, Sim.x_eqI, Sim.x_neI, Sim.x_eqS, Sim.x_neS, Sim.x_lst, Sim.x_tup, Sim.x_frz0, Sim.x_frzP, Sim.x_lenL, Sim.x_lenT, Sim.x_lenR, Sim.x_tupleL, Sim.x_listL, Sim.x_listT, Sim.x_slL, Sim.x_slR, Sim.x_slT, Sim.callM, Sim.arrOf, List.filterMap_cons, List.filterMap_nil, List.getElem?_cons_zero, List.getElem?_cons_succ, List.cons_append, List.nil_append, List.append_nil, List.length_cons, List.length_nil, and_self, if_true, List.set_cons_zero, List.set_cons_succ, Bool.false_eq_true, if_false, Nat.reduceAdd, Nat.reduceSub, List.map_cons, List.map_nil, List.replicate_succ, List.replicate_zero, Bool.not_true, Bool.not_false, Sim.x_sized, Nat.reduceLeDiff, Nat.zero_add]
    try simp -implicitDefEqProofs only [h50, h21, Sim.sM_pass, Sim.sM_seq, Sim.sM_asg, Sim.sM_ret, Sim.sM_expr, Sim.sM_if, Sim.sM_par, Sim.sM_asgT, Sim.sM_set, Sim.ret_bind, Sim.bind_assoc, Sim.x_var0, Sim.x_varS, Sim.x_C, Sim.x_op, Sim.x_un, Sim.x_A, Sim.x_nil, Sim.x_cons, Sim.x_call, Sim.x_and, Sim.x_or, Sim.x_not, Sim.x_if, Sim.x_tV, Sim.x_tCmp, Sim.x_tTru, Sim.x_tNot, Sim.x_tAnd, Sim.x_tOr, Sim.x_asB, Sim.x_sl, Sim.x_oNone, Sim.x_oSome, Sim.x_asI, Sim.x_trN, Sim.x_trB, Sim.x_trI, Sim.x_trL, Sim.x_trR, Sim.x_trT, Sim.x_add, Sim.x_sub, Sim.x_neg, Sim.x_lt, Sim.x_le, Sim.x_gt, Sim.x_ge, Sim.x_abs, Sim.x_max2, Sim.x_min2, Sim.x_intI, Sim.x_intB, Sim.x_eqI, Sim.x_neI, Sim.x_eqS, Sim.x_neS, Sim.x_lst, Sim.x_tup, Sim.x_frz0, Sim.x_frzP, Sim.x_lenL, Sim.x_lenT, Sim.x_lenR, Sim.x_tupleL, Sim.x_listL, Sim.x_listT, Sim.x_slL, Sim.x_slR, Sim.x_slT, Sim.callM, Sim.arrOf, List.filterMap_cons, List.filterMap_nil, List.getElem?_cons_zero, List.getElem?_cons_succ, List.cons_append, List.nil_append, List.append_nil, List.length_cons, List.length_nil, and_self, if_true, List.set_cons_zero, List.set_cons_succ, Bool.false_eq_true, if_false, Nat.reduceAdd, Nat.reduceSub, List.map_cons, List.map_nil, List.replicate_succ, List.replicate_zero, Bool.not_true, Bool.not_false, Sim.x_sized, Nat.reduceLeDiff, Nat.zero_add]
    refine Rn.step (r_draught (by decide) (by decide)) fun v ⟨d, e, _, _⟩ => ?_
    subst e
    try simp -implicitDefEqProofs only [Sim.sM_pass, Sim.sM_seq, Sim.sM_asg, Sim.sM_ret, Sim.sM_expr, Sim.sM_if, Sim.sM_par, Sim.sM_asgT, Sim.sM_set, Sim.ret_bind, Sim.bind_assoc, Sim.x_var0, Sim.x_varS, Sim.x_C, Sim.x_op, Sim.x_un, Sim.x_A, Sim.x_nil, Sim.x_cons, Sim.x_call, Sim.x_and, Sim.x_or, Sim.x_not, Sim.x_if, Sim.x_tV, Sim.x_tCmp, Sim.x_tTru, Sim.x_tNot, Sim.x_tAnd, Sim.x_tOr, Sim.x_asB, Sim.x_sl, Sim.x_oNone, Sim.x_oSome, Sim.x_asI, Sim.x_trN, Sim.x_trB, Sim.x_trI, Sim.x_trL, Sim.x_trR, Sim.x_trT, Sim.x_add, Sim.x_sub, Sim.x_neg, Sim.x_lt, Sim.x_le, Sim.x_gt, Sim.x_ge, Sim.x_abs, Sim.x_max2, Sim.x_min2, Sim.x_intI, Sim.x_intB, Sim.x_eqI, Sim.x_neI, Sim.x_eqS, Sim.x_neS, Sim.x_lst, Sim.x_tup, Sim.x_frz0, Sim.x_frzP, Sim.x_lenL, Sim.x_lenT, Sim.x_lenR, Sim.x_tupleL, Sim.x_listL, Sim.x_listT, Sim.x_slL, Sim.x_slR, Sim.x_slT, Sim.callM, Sim.arrOf, List.filterMap_cons, List.filterMap_nil, List.getElem?_cons_zero, List.getElem?_cons_succ, List.cons_append, List.nil_append, List.append_nil, List.length_cons, List.length_nil, and_self, if_true, List.set_cons_zero, List.set_cons_succ, Bool.false_eq_true, if_false, Nat.reduceAdd, Nat.reduceSub, List.map_cons, List.map_nil, List.replicate_succ, List.replicate_zero, Bool.not_true, Bool.not_false, Sim.x_sized, Nat.reduceLeDiff, Nat.zero_add]
    refine Rn.last (r_cupful (by simp) (by simp)) fun v ⟨d, e, hd⟩ => ⟨d, e, ?_⟩
    simp only [List.mem_cons, List.not_mem_nil, or_false] at hd
    rcases hd with rfl | rfl | rfl | rfl | rfl | rfl <;> simp [isIntD, tyN]
  subst e
  have rt : ∀ x ∈ row, isIntD x = true ∧ tyN x ≠ none := fun x hx => by
    obtain ⟨j, hj⟩ := List.getElem?_of_mem hx
    exact rP j x hj
  have ra : row.all isIntD = true := List.all_eq_true.mpr fun x hx => (rt x hx).1
  have rg : Good (.lst row) := good_lst (by omega) fun x hx => (rt x hx).2
  have rgt : Good (.tup row) := good_tup (by omega) fun x hx => (rt x hx).2
  have rl2 : (row.length : Int) = n := by omega
  try simp -implicitDefEqProofs only [Sim.sM_pass, Sim.sM_seq, Sim.sM_asg, Sim.sM_ret, Sim.sM_expr, Sim.sM_if, Sim.sM_par, Sim.sM_asgT, Sim.sM_set, Sim.ret_bind, Sim.bind_assoc, Sim.x_var0, Sim.x_varS, Sim.x_C, Sim.x_op, Sim.x_un, Sim.x_A, Sim.x_nil, Sim.x_cons, Sim.x_call, Sim.x_and, Sim.x_or, Sim.x_not, Sim.x_if, Sim.x_tV, Sim.x_tCmp, Sim.x_tTru, Sim.x_tNot, Sim.x_tAnd, Sim.x_tOr, Sim.x_asB, Sim.x_sl, Sim.x_oNone, Sim.x_oSome, Sim.x_asI, Sim.x_trN, Sim.x_trB, Sim.x_trI, Sim.x_trL, Sim.x_trR, Sim.x_trT, Sim.x_add, Sim.x_sub, Sim.x_neg, Sim.x_lt, Sim.x_le, Sim.x_gt, Sim.x_ge, Sim.x_abs, Sim.x_max2, Sim.x_min2, Sim.x_intI, Sim.x_intB, Sim.x_eqI, Sim.x_neI, Sim.x_eqS, Sim.x_neS, Sim.x_lst, Sim.x_tup, Sim.x_frz0, Sim.x_frzP, Sim.x_lenL, Sim.x_lenT, Sim.x_lenR, Sim.x_tupleL, Sim.x_listL, Sim.x_listT, Sim.x_slL, Sim.x_slR, Sim.x_slT, Sim.callM, Sim.arrOf, List.filterMap_cons, List.filterMap_nil, List.getElem?_cons_zero, List.getElem?_cons_succ, List.cons_append, List.nil_append, List.append_nil, List.length_cons, List.length_nil, and_self, if_true, List.set_cons_zero, List.set_cons_succ, Bool.false_eq_true, if_false, Nat.reduceAdd, Nat.reduceSub, List.map_cons, List.map_nil, List.replicate_succ, List.replicate_zero, Bool.not_true, Bool.not_false, Sim.x_sized, Nat.reduceLeDiff, Nat.zero_add]
  rw [x_addL (by simp; omega)]
  have rg4 : Good (.lst (row ++ [.int 4])) := good_lst (by simp; omega) fun x hx => by
    rcases List.mem_append.mp hx with hx | hx
    · exact (rt x hx).2
    · rw [List.mem_singleton.mp hx]; simp [tyN]
  try simp -implicitDefEqProofs only [e_is_row rg, e_is_row rgt, e_is_row rg4, Sim.sM_pass, Sim.sM_seq, Sim.sM_asg, Sim.sM_ret, Sim.sM_expr, Sim.sM_if, Sim.sM_par, Sim.sM_asgT, Sim.sM_set, Sim.ret_bind, Sim.bind_assoc, Sim.x_var0, Sim.x_varS, Sim.x_C, Sim.x_op, Sim.x_un, Sim.x_A, Sim.x_nil, Sim.x_cons, Sim.x_call, Sim.x_and, Sim.x_or, Sim.x_not, Sim.x_if, Sim.x_tV, Sim.x_tCmp, Sim.x_tTru, Sim.x_tNot, Sim.x_tAnd, Sim.x_tOr, Sim.x_asB, Sim.x_sl, Sim.x_oNone, Sim.x_oSome, Sim.x_asI, Sim.x_trN, Sim.x_trB, Sim.x_trI, Sim.x_trL, Sim.x_trR, Sim.x_trT, Sim.x_add, Sim.x_sub, Sim.x_neg, Sim.x_lt, Sim.x_le, Sim.x_gt, Sim.x_ge, Sim.x_abs, Sim.x_max2, Sim.x_min2, Sim.x_intI, Sim.x_intB, Sim.x_eqI, Sim.x_neI, Sim.x_eqS, Sim.x_neS, Sim.x_lst, Sim.x_tup, Sim.x_frz0, Sim.x_frzP, Sim.x_lenL, Sim.x_lenT, Sim.x_lenR, Sim.x_tupleL, Sim.x_listL, Sim.x_listT, Sim.x_slL, Sim.x_slR, Sim.x_slT, Sim.callM, Sim.arrOf, List.filterMap_cons, List.filterMap_nil, List.getElem?_cons_zero, List.getElem?_cons_succ, List.cons_append, List.nil_append, List.append_nil, List.length_cons, List.length_nil, and_self, if_true, List.set_cons_zero, List.set_cons_succ, Bool.false_eq_true, if_false, Nat.reduceAdd, Nat.reduceSub, List.map_cons, List.map_nil, List.replicate_succ, List.replicate_zero, Bool.not_true, Bool.not_false, Sim.x_sized, Nat.reduceLeDiff, Nat.zero_add]
  refine Rn.step r_odd fun v ⟨odd, e, o1, o2⟩ => ?_
  subst e
  try simp -implicitDefEqProofs only [Sim.sM_pass, Sim.sM_seq, Sim.sM_asg, Sim.sM_ret, Sim.sM_expr, Sim.sM_if, Sim.sM_par, Sim.sM_asgT, Sim.sM_set, Sim.ret_bind, Sim.bind_assoc, Sim.x_var0, Sim.x_varS, Sim.x_C, Sim.x_op, Sim.x_un, Sim.x_A, Sim.x_nil, Sim.x_cons, Sim.x_call, Sim.x_and, Sim.x_or, Sim.x_not, Sim.x_if, Sim.x_tV, Sim.x_tCmp, Sim.x_tTru, Sim.x_tNot, Sim.x_tAnd, Sim.x_tOr, Sim.x_asB, Sim.x_sl, Sim.x_oNone, Sim.x_oSome, Sim.x_asI, Sim.x_trN, Sim.x_trB, Sim.x_trI, Sim.x_trL, Sim.x_trR, Sim.x_trT, Sim.x_add, Sim.x_sub, Sim.x_neg, Sim.x_lt, Sim.x_le, Sim.x_gt, Sim.x_ge, Sim.x_abs, Sim.x_max2, Sim.x_min2, Sim.x_intI, Sim.x_intB, Sim.x_eqI, Sim.x_neI, Sim.x_eqS, Sim.x_neS, Sim.x_lst, Sim.x_tup, Sim.x_frz0, Sim.x_frzP, Sim.x_lenL, Sim.x_lenT, Sim.x_lenR, Sim.x_tupleL, Sim.x_listL, Sim.x_listT, Sim.x_slL, Sim.x_slR, Sim.x_slT, Sim.callM, Sim.arrOf, List.filterMap_cons, List.filterMap_nil, List.getElem?_cons_zero, List.getElem?_cons_succ, List.cons_append, List.nil_append, List.append_nil, List.length_cons, List.length_nil, and_self, if_true, List.set_cons_zero, List.set_cons_succ, Bool.false_eq_true, if_false, Nat.reduceAdd, Nat.reduceSub, List.map_cons, List.map_nil, List.replicate_succ, List.replicate_zero, Bool.not_true, Bool.not_false, Sim.x_sized, Nat.reduceLeDiff, Nat.zero_add]
  refine Rn.step (r_bent (by omega)) fun v ⟨zs, e, z1, z2, z3⟩ => ?_
  subst e
  have zt : ∀ x ∈ zs, tyN x ≠ none := fun x hx => by
    rcases z3 x hx with rfl | h
    · exact o2
    · exact (rt x h).2
  have za : zs.all isIntD = false := List.all_eq_false.mpr ⟨odd, z1, by rw [o1]; decide⟩
  have zg : Good (.lst zs) := good_lst (by omega) zt
  have zgt : Good (.tup zs) := good_tup (by omega) zt
  try simp -implicitDefEqProofs only [Sim.sM_pass, Sim.sM_seq, Sim.sM_asg, Sim.sM_ret, Sim.sM_expr, Sim.sM_if, Sim.sM_par, Sim.sM_asgT, Sim.sM_set, Sim.ret_bind, Sim.bind_assoc, Sim.x_var0, Sim.x_varS, Sim.x_C, Sim.x_op, Sim.x_un, Sim.x_A, Sim.x_nil, Sim.x_cons, Sim.x_call, Sim.x_and, Sim.x_or, Sim.x_not, Sim.x_if, Sim.x_tV, Sim.x_tCmp, Sim.x_tTru, Sim.x_tNot, Sim.x_tAnd, Sim.x_tOr, Sim.x_asB, Sim.x_sl, Sim.x_oNone, Sim.x_oSome, Sim.x_asI, Sim.x_trN, Sim.x_trB, Sim.x_trI, Sim.x_trL, Sim.x_trR, Sim.x_trT, Sim.x_add, Sim.x_sub, Sim.x_neg, Sim.x_lt, Sim.x_le, Sim.x_gt, Sim.x_ge, Sim.x_abs, Sim.x_max2, Sim.x_min2, Sim.x_intI, Sim.x_intB, Sim.x_eqI, Sim.x_neI, Sim.x_eqS, Sim.x_neS, Sim.x_lst, Sim.x_tup, Sim.x_frz0, Sim.x_frzP, Sim.x_lenL, Sim.x_lenT, Sim.x_lenR, Sim.x_tupleL, Sim.x_listL, Sim.x_listT, Sim.x_slL, Sim.x_slR, Sim.x_slT, Sim.callM, Sim.arrOf, List.filterMap_cons, List.filterMap_nil, List.getElem?_cons_zero, List.getElem?_cons_succ, List.cons_append, List.nil_append, List.append_nil, List.length_cons, List.length_nil, and_self, if_true, List.set_cons_zero, List.set_cons_succ, Bool.false_eq_true, if_false, Nat.reduceAdd, Nat.reduceSub, List.map_cons, List.map_nil, List.replicate_succ, List.replicate_zero, Bool.not_true, Bool.not_false, Sim.x_sized, Nat.reduceLeDiff, Nat.zero_add]
  have hm : M.of (gMulS (.p (.str "0")) (.p (.int n))) = M.ret (.p (.str (Txt.mul "0" n))) := of_some fun st => by
    have hl : ("0" : Str).length = 1 := by decide
    simp only [gMulS, gMul, eitherG, gMulI, gI, gRep, ownV, gStrRep, Option.none_or]
    rw [if_pos (by rw [hl]; omega)]
  have hd : ∀ ev, eDict0 ev = M.ret (.p (.dic [])) := fun _ => rfl
  try simp -implicitDefEqProofs only [hm, hd, e_is_row zg, e_is_row zgt, e_is_row good_str, e_is_row good_dic, e_is_row good_non, Sim.sM_pass, Sim.sM_seq, Sim.sM_asg, Sim.sM_ret, Sim.sM_expr, Sim.sM_if, Sim.sM_par, Sim.sM_asgT, Sim.sM_set, Sim.ret_bind, Sim.bind_assoc, Sim.x_var0, Sim.x_varS, Sim.x_C, Sim.x_op, Sim.x_un, Sim.x_A, Sim.x_nil, Sim.x_cons, Sim.x_call, Sim.x_and, Sim.x_or, Sim.x_not, Sim.x_if, Sim.x_tV, Sim.x_tCmp, Sim.x_tTru, Sim.x_tNot, Sim.x_tAnd, Sim.x_tOr, Sim.x_asB, Sim.x_sl, Sim.x_oNone, Sim.x_oSome, Sim.x_asI, Sim.x_trN, Sim.x_trB, Sim.x_trI, Sim.x_trL, Sim.x_trR, Sim.x_trT, Sim.x_add, Sim.x_sub, Sim.x_neg, Sim.x_lt, Sim.x_le, Sim.x_gt, Sim.x_ge, Sim.x_abs, Sim.x_max2, Sim.x_min2, Sim.x_intI, Sim.x_intB, Sim.x_eqI, Sim.x_neI, Sim.x_eqS, Sim.x_neS, Sim.x_lst, Sim.x_tup, Sim.x_frz0, Sim.x_frzP, Sim.x_lenL, Sim.x_lenT, Sim.x_lenR, Sim.x_tupleL, Sim.x_listL, Sim.x_listT, Sim.x_slL, Sim.x_slR, Sim.x_slT, Sim.callM, Sim.arrOf, List.filterMap_cons, List.filterMap_nil, List.getElem?_cons_zero, List.getElem?_cons_succ, List.cons_append, List.nil_append, List.append_nil, List.length_cons, List.length_nil, and_self, if_true, List.set_cons_zero, List.set_cons_succ, Bool.false_eq_true, if_false, Nat.reduceAdd, Nat.reduceSub, List.map_cons, List.map_nil, List.replicate_succ, List.replicate_zero, Bool.not_true, Bool.not_false, Sim.x_sized, Nat.reduceLeDiff, Nat.zero_add]
  have e3 : decide (n = n + 1) = false := decide_eq_false (by omega)
  have e4 : decide (((row.length + [D.int 4].length : Nat) : Int) = n) = false := decide_eq_false (by simp; omega)
  simp only [seqD, rl2, ra, za, List.length_append, e3, e4, decide_true, Bool.and_false, Bool.and_true, Bool.false_and]
  rw [x_addL (by decide)]
  try simp -implicitDefEqProofs only [Sim.sM_pass, Sim.sM_seq, Sim.sM_asg, Sim.sM_ret, Sim.sM_expr, Sim.sM_if, Sim.sM_par, Sim.sM_asgT, Sim.sM_set, Sim.ret_bind, Sim.bind_assoc, Sim.x_var0, Sim.x_varS, Sim.x_C, Sim.x_op, Sim.x_un, Sim.x_A, Sim.x_nil, Sim.x_cons, Sim.x_call, Sim.x_and, Sim.x_or, Sim.x_not, Sim.x_if, Sim.x_tV, Sim.x_tCmp, Sim.x_tTru, Sim.x_tNot, Sim.x_tAnd, Sim.x_tOr, Sim.x_asB, Sim.x_sl, Sim.x_oNone, Sim.x_oSome, Sim.x_asI, Sim.x_trN, Sim.x_trB, Sim.x_trI, Sim.x_trL, Sim.x_trR, Sim.x_trT, Sim.x_add, Sim.x_sub, Sim.x_neg, Sim.x_lt, Sim.x_le, Sim.x_gt, Sim.x_ge, Sim.x_abs, Sim.x_max2, Sim.x_min2, Sim.x_intI, Sim.x_intB, Sim.x_eqI, Sim.x_neI, Sim.x_eqS, Sim.x_neS, Sim.x_lst, Sim.x_tup, Sim.x_frz0, Sim.x_frzP, Sim.x_lenL, Sim.x_lenT, Sim.x_lenR, Sim.x_tupleL, Sim.x_listL, Sim.x_listT, Sim.x_slL, Sim.x_slR, Sim.x_slT, Sim.callM, Sim.arrOf, List.filterMap_cons, List.filterMap_nil, List.getElem?_cons_zero, List.getElem?_cons_succ, List.cons_append, List.nil_append, List.append_nil, List.length_cons, List.length_nil, and_self, if_true, List.set_cons_zero, List.set_cons_succ, Bool.false_eq_true, if_false, Nat.reduceAdd, Nat.reduceSub, List.map_cons, List.map_nil, List.replicate_succ, List.replicate_zero, Bool.not_true, Bool.not_false, Sim.x_sized, Nat.reduceLeDiff, Nat.zero_add]
  obtain ⟨S, hS⟩ := rep_bl [true, true, false, false, false, false, false, false, false] (by decide)
  simp only [List.map_cons, List.map_nil] at hS
  try simp -implicitDefEqProofs only [hS, Sim.sM_pass, Sim.sM_seq, Sim.sM_asg, Sim.sM_ret, Sim.sM_expr, Sim.sM_if, Sim.sM_par, Sim.sM_asgT, Sim.sM_set, Sim.ret_bind, Sim.bind_assoc, Sim.x_var0, Sim.x_varS, Sim.x_C, Sim.x_op, Sim.x_un, Sim.x_A, Sim.x_nil, Sim.x_cons, Sim.x_call, Sim.x_and, Sim.x_or, Sim.x_not, Sim.x_if, Sim.x_tV, Sim.x_tCmp, Sim.x_tTru, Sim.x_tNot, Sim.x_tAnd, Sim.x_tOr, Sim.x_asB, Sim.x_sl, Sim.x_oNone, Sim.x_oSome, Sim.x_asI, Sim.x_trN, Sim.x_trB, Sim.x_trI, Sim.x_trL, Sim.x_trR, Sim.x_trT, Sim.x_add, Sim.x_sub, Sim.x_neg, Sim.x_lt, Sim.x_le, Sim.x_gt, Sim.x_ge, Sim.x_abs, Sim.x_max2, Sim.x_min2, Sim.x_intI, Sim.x_intB, Sim.x_eqI, Sim.x_neI, Sim.x_eqS, Sim.x_neS, Sim.x_lst, Sim.x_tup, Sim.x_frz0, Sim.x_frzP, Sim.x_lenL, Sim.x_lenT, Sim.x_lenR, Sim.x_tupleL, Sim.x_listL, Sim.x_listT, Sim.x_slL, Sim.x_slR, Sim.x_slT, Sim.callM, Sim.arrOf, List.filterMap_cons, List.filterMap_nil, List.getElem?_cons_zero, List.getElem?_cons_succ, List.cons_append, List.nil_append, List.append_nil, List.length_cons, List.length_nil, and_self, if_true, List.set_cons_zero, List.set_cons_succ, Bool.false_eq_true, if_false, Nat.reduceAdd, Nat.reduceSub, List.map_cons, List.map_nil, List.replicate_succ, List.replicate_zero, Bool.not_true, Bool.not_false, Sim.x_sized, Nat.reduceLeDiff, Nat.zero_add]
  exact Rn.ret ⟨⟨_, rfl⟩, by simp⟩
theorem x_put1 {i : Nat} {d : D} {ev : Ev} : Tgt.put (.nm i) d ev = some (ev.set i (some (.p d))) := by simp only [Tgt.put]
theorem rep_b (b : Bool) : ∃ S, M.of (gRepr [.p (.bl b)]) = M.ret (.p (.str S)) := ⟨_, of_some fun st => by
  simp only [gRepr, Vl.py, D.py]
  rw [if_pos (by cases b <;> decide)]⟩
theorem in_text {x : D} {l : Int} (h : ∃ i, x = .int i ∧ 0 ≤ i ∧ i < l) : within x (some 0) (some (l - 1)) = true ∧ tyN x ≠ none := by
  obtain ⟨i, rfl, h0, h1⟩ := h
  refine ⟨?_, by simp [tyN]⟩
  simp only [within]
  rw [decide_eq_true h0, decide_eq_true (by omega : i ≤ l - 1)]; rfl
theorem r_text_right : Rn cells k (m__law_text_right [.c k]) 90 fun v => v = .p (.bl true) := by
  refine Rn.fn ?_
  unfold d__law_text_right
  try simp -implicitDefEqProofs only [Sim.sM_pass, Sim.sM_seq, Sim.sM_asg, Sim.sM_ret, Sim.sM_expr, Sim.sM_if, Sim.sM_par, Sim.sM_asgT, Sim.sM_set, Sim.ret_bind, Sim.bind_assoc, Sim.x_var0, Sim.x_varS, Sim.x_C, Sim.x_op, Sim.x_un, Sim.x_A, Sim.x_nil, Sim.x_cons, Sim.x_call, Sim.x_and, Sim.x_or, Sim.x_not, Sim.x_if, Sim.x_tV, Sim.x_tCmp, Sim.x_tTru, Sim.x_tNot, Sim.x_tAnd, Sim.x_tOr, Sim.x_asB, Sim.x_sl, Sim.x_oNone, Sim.x_oSome, Sim.x_asI, Sim.x_trN, Sim.x_trB, Sim.x_trI, Sim.x_trL, Sim.x_trR, Sim.x_trT, Sim.x_add, Sim.x_sub, Sim.x_neg, Sim.x_lt, Sim.x_le, Sim.x_gt, Sim.x_ge, Sim.x_abs, Sim.x_max2, Sim.x_min2, Sim.x_intI, Sim.x_intB, Sim.x_eqI, Sim.x_neI, Sim.x_eqS, Sim.x_neS, Sim.x_lst, Sim.x_tup, Sim.x_frz0, Sim.x_frzP, Sim.x_lenL, Sim.x_lenT, Sim.x_lenR, Sim.x_tupleL, Sim.x_listL, Sim.x_listT, Sim.x_slL, Sim.x_slR, Sim.x_slT, Sim.callM, Sim.arrOf, List.filterMap_cons, List.filterMap_nil, List.getElem?_cons_zero, List.getElem?_cons_succ, List.cons_append, List.nil_append, List.append_nil, List.length_cons, List.length_nil, and_self, if_true, List.set_cons_zero, List.set_cons_succ, Bool.false_eq_true, if_false, Nat.reduceAdd, Nat.reduceSub, List.map_cons, List.map_nil, List.replicate_succ, List.replicate_zero, Bool.not_true, Bool.not_false, Sim.x_sized, Nat.reduceLeDiff, Nat.zero_add]
  refine Rn.step (r_cupful (by simp) (by simp)) fun v ⟨ld, e, hl⟩ => ?_
  subst e
  try simp -implicitDefEqProofs only [Sim.sM_pass, Sim.sM_seq, Sim.sM_asg, Sim.sM_ret, Sim.sM_expr, Sim.sM_if, Sim.sM_par, Sim.sM_asgT, Sim.sM_set, Sim.ret_bind, Sim.bind_assoc, Sim.x_var0, Sim.x_varS, Sim.x_C, Sim.x_op, Sim.x_un, Sim.x_A, Sim.x_nil, Sim.x_cons, Sim.x_call, Sim.x_and, Sim.x_or, Sim.x_not, Sim.x_if, Sim.x_tV, Sim.x_tCmp, Sim.x_tTru, Sim.x_tNot, Sim.x_tAnd, Sim.x_tOr, Sim.x_asB, Sim.x_sl, Sim.x_oNone, Sim.x_oSome, Sim.x_asI, Sim.x_trN, Sim.x_trB, Sim.x_trI, Sim.x_trL, Sim.x_trR, Sim.x_trT, Sim.x_add, Sim.x_sub, Sim.x_neg, Sim.x_lt, Sim.x_le, Sim.x_gt, Sim.x_ge, Sim.x_abs, Sim.x_max2, Sim.x_min2, Sim.x_intI, Sim.x_intB, Sim.x_eqI, Sim.x_neI, Sim.x_eqS, Sim.x_neS, Sim.x_lst, Sim.x_tup, Sim.x_frz0, Sim.x_frzP, Sim.x_lenL, Sim.x_lenT, Sim.x_lenR, Sim.x_tupleL, Sim.x_listL, Sim.x_listT, Sim.x_slL, Sim.x_slR, Sim.x_slT, Sim.callM, Sim.arrOf, List.filterMap_cons, List.filterMap_nil, List.getElem?_cons_zero, List.getElem?_cons_succ, List.cons_append, List.nil_append, List.append_nil, List.length_cons, List.length_nil, and_self, if_true, List.set_cons_zero, List.set_cons_succ, Bool.false_eq_true, if_false, Nat.reduceAdd, Nat.reduceSub, List.map_cons, List.map_nil, List.replicate_succ, List.replicate_zero, Bool.not_true, Bool.not_false, Sim.x_sized, Nat.reduceLeDiff, Nat.zero_add]
  refine Rn.step (r_cupful (by simp) (by simp)) fun v ⟨md, e, hm⟩ => ?_
  subst e
  obtain ⟨l, rfl, l0, l1⟩ : ∃ l, ld = .int l ∧ 1 ≤ l ∧ l ≤ 9 := by
    simp only [List.mem_cons, List.not_mem_nil, or_false] at hl
    rcases hl with rfl | rfl | rfl | rfl | rfl <;> exact ⟨_, rfl, by decide, by decide⟩
  obtain ⟨m, rfl, m0, m1⟩ : ∃ m, md = .int m ∧ 0 ≤ m ∧ m ≤ 60 := by
    simp only [List.mem_cons, List.not_mem_nil, or_false] at hm
    rcases hm with rfl | rfl | rfl | rfl <;> exact ⟨_, rfl, by decide, by decide⟩
  try simp -implicitDefEqProofs only [Tgt.put, Tgt.puts, Sim.sM_pass, Sim.sM_seq, Sim.sM_asg, Sim.sM_ret, Sim.sM_expr, Sim.sM_if, Sim.sM_par, Sim.sM_asgT, Sim.sM_set, Sim.ret_bind, Sim.bind_assoc, Sim.x_var0, Sim.x_varS, Sim.x_C, Sim.x_op, Sim.x_un, Sim.x_A, Sim.x_nil, Sim.x_cons, Sim.x_call, Sim.x_and, Sim.x_or, Sim.x_not, Sim.x_if, Sim.x_tV, Sim.x_tCmp, Sim.x_tTru, Sim.x_tNot, Sim.x_tAnd, Sim.x_tOr, Sim.x_asB, Sim.x_sl, Sim.x_oNone, Sim.x_oSome, Sim.x_asI, Sim.x_trN, Sim.x_trB, Sim.x_trI, Sim.x_trL, Sim.x_trR, Sim.x_trT, Sim.x_add, Sim.x_sub, Sim.x_neg, Sim.x_lt, Sim.x_le, Sim.x_gt, Sim.x_ge, Sim.x_abs, Sim.x_max2, Sim.x_min2, Sim.x_intI, Sim.x_intB, Sim.x_eqI, Sim.x_neI, Sim.x_eqS, Sim.x_neS, Sim.x_lst, Sim.x_tup, Sim.x_frz0, Sim.x_frzP, Sim.x_lenL, Sim.x_lenT, Sim.x_lenR, Sim.x_tupleL, Sim.x_listL, Sim.x_listT, Sim.x_slL, Sim.x_slR, Sim.x_slT, Sim.callM, Sim.arrOf, List.filterMap_cons, List.filterMap_nil, List.getElem?_cons_zero, List.getElem?_cons_succ, List.cons_append, List.nil_append, List.append_nil, List.length_cons, List.length_nil, and_self, if_true, List.set_cons_zero, List.set_cons_succ, Bool.false_eq_true, if_false, Nat.reduceAdd, Nat.reduceSub, List.map_cons, List.map_nil, List.replicate_succ, List.replicate_zero, Bool.not_true, Bool.not_false, Sim.x_sized, Nat.reduceLeDiff, Nat.zero_add]
  refine Rn.step (r_cupful (by simp) (by simp)) fun v ⟨zd, e, hz⟩ => ?_
  subst e
  obtain ⟨z, rfl, z0, z1⟩ : ∃ z, zd = .int z ∧ 0 ≤ z ∧ z ≤ 61 := by
    simp only [List.mem_cons, List.not_mem_nil, or_false] at hz
    rcases hz with rfl | rfl | rfl | rfl
    · exact ⟨_, rfl, by omega, by omega⟩
    · exact ⟨_, rfl, by omega, by omega⟩
    · exact ⟨_, rfl, by split <;> omega, by split <;> omega⟩
    · exact ⟨_, rfl, by omega, by omega⟩
  try simp -implicitDefEqProofs only [Sim.sM_pass, Sim.sM_seq, Sim.sM_asg, Sim.sM_ret, Sim.sM_expr, Sim.sM_if, Sim.sM_par, Sim.sM_asgT, Sim.sM_set, Sim.ret_bind, Sim.bind_assoc, Sim.x_var0, Sim.x_varS, Sim.x_C, Sim.x_op, Sim.x_un, Sim.x_A, Sim.x_nil, Sim.x_cons, Sim.x_call, Sim.x_and, Sim.x_or, Sim.x_not, Sim.x_if, Sim.x_tV, Sim.x_tCmp, Sim.x_tTru, Sim.x_tNot, Sim.x_tAnd, Sim.x_tOr, Sim.x_asB, Sim.x_sl, Sim.x_oNone, Sim.x_oSome, Sim.x_asI, Sim.x_trN, Sim.x_trB, Sim.x_trI, Sim.x_trL, Sim.x_trR, Sim.x_trT, Sim.x_add, Sim.x_sub, Sim.x_neg, Sim.x_lt, Sim.x_le, Sim.x_gt, Sim.x_ge, Sim.x_abs, Sim.x_max2, Sim.x_min2, Sim.x_intI, Sim.x_intB, Sim.x_eqI, Sim.x_neI, Sim.x_eqS, Sim.x_neS, Sim.x_lst, Sim.x_tup, Sim.x_frz0, Sim.x_frzP, Sim.x_lenL, Sim.x_lenT, Sim.x_lenR, Sim.x_tupleL, Sim.x_listL, Sim.x_listT, Sim.x_slL, Sim.x_slR, Sim.x_slT, Sim.callM, Sim.arrOf, List.filterMap_cons, List.filterMap_nil, List.getElem?_cons_zero, List.getElem?_cons_succ, List.cons_append, List.nil_append, List.append_nil, List.length_cons, List.length_nil, and_self, if_true, List.set_cons_zero, List.set_cons_succ, Bool.false_eq_true, if_false, Nat.reduceAdd, Nat.reduceSub, List.map_cons, List.map_nil, List.replicate_succ, List.replicate_zero, Bool.not_true, Bool.not_false, Sim.x_sized, Nat.reduceLeDiff, Nat.zero_add]
  refine Rn.step (c := 61) (Rn.imp (Rn.comp (n := z.toNat) (src := .ints 0 z.toNat) (item := fun i => .int (0 + (i : Nat))) (P := fun _ d => ∃ i, d = .int i ∧ 0 ≤ i ∧ i < l) (c := 1) ?_ (fun i st => rfl) (by omega) fun i hi => ⟨[some (.c k), some (.p (.int l)), some (.p (.int m)), some (.p (.int z)), none, some (.p (.int (0 + (i : Nat)))), none, none, none], rfl, ?_⟩) (by omega) fun a ha => ha) fun v ⟨text, e, tl, tP⟩ => ?_
  · intro st
    rw [x_iRng1]
    try simp -implicitDefEqProofs only [Sim.sM_pass, Sim.sM_seq, Sim.sM_asg, Sim.sM_ret, Sim.sM_expr, Sim.sM_if, Sim.sM_par, Sim.sM_asgT, Sim.sM_set, Sim.ret_bind, Sim.bind_assoc, Sim.x_var0, Sim.x_varS, Sim.x_C, Sim.x_op, Sim.x_un, Sim.x_A, Sim.x_nil, Sim.x_cons, Sim.x_call, Sim.x_and, Sim.x_or, Sim.x_not, Sim.x_if, Sim.x_tV, Sim.x_tCmp, Sim.x_tTru, Sim.x_tNot, Sim.x_tAnd, Sim.x_tOr, Sim.x_asB, Sim.x_sl, Sim.x_oNone, Sim.x_oSome, Sim.x_asI, Sim.x_trN, Sim.x_trB, Sim.x_trI, Sim.x_trL, Sim.x_trR, Sim.x_trT, Sim.x_add, Sim.x_sub, Sim.x_neg, Sim.x_lt, Sim.x_le, Sim.x_gt, Sim.x_ge, Sim.x_abs, Sim.x_max2, Sim.x_min2, Sim.x_intI, Sim.x_intB, Sim.x_eqI, Sim.x_neI, Sim.x_eqS, Sim.x_neS, Sim.x_lst, Sim.x_tup, Sim.x_frz0, Sim.x_frzP, Sim.x_lenL, Sim.x_lenT, Sim.x_lenR, Sim.x_tupleL, Sim.x_listL, Sim.x_listT, Sim.x_slL, Sim.x_slR, Sim.x_slT, Sim.callM, Sim.arrOf, List.filterMap_cons, List.filterMap_nil, List.getElem?_cons_zero, List.getElem?_cons_succ, List.cons_append, List.nil_append, List.append_nil, List.length_cons, List.length_nil, and_self, if_true, List.set_cons_zero, List.set_cons_succ, Bool.false_eq_true, if_false, Nat.reduceAdd, Nat.reduceSub, List.map_cons, List.map_nil, List.replicate_succ, List.replicate_zero, Bool.not_true, Bool.not_false, Sim.x_sized, Nat.reduceLeDiff, Nat.zero_add]
    rw [x_rng1 (by omega)]
    rfl
  · try simp -implicitDefEqProofs only [Sim.sM_pass, Sim.sM_seq, Sim.sM_asg, Sim.sM_ret, Sim.sM_expr, Sim.sM_if, Sim.sM_par, Sim.sM_asgT, Sim.sM_set, Sim.ret_bind, Sim.bind_assoc, Sim.x_var0, Sim.x_varS, Sim.x_C, Sim.x_op, Sim.x_un, Sim.x_A, Sim.x_nil, Sim.x_cons, Sim.x_call, Sim.x_and, Sim.x_or, Sim.x_not, Sim.x_if, Sim.x_tV, Sim.x_tCmp, Sim.x_tTru, Sim.x_tNot, Sim.x_tAnd, Sim.x_tOr, Sim.x_asB, Sim.x_sl, Sim.x_oNone, Sim.x_oSome, Sim.x_asI, Sim.x_trN, Sim.x_trB, Sim.x_trI, Sim.x_trL, Sim.x_trR, Sim.x_trT, Sim.x_add, Sim.x_sub, Sim.x_neg, Sim.x_lt, Sim.x_le, Sim.x_gt, Sim.x_ge, Sim.x_abs, Sim.x_max2, Sim.x_min2, Sim.x_intI, Sim.x_intB, Sim.x_eqI, Sim.x_neI, Sim.x_eqS, Sim.x_neS, Sim.x_lst, Sim.x_tup, Sim.x_frz0, Sim.x_frzP, Sim.x_lenL, Sim.x_lenT, Sim.x_lenR, Sim.x_tupleL, Sim.x_listL, Sim.x_listT, Sim.x_slL, Sim.x_slR, Sim.x_slT, Sim.callM, Sim.arrOf, List.filterMap_cons, List.filterMap_nil, List.getElem?_cons_zero, List.getElem?_cons_succ, List.cons_append, List.nil_append, List.append_nil, List.length_cons, List.length_nil, and_self, if_true, List.set_cons_zero, List.set_cons_succ, Bool.false_eq_true, if_false, Nat.reduceAdd, Nat.reduceSub, List.map_cons, List.map_nil, List.replicate_succ, List.replicate_zero, Bool.not_true, Bool.not_false, Sim.x_sized, Nat.reduceLeDiff, Nat.zero_add]
    refine Rn.last (r_draught (by omega) (by omega)) fun v ⟨d, e, d0, d1⟩ => ⟨_, e, d, rfl, d0, d1⟩
  subst e
  have rt : ∀ x ∈ text, within x (some 0) (some (l - 1)) = true ∧ tyN x ≠ none := fun x hx => by
    obtain ⟨j, hj⟩ := List.getElem?_of_mem hx
    exact in_text (tP j x hj)
  have ra : (text.all fun x => within x (some 0) (some (l - 1))) = true := List.all_eq_true.mpr fun x hx => (rt x hx).1
  have rg : Good (.lst text) := good_lst (by omega) fun x hx => (rt x hx).2
  have rgt : Good (.tup text) := good_tup (by omega) fun x hx => (rt x hx).2
  have rl2 : (text.length : Int) = z := by omega
  have c1000 : decide (z ≤ 1000) = true := decide_eq_true (by omega)
  try simp -implicitDefEqProofs only [e_is_text rg, e_is_text rgt, Sim.sM_pass, Sim.sM_seq, Sim.sM_asg, Sim.sM_ret, Sim.sM_expr, Sim.sM_if, Sim.sM_par, Sim.sM_asgT, Sim.sM_set, Sim.ret_bind, Sim.bind_assoc, Sim.x_var0, Sim.x_varS, Sim.x_C, Sim.x_op, Sim.x_un, Sim.x_A, Sim.x_nil, Sim.x_cons, Sim.x_call, Sim.x_and, Sim.x_or, Sim.x_not, Sim.x_if, Sim.x_tV, Sim.x_tCmp, Sim.x_tTru, Sim.x_tNot, Sim.x_tAnd, Sim.x_tOr, Sim.x_asB, Sim.x_sl, Sim.x_oNone, Sim.x_oSome, Sim.x_asI, Sim.x_trN, Sim.x_trB, Sim.x_trI, Sim.x_trL, Sim.x_trR, Sim.x_trT, Sim.x_add, Sim.x_sub, Sim.x_neg, Sim.x_lt, Sim.x_le, Sim.x_gt, Sim.x_ge, Sim.x_abs, Sim.x_max2, Sim.x_min2, Sim.x_intI, Sim.x_intB, Sim.x_eqI, Sim.x_neI, Sim.x_eqS, Sim.x_neS, Sim.x_lst, Sim.x_tup, Sim.x_frz0, Sim.x_frzP, Sim.x_lenL, Sim.x_lenT, Sim.x_lenR, Sim.x_tupleL, Sim.x_listL, Sim.x_listT, Sim.x_slL, Sim.x_slR, Sim.x_slT, Sim.callM, Sim.arrOf, List.filterMap_cons, List.filterMap_nil, List.getElem?_cons_zero, List.getElem?_cons_succ, List.cons_append, List.nil_append, List.append_nil, List.length_cons, List.length_nil, and_self, if_true, List.set_cons_zero, List.set_cons_succ, Bool.false_eq_true, if_false, Nat.reduceAdd, Nat.reduceSub, List.map_cons, List.map_nil, List.replicate_succ, List.replicate_zero, Bool.not_true, Bool.not_false, Sim.x_sized, Nat.reduceLeDiff, Nat.zero_add]
  simp only [seqD, rl2, ra, Bool.and_true, c1000]
  obtain ⟨S, hS⟩ := rep_bl [decide (z ≤ m), decide (z ≤ m), true] (by cases decide (z ≤ m) <;> decide)
  simp only [List.map_cons, List.map_nil] at hS
  have h20 : M.of (gPow (.p (.int 10)) (.p (.int 20))) = M.ret (.p (.int (10 ^ 20))) := x_pow (by decide)
  try simp -implicitDefEqProofs only [h20, hS, decide_true, Sim.sM_pass, Sim.sM_seq, Sim.sM_asg, Sim.sM_ret, Sim.sM_expr, Sim.sM_if, Sim.sM_par, Sim.sM_asgT, Sim.sM_set, Sim.ret_bind, Sim.bind_assoc, Sim.x_var0, Sim.x_varS, Sim.x_C, Sim.x_op, Sim.x_un, Sim.x_A, Sim.x_nil, Sim.x_cons, Sim.x_call, Sim.x_and, Sim.x_or, Sim.x_not, Sim.x_if, Sim.x_tV, Sim.x_tCmp, Sim.x_tTru, Sim.x_tNot, Sim.x_tAnd, Sim.x_tOr, Sim.x_asB, Sim.x_sl, Sim.x_oNone, Sim.x_oSome, Sim.x_asI, Sim.x_trN, Sim.x_trB, Sim.x_trI, Sim.x_trL, Sim.x_trR, Sim.x_trT, Sim.x_add, Sim.x_sub, Sim.x_neg, Sim.x_lt, Sim.x_le, Sim.x_gt, Sim.x_ge, Sim.x_abs, Sim.x_max2, Sim.x_min2, Sim.x_intI, Sim.x_intB, Sim.x_eqI, Sim.x_neI, Sim.x_eqS, Sim.x_neS, Sim.x_lst, Sim.x_tup, Sim.x_frz0, Sim.x_frzP, Sim.x_lenL, Sim.x_lenT, Sim.x_lenR, Sim.x_tupleL, Sim.x_listL, Sim.x_listT, Sim.x_slL, Sim.x_slR, Sim.x_slT, Sim.callM, Sim.arrOf, List.filterMap_cons, List.filterMap_nil, List.getElem?_cons_zero, List.getElem?_cons_succ, List.cons_append, List.nil_append, List.append_nil, List.length_cons, List.length_nil, and_self, if_true, List.set_cons_zero, List.set_cons_succ, Bool.false_eq_true, if_false, Nat.reduceAdd, Nat.reduceSub, List.map_cons, List.map_nil, List.replicate_succ, List.replicate_zero, Bool.not_true, Bool.not_false, Sim.x_sized, Nat.reduceLeDiff, Nat.zero_add]
  refine Rn.step r_odd fun v ⟨odd, e, o1, o2⟩ => ?_
  subst e
  try simp -implicitDefEqProofs only [h20, Sim.sM_pass, Sim.sM_seq, Sim.sM_asg, Sim.sM_ret, Sim.sM_expr, Sim.sM_if, Sim.sM_par, Sim.sM_asgT, Sim.sM_set, Sim.ret_bind, Sim.bind_assoc, Sim.x_var0, Sim.x_varS, Sim.x_C, Sim.x_op, Sim.x_un, Sim.x_A, Sim.x_nil, Sim.x_cons, Sim.x_call, Sim.x_and, Sim.x_or, Sim.x_not, Sim.x_if, Sim.x_tV, Sim.x_tCmp, Sim.x_tTru, Sim.x_tNot, Sim.x_tAnd, Sim.x_tOr, Sim.x_asB, Sim.x_sl, Sim.x_oNone, Sim.x_oSome, Sim.x_asI, Sim.x_trN, Sim.x_trB, Sim.x_trI, Sim.x_trL, Sim.x_trR, Sim.x_trT, Sim.x_add, Sim.x_sub, Sim.x_neg, Sim.x_lt, Sim.x_le, Sim.x_gt, Sim.x_ge, Sim.x_abs, Sim.x_max2, Sim.x_min2, Sim.x_intI, Sim.x_intB, Sim.x_eqI, Sim.x_neI, Sim.x_eqS, Sim.x_neS, Sim.x_lst, Sim.x_tup, Sim.x_frz0, Sim.x_frzP, Sim.x_lenL, Sim.x_lenT, Sim.x_lenR, Sim.x_tupleL, Sim.x_listL, Sim.x_listT, Sim.x_slL, Sim.x_slR, Sim.x_slT, Sim.callM, Sim.arrOf, List.filterMap_cons, List.filterMap_nil, List.getElem?_cons_zero, List.getElem?_cons_succ, List.cons_append, List.nil_append, List.append_nil, List.length_cons, List.length_nil, and_self, if_true, List.set_cons_zero, List.set_cons_succ, Bool.false_eq_true, if_false, Nat.reduceAdd, Nat.reduceSub, List.map_cons, List.map_nil, List.replicate_succ, List.replicate_zero, Bool.not_true, Bool.not_false, Sim.x_sized, Nat.reduceLeDiff, Nat.zero_add]
  refine Rn.step (r_cupful (by simp) (by simp)) fun v ⟨bad, e, hb⟩ => ?_
  subst e
  have hbad : within bad (some 0) (some (l - 1)) = false ∧ tyN bad ≠ none := by
    simp only [List.mem_cons, List.not_mem_nil, or_false] at hb
    rcases hb with rfl | rfl | rfl | rfl
    · refine ⟨?_, by simp [tyN]⟩
      simp only [within]
      rw [decide_eq_false (by omega : ¬ l ≤ l - 1), Bool.and_false]
    · refine ⟨?_, by simp [tyN]⟩
      simp only [within]
      rw [decide_eq_false (by omega), Bool.false_and]
    · refine ⟨?_, by simp [tyN]⟩
      simp only [within]
      rw [decide_eq_false (by omega : ¬ (10 : Int) ^ 20 ≤ l - 1), Bool.and_false]
    · refine ⟨?_, o2⟩
      cases bad <;> first | rfl | cases o1
  try simp -implicitDefEqProofs only [Sim.sM_pass, Sim.sM_seq, Sim.sM_asg, Sim.sM_ret, Sim.sM_expr, Sim.sM_if, Sim.sM_par, Sim.sM_asgT, Sim.sM_set, Sim.ret_bind, Sim.bind_assoc, Sim.x_var0, Sim.x_varS, Sim.x_C, Sim.x_op, Sim.x_un, Sim.x_A, Sim.x_nil, Sim.x_cons, Sim.x_call, Sim.x_and, Sim.x_or, Sim.x_not, Sim.x_if, Sim.x_tV, Sim.x_tCmp, Sim.x_tTru, Sim.x_tNot, Sim.x_tAnd, Sim.x_tOr, Sim.x_asB, Sim.x_sl, Sim.x_oNone, Sim.x_oSome, Sim.x_asI, Sim.x_trN, Sim.x_trB, Sim.x_trI, Sim.x_trL, Sim.x_trR, Sim.x_trT, Sim.x_add, Sim.x_sub, Sim.x_neg, Sim.x_lt, Sim.x_le, Sim.x_gt, Sim.x_ge, Sim.x_abs, Sim.x_max2, Sim.x_min2, Sim.x_intI, Sim.x_intB, Sim.x_eqI, Sim.x_neI, Sim.x_eqS, Sim.x_neS, Sim.x_lst, Sim.x_tup, Sim.x_frz0, Sim.x_frzP, Sim.x_lenL, Sim.x_lenT, Sim.x_lenR, Sim.x_tupleL, Sim.x_listL, Sim.x_listT, Sim.x_slL, Sim.x_slR, Sim.x_slT, Sim.callM, Sim.arrOf, List.filterMap_cons, List.filterMap_nil, List.getElem?_cons_zero, List.getElem?_cons_succ, List.cons_append, List.nil_append, List.append_nil, List.length_cons, List.length_nil, and_self, if_true, List.set_cons_zero, List.set_cons_succ, Bool.false_eq_true, if_false, Nat.reduceAdd, Nat.reduceSub, List.map_cons, List.map_nil, List.replicate_succ, List.replicate_zero, Bool.not_true, Bool.not_false, Sim.x_sized, Nat.reduceLeDiff, Nat.zero_add]
  refine Rn.step (r_bent (by omega)) fun v ⟨zs, e, s1, s2, s3⟩ => ?_
  subst e
  have zt : ∀ x ∈ zs, tyN x ≠ none := fun x hx => by
    rcases s3 x hx with rfl | h
    · exact hbad.2
    · exact (rt x h).2
  have za : (zs.all fun x => within x (some 0) (some (l - 1))) = false := List.all_eq_false.mpr ⟨bad, s1, by rw [hbad.1]; decide⟩
  have zg : Good (.lst zs) := good_lst (by omega) zt
  have zgt : Good (.tup zs) := good_tup (by omega) zt
  try simp -implicitDefEqProofs only [e_is_text zg, e_is_text zgt, Sim.sM_pass, Sim.sM_seq, Sim.sM_asg, Sim.sM_ret, Sim.sM_expr, Sim.sM_if, Sim.sM_par, Sim.sM_asgT, Sim.sM_set, Sim.ret_bind, Sim.bind_assoc, Sim.x_var0, Sim.x_varS, Sim.x_C, Sim.x_op, Sim.x_un, Sim.x_A, Sim.x_nil, Sim.x_cons, Sim.x_call, Sim.x_and, Sim.x_or, Sim.x_not, Sim.x_if, Sim.x_tV, Sim.x_tCmp, Sim.x_tTru, Sim.x_tNot, Sim.x_tAnd, Sim.x_tOr, Sim.x_asB, Sim.x_sl, Sim.x_oNone, Sim.x_oSome, Sim.x_asI, Sim.x_trN, Sim.x_trB, Sim.x_trI, Sim.x_trL, Sim.x_trR, Sim.x_trT, Sim.x_add, Sim.x_sub, Sim.x_neg, Sim.x_lt, Sim.x_le, Sim.x_gt, Sim.x_ge, Sim.x_abs, Sim.x_max2, Sim.x_min2, Sim.x_intI, Sim.x_intB, Sim.x_eqI, Sim.x_neI, Sim.x_eqS, Sim.x_neS, Sim.x_lst, Sim.x_tup, Sim.x_frz0, Sim.x_frzP, Sim.x_lenL, Sim.x_lenT, Sim.x_lenR, Sim.x_tupleL, Sim.x_listL, Sim.x_listT, Sim.x_slL, Sim.x_slR, Sim.x_slT, Sim.callM, Sim.arrOf, List.filterMap_cons, List.filterMap_nil, List.getElem?_cons_zero, List.getElem?_cons_succ, List.cons_append, List.nil_append, List.append_nil, List.length_cons, List.length_nil, and_self, if_true, List.set_cons_zero, List.set_cons_succ, Bool.false_eq_true, if_false, Nat.reduceAdd, Nat.reduceSub, List.map_cons, List.map_nil, List.replicate_succ, List.replicate_zero, Bool.not_true, Bool.not_false, Sim.x_sized, Nat.reduceLeDiff, Nat.zero_add]
  simp only [seqD, za, Bool.and_false]
  obtain ⟨S2, hS2⟩ := rep_bl [false, false] (by decide)
  simp only [List.map_cons, List.map_nil] at hS2
  try simp -implicitDefEqProofs only [hS2, decide_true, Sim.sM_pass, Sim.sM_seq, Sim.sM_asg, Sim.sM_ret, Sim.sM_expr, Sim.sM_if, Sim.sM_par, Sim.sM_asgT, Sim.sM_set, Sim.ret_bind, Sim.bind_assoc, Sim.x_var0, Sim.x_varS, Sim.x_C, Sim.x_op, Sim.x_un, Sim.x_A, Sim.x_nil, Sim.x_cons, Sim.x_call, Sim.x_and, Sim.x_or, Sim.x_not, Sim.x_if, Sim.x_tV, Sim.x_tCmp, Sim.x_tTru, Sim.x_tNot, Sim.x_tAnd, Sim.x_tOr, Sim.x_asB, Sim.x_sl, Sim.x_oNone, Sim.x_oSome, Sim.x_asI, Sim.x_trN, Sim.x_trB, Sim.x_trI, Sim.x_trL, Sim.x_trR, Sim.x_trT, Sim.x_add, Sim.x_sub, Sim.x_neg, Sim.x_lt, Sim.x_le, Sim.x_gt, Sim.x_ge, Sim.x_abs, Sim.x_max2, Sim.x_min2, Sim.x_intI, Sim.x_intB, Sim.x_eqI, Sim.x_neI, Sim.x_eqS, Sim.x_neS, Sim.x_lst, Sim.x_tup, Sim.x_frz0, Sim.x_frzP, Sim.x_lenL, Sim.x_lenT, Sim.x_lenR, Sim.x_tupleL, Sim.x_listL, Sim.x_listT, Sim.x_slL, Sim.x_slR, Sim.x_slT, Sim.callM, Sim.arrOf, List.filterMap_cons, List.filterMap_nil, List.getElem?_cons_zero, List.getElem?_cons_succ, List.cons_append, List.nil_append, List.append_nil, List.length_cons, List.length_nil, and_self, if_true, List.set_cons_zero, List.set_cons_succ, Bool.false_eq_true, if_false, Nat.reduceAdd, Nat.reduceSub, List.map_cons, List.map_nil, List.replicate_succ, List.replicate_zero, Bool.not_true, Bool.not_false, Sim.x_sized, Nat.reduceLeDiff, Nat.zero_add]
  refine Rn.step (r_draught (by omega) (by omega)) fun v ⟨d, e, d0, d1⟩ => ?_
  subst e
  try simp -implicitDefEqProofs only [Sim.sM_pass, Sim.sM_seq, Sim.sM_asg, Sim.sM_ret, Sim.sM_expr, Sim.sM_if, Sim.sM_par, Sim.sM_asgT, Sim.sM_set, Sim.ret_bind, Sim.bind_assoc, Sim.x_var0, Sim.x_varS, Sim.x_C, Sim.x_op, Sim.x_un, Sim.x_A, Sim.x_nil, Sim.x_cons, Sim.x_call, Sim.x_and, Sim.x_or, Sim.x_not, Sim.x_if, Sim.x_tV, Sim.x_tCmp, Sim.x_tTru, Sim.x_tNot, Sim.x_tAnd, Sim.x_tOr, Sim.x_asB, Sim.x_sl, Sim.x_oNone, Sim.x_oSome, Sim.x_asI, Sim.x_trN, Sim.x_trB, Sim.x_trI, Sim.x_trL, Sim.x_trR, Sim.x_trT, Sim.x_add, Sim.x_sub, Sim.x_neg, Sim.x_lt, Sim.x_le, Sim.x_gt, Sim.x_ge, Sim.x_abs, Sim.x_max2, Sim.x_min2, Sim.x_intI, Sim.x_intB, Sim.x_eqI, Sim.x_neI, Sim.x_eqS, Sim.x_neS, Sim.x_lst, Sim.x_tup, Sim.x_frz0, Sim.x_frzP, Sim.x_lenL, Sim.x_lenT, Sim.x_lenR, Sim.x_tupleL, Sim.x_listL, Sim.x_listT, Sim.x_slL, Sim.x_slR, Sim.x_slT, Sim.callM, Sim.arrOf, List.filterMap_cons, List.filterMap_nil, List.getElem?_cons_zero, List.getElem?_cons_succ, List.cons_append, List.nil_append, List.append_nil, List.length_cons, List.length_nil, and_self, if_true, List.set_cons_zero, List.set_cons_succ, Bool.false_eq_true, if_false, Nat.reduceAdd, Nat.reduceSub, List.map_cons, List.map_nil, List.replicate_succ, List.replicate_zero, Bool.not_true, Bool.not_false, Sim.x_sized, Nat.reduceLeDiff, Nat.zero_add]
  obtain ⟨L, hL⟩ : ∃ L, L = List.replicate 1001 (D.int d) := ⟨_, rfl⟩
  have hrep : M.of (gMulS (.p (.lst [.int d])) (.p (.int 1001))) = M.ret (.p (.lst L)) := of_some fun st => by
    have e : (List.replicate (1001 : Int).toNat [D.int d]).flatten = L := by rw [hL]; exact List.flatten_replicate_singleton
    simp only [gMulS, gMul, eitherG, gMulI, gI, gRep, ownV, Option.none_or]
    rw [if_pos ⟨by decide, by decide, by simp⟩, e]
    rfl
  try simp -implicitDefEqProofs only [hrep, Sim.sM_pass, Sim.sM_seq, Sim.sM_asg, Sim.sM_ret, Sim.sM_expr, Sim.sM_if, Sim.sM_par, Sim.sM_asgT, Sim.sM_set, Sim.ret_bind, Sim.bind_assoc, Sim.x_var0, Sim.x_varS, Sim.x_C, Sim.x_op, Sim.x_un, Sim.x_A, Sim.x_nil, Sim.x_cons, Sim.x_call, Sim.x_and, Sim.x_or, Sim.x_not, Sim.x_if, Sim.x_tV, Sim.x_tCmp, Sim.x_tTru, Sim.x_tNot, Sim.x_tAnd, Sim.x_tOr, Sim.x_asB, Sim.x_sl, Sim.x_oNone, Sim.x_oSome, Sim.x_asI, Sim.x_trN, Sim.x_trB, Sim.x_trI, Sim.x_trL, Sim.x_trR, Sim.x_trT, Sim.x_add, Sim.x_sub, Sim.x_neg, Sim.x_lt, Sim.x_le, Sim.x_gt, Sim.x_ge, Sim.x_abs, Sim.x_max2, Sim.x_min2, Sim.x_intI, Sim.x_intB, Sim.x_eqI, Sim.x_neI, Sim.x_eqS, Sim.x_neS, Sim.x_lst, Sim.x_tup, Sim.x_frz0, Sim.x_frzP, Sim.x_lenL, Sim.x_lenT, Sim.x_lenR, Sim.x_tupleL, Sim.x_listL, Sim.x_listT, Sim.x_slL, Sim.x_slR, Sim.x_slT, Sim.callM, Sim.arrOf, List.filterMap_cons, List.filterMap_nil, List.getElem?_cons_zero, List.getElem?_cons_succ, List.cons_append, List.nil_append, List.append_nil, List.length_cons, List.length_nil, and_self, if_true, List.set_cons_zero, List.set_cons_succ, Bool.false_eq_true, if_false, Nat.reduceAdd, Nat.reduceSub, List.map_cons, List.map_nil, List.replicate_succ, List.replicate_zero, Bool.not_true, Bool.not_false, Sim.x_sized, Nat.reduceLeDiff, Nat.zero_add]
  refine Rn.step (r_cupful (by simp) (by simp)) fun v ⟨qd, e, hq⟩ => ?_
  subst e
  obtain ⟨q, rfl, q0, q1⟩ : ∃ q : Nat, qd = .int q ∧ 999 ≤ q ∧ q ≤ 1001 := by
    simp only [List.mem_cons, List.not_mem_nil, or_false] at hq
    rcases hq with rfl | rfl | rfl
    · exact ⟨1001, rfl, by decide, by decide⟩
    · exact ⟨1000, rfl, by decide, by decide⟩
    · exact ⟨999, rfl, by decide, by decide⟩
  have hcut : Sim.cutD L none (some (q : Int)) = List.replicate q (.int d) := by
    rw [hL]
    unfold Sim.cutD
    rw [HT.sIx_none, HT.sIx_nat, List.length_replicate, List.drop_zero, List.take_replicate]
    congr 1; omega
  try simp -implicitDefEqProofs only [hcut, Sim.sM_pass, Sim.sM_seq, Sim.sM_asg, Sim.sM_ret, Sim.sM_expr, Sim.sM_if, Sim.sM_par, Sim.sM_asgT, Sim.sM_set, Sim.ret_bind, Sim.bind_assoc, Sim.x_var0, Sim.x_varS, Sim.x_C, Sim.x_op, Sim.x_un, Sim.x_A, Sim.x_nil, Sim.x_cons, Sim.x_call, Sim.x_and, Sim.x_or, Sim.x_not, Sim.x_if, Sim.x_tV, Sim.x_tCmp, Sim.x_tTru, Sim.x_tNot, Sim.x_tAnd, Sim.x_tOr, Sim.x_asB, Sim.x_sl, Sim.x_oNone, Sim.x_oSome, Sim.x_asI, Sim.x_trN, Sim.x_trB, Sim.x_trI, Sim.x_trL, Sim.x_trR, Sim.x_trT, Sim.x_add, Sim.x_sub, Sim.x_neg, Sim.x_lt, Sim.x_le, Sim.x_gt, Sim.x_ge, Sim.x_abs, Sim.x_max2, Sim.x_min2, Sim.x_intI, Sim.x_intB, Sim.x_eqI, Sim.x_neI, Sim.x_eqS, Sim.x_neS, Sim.x_lst, Sim.x_tup, Sim.x_frz0, Sim.x_frzP, Sim.x_lenL, Sim.x_lenT, Sim.x_lenR, Sim.x_tupleL, Sim.x_listL, Sim.x_listT, Sim.x_slL, Sim.x_slR, Sim.x_slT, Sim.callM, Sim.arrOf, List.filterMap_cons, List.filterMap_nil, List.getElem?_cons_zero, List.getElem?_cons_succ, List.cons_append, List.nil_append, List.append_nil, List.length_cons, List.length_nil, and_self, if_true, List.set_cons_zero, List.set_cons_succ, Bool.false_eq_true, if_false, Nat.reduceAdd, Nat.reduceSub, List.map_cons, List.map_nil, List.replicate_succ, List.replicate_zero, Bool.not_true, Bool.not_false, Sim.x_sized, Nat.reduceLeDiff, Nat.zero_add]
  have lt : ∀ x ∈ List.replicate q (D.int d), within x (some 0) (some (l - 1)) = true ∧ tyN x ≠ none := fun x hx => in_text ⟨d, List.eq_of_mem_replicate hx, d0, d1⟩
  have la : ((List.replicate q (D.int d)).all fun x => within x (some 0) (some (l - 1))) = true := List.all_eq_true.mpr fun x hx => (lt x hx).1
  have lg : Good (.lst (List.replicate q (D.int d))) := good_lst (by rw [List.length_replicate]; omega) fun x hx => (lt x hx).2
  have lgt : Good (.tup (List.replicate q (D.int d))) := good_tup (by rw [List.length_replicate]; omega) fun x hx => (lt x hx).2
  try simp -implicitDefEqProofs only [e_is_text lg, e_is_text lgt, e_is_text good_str, e_is_text good_non, Sim.sM_pass, Sim.sM_seq, Sim.sM_asg, Sim.sM_ret, Sim.sM_expr, Sim.sM_if, Sim.sM_par, Sim.sM_asgT, Sim.sM_set, Sim.ret_bind, Sim.bind_assoc, Sim.x_var0, Sim.x_varS, Sim.x_C, Sim.x_op, Sim.x_un, Sim.x_A, Sim.x_nil, Sim.x_cons, Sim.x_call, Sim.x_and, Sim.x_or, Sim.x_not, Sim.x_if, Sim.x_tV, Sim.x_tCmp, Sim.x_tTru, Sim.x_tNot, Sim.x_tAnd, Sim.x_tOr, Sim.x_asB, Sim.x_sl, Sim.x_oNone, Sim.x_oSome, Sim.x_asI, Sim.x_trN, Sim.x_trB, Sim.x_trI, Sim.x_trL, Sim.x_trR, Sim.x_trT, Sim.x_add, Sim.x_sub, Sim.x_neg, Sim.x_lt, Sim.x_le, Sim.x_gt, Sim.x_ge, Sim.x_abs, Sim.x_max2, Sim.x_min2, Sim.x_intI, Sim.x_intB, Sim.x_eqI, Sim.x_neI, Sim.x_eqS, Sim.x_neS, Sim.x_lst, Sim.x_tup, Sim.x_frz0, Sim.x_frzP, Sim.x_lenL, Sim.x_lenT, Sim.x_lenR, Sim.x_tupleL, Sim.x_listL, Sim.x_listT, Sim.x_slL, Sim.x_slR, Sim.x_slT, Sim.callM, Sim.arrOf, List.filterMap_cons, List.filterMap_nil, List.getElem?_cons_zero, List.getElem?_cons_succ, List.cons_append, List.nil_append, List.append_nil, List.length_cons, List.length_nil, and_self, if_true, List.set_cons_zero, List.set_cons_succ, Bool.false_eq_true, if_false, Nat.reduceAdd, Nat.reduceSub, List.map_cons, List.map_nil, List.replicate_succ, List.replicate_zero, Bool.not_true, Bool.not_false, Sim.x_sized, Nat.reduceLeDiff, Nat.zero_add]
  have w1 : decide ((q : Int) ≤ 1001) = true := decide_eq_true (by omega)
  have w2 : decide ((q : Int) ≤ 998) = false := decide_eq_false (by omega)
  have w3 : decide ((q : Int) < 1001) = decide ((q : Int) ≤ 1000) := by
    by_cases h : (q : Int) ≤ 1000
    · rw [decide_eq_true h, decide_eq_true (by omega : (q : Int) < 1001)]
    · rw [decide_eq_false h, decide_eq_false (by omega : ¬ (q : Int) < 1001)]
  simp only [seqD, la, Bool.and_true, List.length_replicate, w1, w2, w3, Bool.false_and]
  obtain ⟨S3, hS3⟩ := rep_bl [decide ((q : Int) ≤ 1000), true, false, false, false] (by cases decide ((q : Int) ≤ 1000) <;> decide)
  simp only [List.map_cons, List.map_nil] at hS3
  try simp -implicitDefEqProofs only [hS3, decide_true, Sim.sM_pass, Sim.sM_seq, Sim.sM_asg, Sim.sM_ret, Sim.sM_expr, Sim.sM_if, Sim.sM_par, Sim.sM_asgT, Sim.sM_set, Sim.ret_bind, Sim.bind_assoc, Sim.x_var0, Sim.x_varS, Sim.x_C, Sim.x_op, Sim.x_un, Sim.x_A, Sim.x_nil, Sim.x_cons, Sim.x_call, Sim.x_and, Sim.x_or, Sim.x_not, Sim.x_if, Sim.x_tV, Sim.x_tCmp, Sim.x_tTru, Sim.x_tNot, Sim.x_tAnd, Sim.x_tOr, Sim.x_asB, Sim.x_sl, Sim.x_oNone, Sim.x_oSome, Sim.x_asI, Sim.x_trN, Sim.x_trB, Sim.x_trI, Sim.x_trL, Sim.x_trR, Sim.x_trT, Sim.x_add, Sim.x_sub, Sim.x_neg, Sim.x_lt, Sim.x_le, Sim.x_gt, Sim.x_ge, Sim.x_abs, Sim.x_max2, Sim.x_min2, Sim.x_intI, Sim.x_intB, Sim.x_eqI, Sim.x_neI, Sim.x_eqS, Sim.x_neS, Sim.x_lst, Sim.x_tup, Sim.x_frz0, Sim.x_frzP, Sim.x_lenL, Sim.x_lenT, Sim.x_lenR, Sim.x_tupleL, Sim.x_listL, Sim.x_listT, Sim.x_slL, Sim.x_slR, Sim.x_slT, Sim.callM, Sim.arrOf, List.filterMap_cons, List.filterMap_nil, List.getElem?_cons_zero, List.getElem?_cons_succ, List.cons_append, List.nil_append, List.append_nil, List.length_cons, List.length_nil, and_self, if_true, List.set_cons_zero, List.set_cons_succ, Bool.false_eq_true, if_false, Nat.reduceAdd, Nat.reduceSub, List.map_cons, List.map_nil, List.replicate_succ, List.replicate_zero, Bool.not_true, Bool.not_false, Sim.x_sized, Nat.reduceLeDiff, Nat.zero_add]
  exact Rn.ret ⟨⟨_, rfl⟩, by simp⟩
theorem m_vessel (ns : List Int) (h : ns.length ≤ 16777216) : m__law_vessel [.p (.rl (ns.map D.int))] [] = .ok (.c 0) [ves (ns.take 60) 0 0] := by
  have hcut : Sim.cutD (ns.map D.int) none (some 60) = (ns.take 60).map D.int := by
    unfold Sim.cutD
    rw [HT.sIx_none, show (60 : Int) = ((60 : Nat) : Int) from rfl, HT.sIx_nat, List.drop_zero, List.map_take, List.length_map, Nat.sub_zero]
    rw [List.take_eq_take_iff]
    simp
  have hs : iSeq (eSl (eVar 0) oNone (oSome (eC (.int 60)))) [some (.p (.rl (ns.map D.int))), none] = fun st => .ok (.seq (.p (.lst ((ns.take 60).map D.int)))) st := by
    rw [x_iSeq]
    try simp -implicitDefEqProofs only [Sim.sM_pass, Sim.sM_seq, Sim.sM_asg, Sim.sM_ret, Sim.sM_expr, Sim.sM_if, Sim.sM_par, Sim.sM_asgT, Sim.sM_set, Sim.ret_bind, Sim.bind_assoc, Sim.x_var0, Sim.x_varS, Sim.x_C, Sim.x_op, Sim.x_un, Sim.x_A, Sim.x_nil, Sim.x_cons, Sim.x_call, Sim.x_and, Sim.x_or, Sim.x_not, Sim.x_if, Sim.x_tV, Sim.x_tCmp, Sim.x_tTru, Sim.x_tNot, Sim.x_tAnd, Sim.x_tOr, Sim.x_asB, Sim.x_sl, Sim.x_oNone, Sim.x_oSome, Sim.x_asI, Sim.x_trN, Sim.x_trB, Sim.x_trI, Sim.x_trL, Sim.x_trR, Sim.x_trT, Sim.x_add, Sim.x_sub, Sim.x_neg, Sim.x_lt, Sim.x_le, Sim.x_gt, Sim.x_ge, Sim.x_abs, Sim.x_max2, Sim.x_min2, Sim.x_intI, Sim.x_intB, Sim.x_eqI, Sim.x_neI, Sim.x_eqS, Sim.x_neS, Sim.x_lst, Sim.x_tup, Sim.x_frz0, Sim.x_frzP, Sim.x_lenL, Sim.x_lenT, Sim.x_lenR, Sim.x_tupleL, Sim.x_listL, Sim.x_listT, Sim.x_slL, Sim.x_slR, Sim.x_slT, Sim.callM, Sim.arrOf, List.filterMap_cons, List.filterMap_nil, List.getElem?_cons_zero, List.getElem?_cons_succ, List.cons_append, List.nil_append, List.append_nil, List.length_cons, List.length_nil, and_self, if_true, List.set_cons_zero, List.set_cons_succ, Bool.false_eq_true, if_false, Nat.reduceAdd, Nat.reduceSub, List.map_cons, List.map_nil, List.replicate_succ, List.replicate_zero, Bool.not_true, Bool.not_false, Sim.x_sized, Nat.reduceLeDiff, Nat.zero_add]
    rw [hcut]
    rfl
  have hc : eComp (iSeq (eSl (eVar 0) oNone (oSome (eC (.int 60))))) (.nm 1) tYesM (eA gInt (aCons (eVar 1) aNil)) [1] [some (.p (.rl (ns.map D.int))), none] = M.ret (.p (.lst ((ns.take 60).map D.int))) := by
    have q := Pu.eq (comp_all (mi := iSeq (eSl (eVar 0) oNone (oSome (eC (.int 60))))) (t := .nm 1) (m := eA gInt (aCons (eVar 1) aNil)) (vs := [1]) (ev := [some (.p (.rl (ns.map D.int))), none]) (v := .p (.lst ((ns.take 60).map D.int))) (xs := (ns.take 60).map D.int) (fun st => by rw [hs]) (fun _ => rfl) (fun d => d) (by simp; omega) fun d hd => ⟨[some (.p (.rl (ns.map D.int))), some (.p d)], rfl, fun st => by
      obtain ⟨i, _, rfl⟩ := List.mem_map.mp hd
      try simp -implicitDefEqProofs only [Sim.sM_pass, Sim.sM_seq, Sim.sM_asg, Sim.sM_ret, Sim.sM_expr, Sim.sM_if, Sim.sM_par, Sim.sM_asgT, Sim.sM_set, Sim.ret_bind, Sim.bind_assoc, Sim.x_var0, Sim.x_varS, Sim.x_C, Sim.x_op, Sim.x_un, Sim.x_A, Sim.x_nil, Sim.x_cons, Sim.x_call, Sim.x_and, Sim.x_or, Sim.x_not, Sim.x_if, Sim.x_tV, Sim.x_tCmp, Sim.x_tTru, Sim.x_tNot, Sim.x_tAnd, Sim.x_tOr, Sim.x_asB, Sim.x_sl, Sim.x_oNone, Sim.x_oSome, Sim.x_asI, Sim.x_trN, Sim.x_trB, Sim.x_trI, Sim.x_trL, Sim.x_trR, Sim.x_trT, Sim.x_add, Sim.x_sub, Sim.x_neg, Sim.x_lt, Sim.x_le, Sim.x_gt, Sim.x_ge, Sim.x_abs, Sim.x_max2, Sim.x_min2, Sim.x_intI, Sim.x_intB, Sim.x_eqI, Sim.x_neI, Sim.x_eqS, Sim.x_neS, Sim.x_lst, Sim.x_tup, Sim.x_frz0, Sim.x_frzP, Sim.x_lenL, Sim.x_lenT, Sim.x_lenR, Sim.x_tupleL, Sim.x_listL, Sim.x_listT, Sim.x_slL, Sim.x_slR, Sim.x_slT, Sim.callM, Sim.arrOf, List.filterMap_cons, List.filterMap_nil, List.getElem?_cons_zero, List.getElem?_cons_succ, List.cons_append, List.nil_append, List.append_nil, List.length_cons, List.length_nil, and_self, if_true, List.set_cons_zero, List.set_cons_succ, Bool.false_eq_true, if_false, Nat.reduceAdd, Nat.reduceSub, List.map_cons, List.map_nil, List.replicate_succ, List.replicate_zero, Bool.not_true, Bool.not_false, Sim.x_sized, Nat.reduceLeDiff, Nat.zero_add]
      rfl⟩)
    rw [List.map_id'] at q
    exact q
  have hb : sM d__law_vessel [some (.p (.rl (ns.map D.int))), none] [] = .ok (.inr (.c 0)) [ves (ns.take 60) 0 0] := by
    unfold d__law_vessel
    try simp -implicitDefEqProofs only [hc, Sim.sM_pass, Sim.sM_seq, Sim.sM_asg, Sim.sM_ret, Sim.sM_expr, Sim.sM_if, Sim.sM_par, Sim.sM_asgT, Sim.sM_set, Sim.ret_bind, Sim.bind_assoc, Sim.x_var0, Sim.x_varS, Sim.x_C, Sim.x_op, Sim.x_un, Sim.x_A, Sim.x_nil, Sim.x_cons, Sim.x_call, Sim.x_and, Sim.x_or, Sim.x_not, Sim.x_if, Sim.x_tV, Sim.x_tCmp, Sim.x_tTru, Sim.x_tNot, Sim.x_tAnd, Sim.x_tOr, Sim.x_asB, Sim.x_sl, Sim.x_oNone, Sim.x_oSome, Sim.x_asI, Sim.x_trN, Sim.x_trB, Sim.x_trI, Sim.x_trL, Sim.x_trR, Sim.x_trT, Sim.x_add, Sim.x_sub, Sim.x_neg, Sim.x_lt, Sim.x_le, Sim.x_gt, Sim.x_ge, Sim.x_abs, Sim.x_max2, Sim.x_min2, Sim.x_intI, Sim.x_intB, Sim.x_eqI, Sim.x_neI, Sim.x_eqS, Sim.x_neS, Sim.x_lst, Sim.x_tup, Sim.x_frz0, Sim.x_frzP, Sim.x_lenL, Sim.x_lenT, Sim.x_lenR, Sim.x_tupleL, Sim.x_listL, Sim.x_listT, Sim.x_slL, Sim.x_slR, Sim.x_slT, Sim.callM, Sim.arrOf, List.filterMap_cons, List.filterMap_nil, List.getElem?_cons_zero, List.getElem?_cons_succ, List.cons_append, List.nil_append, List.append_nil, List.length_cons, List.length_nil, and_self, if_true, List.set_cons_zero, List.set_cons_succ, Bool.false_eq_true, if_false, Nat.reduceAdd, Nat.reduceSub, List.map_cons, List.map_nil, List.replicate_succ, List.replicate_zero, Bool.not_true, Bool.not_false, Sim.x_sized, Nat.reduceLeDiff, Nat.zero_add]
    rfl
  unfold sM at hb
  show (match d__law_vessel [some (.p (.rl (ns.map D.int))), none] [] with | .rt v st' => exitC 0 v st' | .nx _ st' => .ok (.p .non) (st'.take 0) | .ex e _ st' => .exn e (st'.take 0) | _ => .stuck) = _
  cases q : d__law_vessel [some (.p (.rl (ns.map D.int))), none] [] with
  | stuck => rw [q] at hb; cases hb
  | bk _ _ => rw [q] at hb; cases hb
  | ct _ _ => rw [q] at hb; cases hb
  | ex _ _ _ => rw [q] at hb; cases hb
  | nx ev' st' => rw [q] at hb; cases hb
  | rt v st' =>
    rw [q] at hb
    cases hb
    rfl
theorem opt_mem {d : D} {l : Int} (h : d ∈ [D.int l, D.non]) : ∃ o, d = optD o := by
  simp only [List.mem_cons, List.not_mem_nil, or_false] at h
  rcases h with rfl | rfl
  · exact ⟨some l, rfl⟩
  · exact ⟨none, rfl⟩
theorem Rn.run {cells : List Int} {k : Nat} {α β : Type} {m : M α} {f : α → M β} {R : Res β → Prop} {c : Nat} {P : α → Prop} {st : Store} {t r : Int} (h : Rn cells k m c P) (hk : st[k]? = some (ves cells t r)) (h0 : 0 ≤ t) (hb : t + c ≤ 1000000) (hr : 0 ≤ r) (h2 : ∀ a t' r', 0 ≤ t' → P a → R (f a (st.set k (ves cells t' r')))) : R ((m.bind f) st) := by
  obtain ⟨a, t', r', e, a1, a2, a3, p⟩ := h st t r hk h0 hb hr
  rw [bind_ok e]
  exact h2 a t' r' a1 p
def Slots (k : Nat) (s : Vl) (ev : Ev) : Prop := ∃ o2 o3 o4 o5 o6 o7 o8 o9, ev = [some s, some (.c k), o2, o3, o4, o5, o6, o7, o8, o9]
theorem e_due {d : D} {lo hi : Option Int} (h : tyN d ≠ none) {o0 o1 o2 o3 o4 o5 o9 : Option Vl} : (eAnd (eCall 1 0 1 [] [0] m__law_own_integer (aCons (eVar 6) aNil) aNil) (eAnd (eOr (eOp (gIs false) (eVar 7) (eC .non)) (eOp gGe (eVar 6) (eVar 7))) (eOr (eOp (gIs false) (eVar 8) (eC .non)) (eOp gLe (eVar 6) (eVar 8))))) [o0, o1, o2, o3, o4, o5, some (.p d), some (.p (optD lo)), some (.p (optD hi)), o9] = M.ret (.p (.bl (within d lo hi))) := by
  try simp -implicitDefEqProofs only [Sim.sM_pass, Sim.sM_seq, Sim.sM_asg, Sim.sM_ret, Sim.sM_expr, Sim.sM_if, Sim.sM_par, Sim.sM_asgT, Sim.sM_set, Sim.ret_bind, Sim.bind_assoc, Sim.x_var0, Sim.x_varS, Sim.x_C, Sim.x_op, Sim.x_un, Sim.x_A, Sim.x_nil, Sim.x_cons, Sim.x_call, Sim.x_and, Sim.x_or, Sim.x_not, Sim.x_if, Sim.x_tV, Sim.x_tCmp, Sim.x_tTru, Sim.x_tNot, Sim.x_tAnd, Sim.x_tOr, Sim.x_asB, Sim.x_sl, Sim.x_oNone, Sim.x_oSome, Sim.x_asI, Sim.x_trN, Sim.x_trB, Sim.x_trI, Sim.x_trL, Sim.x_trR, Sim.x_trT, Sim.x_add, Sim.x_sub, Sim.x_neg, Sim.x_lt, Sim.x_le, Sim.x_gt, Sim.x_ge, Sim.x_abs, Sim.x_max2, Sim.x_min2, Sim.x_intI, Sim.x_intB, Sim.x_eqI, Sim.x_neI, Sim.x_eqS, Sim.x_neS, Sim.x_lst, Sim.x_tup, Sim.x_frz0, Sim.x_frzP, Sim.x_lenL, Sim.x_lenT, Sim.x_lenR, Sim.x_tupleL, Sim.x_listL, Sim.x_listT, Sim.x_slL, Sim.x_slR, Sim.x_slT, Sim.callM, Sim.arrOf, List.filterMap_cons, List.filterMap_nil, List.getElem?_cons_zero, List.getElem?_cons_succ, List.cons_append, List.nil_append, List.append_nil, List.length_cons, List.length_nil, and_self, if_true, List.set_cons_zero, List.set_cons_succ, Bool.false_eq_true, if_false, Nat.reduceAdd, Nat.reduceSub, List.map_cons, List.map_nil, List.replicate_succ, List.replicate_zero, Bool.not_true, Bool.not_false, Sim.x_sized, Nat.reduceLeDiff, Nat.zero_add]
  rw [e_own_integer h]
  try simp -implicitDefEqProofs only [Sim.sM_pass, Sim.sM_seq, Sim.sM_asg, Sim.sM_ret, Sim.sM_expr, Sim.sM_if, Sim.sM_par, Sim.sM_asgT, Sim.sM_set, Sim.ret_bind, Sim.bind_assoc, Sim.x_var0, Sim.x_varS, Sim.x_C, Sim.x_op, Sim.x_un, Sim.x_A, Sim.x_nil, Sim.x_cons, Sim.x_call, Sim.x_and, Sim.x_or, Sim.x_not, Sim.x_if, Sim.x_tV, Sim.x_tCmp, Sim.x_tTru, Sim.x_tNot, Sim.x_tAnd, Sim.x_tOr, Sim.x_asB, Sim.x_sl, Sim.x_oNone, Sim.x_oSome, Sim.x_asI, Sim.x_trN, Sim.x_trB, Sim.x_trI, Sim.x_trL, Sim.x_trR, Sim.x_trT, Sim.x_add, Sim.x_sub, Sim.x_neg, Sim.x_lt, Sim.x_le, Sim.x_gt, Sim.x_ge, Sim.x_abs, Sim.x_max2, Sim.x_min2, Sim.x_intI, Sim.x_intB, Sim.x_eqI, Sim.x_neI, Sim.x_eqS, Sim.x_neS, Sim.x_lst, Sim.x_tup, Sim.x_frz0, Sim.x_frzP, Sim.x_lenL, Sim.x_lenT, Sim.x_lenR, Sim.x_tupleL, Sim.x_listL, Sim.x_listT, Sim.x_slL, Sim.x_slR, Sim.x_slT, Sim.callM, Sim.arrOf, List.filterMap_cons, List.filterMap_nil, List.getElem?_cons_zero, List.getElem?_cons_succ, List.cons_append, List.nil_append, List.append_nil, List.length_cons, List.length_nil, and_self, if_true, List.set_cons_zero, List.set_cons_succ, Bool.false_eq_true, if_false, Nat.reduceAdd, Nat.reduceSub, List.map_cons, List.map_nil, List.replicate_succ, List.replicate_zero, Bool.not_true, Bool.not_false, Sim.x_sized, Nat.reduceLeDiff, Nat.zero_add]
  cases d <;> simp only [isIntD, within] <;> try simp -implicitDefEqProofs only [Sim.sM_pass, Sim.sM_seq, Sim.sM_asg, Sim.sM_ret, Sim.sM_expr, Sim.sM_if, Sim.sM_par, Sim.sM_asgT, Sim.sM_set, Sim.ret_bind, Sim.bind_assoc, Sim.x_var0, Sim.x_varS, Sim.x_C, Sim.x_op, Sim.x_un, Sim.x_A, Sim.x_nil, Sim.x_cons, Sim.x_call, Sim.x_and, Sim.x_or, Sim.x_not, Sim.x_if, Sim.x_tV, Sim.x_tCmp, Sim.x_tTru, Sim.x_tNot, Sim.x_tAnd, Sim.x_tOr, Sim.x_asB, Sim.x_sl, Sim.x_oNone, Sim.x_oSome, Sim.x_asI, Sim.x_trN, Sim.x_trB, Sim.x_trI, Sim.x_trL, Sim.x_trR, Sim.x_trT, Sim.x_add, Sim.x_sub, Sim.x_neg, Sim.x_lt, Sim.x_le, Sim.x_gt, Sim.x_ge, Sim.x_abs, Sim.x_max2, Sim.x_min2, Sim.x_intI, Sim.x_intB, Sim.x_eqI, Sim.x_neI, Sim.x_eqS, Sim.x_neS, Sim.x_lst, Sim.x_tup, Sim.x_frz0, Sim.x_frzP, Sim.x_lenL, Sim.x_lenT, Sim.x_lenR, Sim.x_tupleL, Sim.x_listL, Sim.x_listT, Sim.x_slL, Sim.x_slR, Sim.x_slT, Sim.callM, Sim.arrOf, List.filterMap_cons, List.filterMap_nil, List.getElem?_cons_zero, List.getElem?_cons_succ, List.cons_append, List.nil_append, List.append_nil, List.length_cons, List.length_nil, and_self, if_true, List.set_cons_zero, List.set_cons_succ, Bool.false_eq_true, if_false, Nat.reduceAdd, Nat.reduceSub, List.map_cons, List.map_nil, List.replicate_succ, List.replicate_zero, Bool.not_true, Bool.not_false, Sim.x_sized, Nat.reduceLeDiff, Nat.zero_add]
  rename_i i
  cases lo <;> cases hi <;> simp only [optD, x_isN] <;> try simp -implicitDefEqProofs only [Sim.sM_pass, Sim.sM_seq, Sim.sM_asg, Sim.sM_ret, Sim.sM_expr, Sim.sM_if, Sim.sM_par, Sim.sM_asgT, Sim.sM_set, Sim.ret_bind, Sim.bind_assoc, Sim.x_var0, Sim.x_varS, Sim.x_C, Sim.x_op, Sim.x_un, Sim.x_A, Sim.x_nil, Sim.x_cons, Sim.x_call, Sim.x_and, Sim.x_or, Sim.x_not, Sim.x_if, Sim.x_tV, Sim.x_tCmp, Sim.x_tTru, Sim.x_tNot, Sim.x_tAnd, Sim.x_tOr, Sim.x_asB, Sim.x_sl, Sim.x_oNone, Sim.x_oSome, Sim.x_asI, Sim.x_trN, Sim.x_trB, Sim.x_trI, Sim.x_trL, Sim.x_trR, Sim.x_trT, Sim.x_add, Sim.x_sub, Sim.x_neg, Sim.x_lt, Sim.x_le, Sim.x_gt, Sim.x_ge, Sim.x_abs, Sim.x_max2, Sim.x_min2, Sim.x_intI, Sim.x_intB, Sim.x_eqI, Sim.x_neI, Sim.x_eqS, Sim.x_neS, Sim.x_lst, Sim.x_tup, Sim.x_frz0, Sim.x_frzP, Sim.x_lenL, Sim.x_lenT, Sim.x_lenR, Sim.x_tupleL, Sim.x_listL, Sim.x_listT, Sim.x_slL, Sim.x_slR, Sim.x_slT, Sim.callM, Sim.arrOf, List.filterMap_cons, List.filterMap_nil, List.getElem?_cons_zero, List.getElem?_cons_succ, List.cons_append, List.nil_append, List.append_nil, List.length_cons, List.length_nil, and_self, if_true, List.set_cons_zero, List.set_cons_succ, Bool.false_eq_true, if_false, Nat.reduceAdd, Nat.reduceSub, List.map_cons, List.map_nil, List.replicate_succ, List.replicate_zero, Bool.not_true, Bool.not_false, Sim.x_sized, Nat.reduceLeDiff, Nat.zero_add]
  · rfl
  · rfl
  · rename_i l; cases decide (l ≤ i) <;> rfl
  · rename_i l u; cases decide (l ≤ i) <;> rfl
theorem law_true : ∀ ns : List Int, ns.length ≤ 63 → ∃ st', m_law [.p (.rl (ns.map D.int))] [] = .ok (.p (.bl true)) st' := by
  intro ns hns
  have key : ∃ st', sM d_law [some (.p (.rl (ns.map D.int))), none, none, none, none, none, none, none, none, none] [] = .ok (.inr (.p (.bl true))) st' := by
    unfold d_law
    rw [sM_seq, sM_asg]
    try simp -implicitDefEqProofs only [Sim.sM_pass, Sim.sM_seq, Sim.sM_asg, Sim.sM_ret, Sim.sM_expr, Sim.sM_if, Sim.sM_par, Sim.sM_asgT, Sim.sM_set, Sim.ret_bind, Sim.bind_assoc, Sim.x_var0, Sim.x_varS, Sim.x_C, Sim.x_op, Sim.x_un, Sim.x_A, Sim.x_nil, Sim.x_cons, Sim.x_call, Sim.x_and, Sim.x_or, Sim.x_not, Sim.x_if, Sim.x_tV, Sim.x_tCmp, Sim.x_tTru, Sim.x_tNot, Sim.x_tAnd, Sim.x_tOr, Sim.x_asB, Sim.x_sl, Sim.x_oNone, Sim.x_oSome, Sim.x_asI, Sim.x_trN, Sim.x_trB, Sim.x_trI, Sim.x_trL, Sim.x_trR, Sim.x_trT, Sim.x_add, Sim.x_sub, Sim.x_neg, Sim.x_lt, Sim.x_le, Sim.x_gt, Sim.x_ge, Sim.x_abs, Sim.x_max2, Sim.x_min2, Sim.x_intI, Sim.x_intB, Sim.x_eqI, Sim.x_neI, Sim.x_eqS, Sim.x_neS, Sim.x_lst, Sim.x_tup, Sim.x_frz0, Sim.x_frzP, Sim.x_lenL, Sim.x_lenT, Sim.x_lenR, Sim.x_tupleL, Sim.x_listL, Sim.x_listT, Sim.x_slL, Sim.x_slR, Sim.x_slT, Sim.callM, Sim.arrOf, List.filterMap_cons, List.filterMap_nil, List.getElem?_cons_zero, List.getElem?_cons_succ, List.cons_append, List.nil_append, List.append_nil, List.length_cons, List.length_nil, and_self, if_true, List.set_cons_zero, List.set_cons_succ, Bool.false_eq_true, if_false, Nat.reduceAdd, Nat.reduceSub, List.map_cons, List.map_nil, List.replicate_succ, List.replicate_zero, Bool.not_true, Bool.not_false, Sim.x_sized, Nat.reduceLeDiff, Nat.zero_add]
    rw [bind_ok (m_vessel ns (by omega))]
    refine Rn.run (R := fun x => ∃ st', x = Res.ok (Sum.inr (Vl.p (.bl true))) st') (cells := ns.take 60) (k := 0) (t := 0) (r := 0) (Rn.for (t := .nm 2) (lo := 0) (n := 4) (c := 200) (I := fun _ ev => Slots 0 (.p (.rl (ns.map D.int))) ev) (R := fun _ => False) (fun st => ?rng) (by decide) ⟨_, _, _, _, _, _, _, _, rfl⟩ (fun i ev hi ⟨o2, o3, o4, o5, o6, o7, o8, o9, e⟩ => ⟨[some (.p (.rl (ns.map D.int))), some (.c 0), some (.p (.int (0 + (i : Nat)))), o3, o4, o5, o6, o7, o8, o9], by subst e; rfl, ?turn⟩)) rfl (by decide) (by decide) (by decide) ?rest
    case rng =>
      rw [x_iRng1]
      try simp -implicitDefEqProofs only [Sim.sM_pass, Sim.sM_seq, Sim.sM_asg, Sim.sM_ret, Sim.sM_expr, Sim.sM_if, Sim.sM_par, Sim.sM_asgT, Sim.sM_set, Sim.ret_bind, Sim.bind_assoc, Sim.x_var0, Sim.x_varS, Sim.x_C, Sim.x_op, Sim.x_un, Sim.x_A, Sim.x_nil, Sim.x_cons, Sim.x_call, Sim.x_and, Sim.x_or, Sim.x_not, Sim.x_if, Sim.x_tV, Sim.x_tCmp, Sim.x_tTru, Sim.x_tNot, Sim.x_tAnd, Sim.x_tOr, Sim.x_asB, Sim.x_sl, Sim.x_oNone, Sim.x_oSome, Sim.x_asI, Sim.x_trN, Sim.x_trB, Sim.x_trI, Sim.x_trL, Sim.x_trR, Sim.x_trT, Sim.x_add, Sim.x_sub, Sim.x_neg, Sim.x_lt, Sim.x_le, Sim.x_gt, Sim.x_ge, Sim.x_abs, Sim.x_max2, Sim.x_min2, Sim.x_intI, Sim.x_intB, Sim.x_eqI, Sim.x_neI, Sim.x_eqS, Sim.x_neS, Sim.x_lst, Sim.x_tup, Sim.x_frz0, Sim.x_frzP, Sim.x_lenL, Sim.x_lenT, Sim.x_lenR, Sim.x_tupleL, Sim.x_listL, Sim.x_listT, Sim.x_slL, Sim.x_slR, Sim.x_slT, Sim.callM, Sim.arrOf, List.filterMap_cons, List.filterMap_nil, List.getElem?_cons_zero, List.getElem?_cons_succ, List.cons_append, List.nil_append, List.append_nil, List.length_cons, List.length_nil, and_self, if_true, List.set_cons_zero, List.set_cons_succ, Bool.false_eq_true, if_false, Nat.reduceAdd, Nat.reduceSub, List.map_cons, List.map_nil, List.replicate_succ, List.replicate_zero, Bool.not_true, Bool.not_false, Sim.x_sized, Nat.reduceLeDiff, Nat.zero_add]
      rw [x_rng1 (by decide)]
      rfl
    case rest =>
      intro a t' r' _ ha
      cases a with
      | inr v => exact ha.elim
      | inl ev => try simp -implicitDefEqProofs only [Sim.sM_pass, Sim.sM_seq, Sim.sM_asg, Sim.sM_ret, Sim.sM_expr, Sim.sM_if, Sim.sM_par, Sim.sM_asgT, Sim.sM_set, Sim.ret_bind, Sim.bind_assoc, Sim.x_var0, Sim.x_varS, Sim.x_C, Sim.x_op, Sim.x_un, Sim.x_A, Sim.x_nil, Sim.x_cons, Sim.x_call, Sim.x_and, Sim.x_or, Sim.x_not, Sim.x_if, Sim.x_tV, Sim.x_tCmp, Sim.x_tTru, Sim.x_tNot, Sim.x_tAnd, Sim.x_tOr, Sim.x_asB, Sim.x_sl, Sim.x_oNone, Sim.x_oSome, Sim.x_asI, Sim.x_trN, Sim.x_trB, Sim.x_trI, Sim.x_trL, Sim.x_trR, Sim.x_trT, Sim.x_add, Sim.x_sub, Sim.x_neg, Sim.x_lt, Sim.x_le, Sim.x_gt, Sim.x_ge, Sim.x_abs, Sim.x_max2, Sim.x_min2, Sim.x_intI, Sim.x_intB, Sim.x_eqI, Sim.x_neI, Sim.x_eqS, Sim.x_neS, Sim.x_lst, Sim.x_tup, Sim.x_frz0, Sim.x_frzP, Sim.x_lenL, Sim.x_lenT, Sim.x_lenR, Sim.x_tupleL, Sim.x_listL, Sim.x_listT, Sim.x_slL, Sim.x_slR, Sim.x_slT, Sim.callM, Sim.arrOf, List.filterMap_cons, List.filterMap_nil, List.getElem?_cons_zero, List.getElem?_cons_succ, List.cons_append, List.nil_append, List.append_nil, List.length_cons, List.length_nil, and_self, if_true, List.set_cons_zero, List.set_cons_succ, Bool.false_eq_true, if_false, Nat.reduceAdd, Nat.reduceSub, List.map_cons, List.map_nil, List.replicate_succ, List.replicate_zero, Bool.not_true, Bool.not_false, Sim.x_sized, Nat.reduceLeDiff, Nat.zero_add]; exact ⟨_, rfl⟩
    case turn =>
      try simp -implicitDefEqProofs only [Sim.sM_pass, Sim.sM_seq, Sim.sM_asg, Sim.sM_ret, Sim.sM_expr, Sim.sM_if, Sim.sM_par, Sim.sM_asgT, Sim.sM_set, Sim.ret_bind, Sim.bind_assoc, Sim.x_var0, Sim.x_varS, Sim.x_C, Sim.x_op, Sim.x_un, Sim.x_A, Sim.x_nil, Sim.x_cons, Sim.x_call, Sim.x_not, Sim.x_if, Sim.x_tV, Sim.x_tCmp, Sim.x_tTru, Sim.x_tNot, Sim.x_tAnd, Sim.x_tOr, Sim.x_asB, Sim.x_sl, Sim.x_oNone, Sim.x_oSome, Sim.x_asI, Sim.x_trN, Sim.x_trB, Sim.x_trI, Sim.x_trL, Sim.x_trR, Sim.x_trT, Sim.x_add, Sim.x_sub, Sim.x_neg, Sim.x_lt, Sim.x_le, Sim.x_gt, Sim.x_ge, Sim.x_abs, Sim.x_max2, Sim.x_min2, Sim.x_intI, Sim.x_intB, Sim.x_eqI, Sim.x_neI, Sim.x_eqS, Sim.x_neS, Sim.x_lst, Sim.x_tup, Sim.x_frz0, Sim.x_frzP, Sim.x_lenL, Sim.x_lenT, Sim.x_lenR, Sim.x_tupleL, Sim.x_listL, Sim.x_listT, Sim.x_slL, Sim.x_slR, Sim.x_slT, Sim.callM, Sim.arrOf, List.filterMap_cons, List.filterMap_nil, List.getElem?_cons_zero, List.getElem?_cons_succ, List.cons_append, List.nil_append, List.append_nil, List.length_cons, List.length_nil, and_self, if_true, List.set_cons_zero, List.set_cons_succ, Bool.false_eq_true, if_false, Nat.reduceAdd, Nat.reduceSub, List.map_cons, List.map_nil, List.replicate_succ, List.replicate_zero, Bool.not_true, Bool.not_false, Sim.x_sized, Nat.reduceLeDiff, Nat.zero_add]
      refine Rn.step r_value fun v ⟨val, e, hv⟩ => ?_
      subst e
      try simp -implicitDefEqProofs only [Sim.sM_pass, Sim.sM_seq, Sim.sM_asg, Sim.sM_ret, Sim.sM_expr, Sim.sM_if, Sim.sM_par, Sim.sM_asgT, Sim.sM_set, Sim.ret_bind, Sim.bind_assoc, Sim.x_var0, Sim.x_varS, Sim.x_C, Sim.x_op, Sim.x_un, Sim.x_A, Sim.x_nil, Sim.x_cons, Sim.x_call, Sim.x_not, Sim.x_if, Sim.x_tV, Sim.x_tCmp, Sim.x_tTru, Sim.x_tNot, Sim.x_tAnd, Sim.x_tOr, Sim.x_asB, Sim.x_sl, Sim.x_oNone, Sim.x_oSome, Sim.x_asI, Sim.x_trN, Sim.x_trB, Sim.x_trI, Sim.x_trL, Sim.x_trR, Sim.x_trT, Sim.x_add, Sim.x_sub, Sim.x_neg, Sim.x_lt, Sim.x_le, Sim.x_gt, Sim.x_ge, Sim.x_abs, Sim.x_max2, Sim.x_min2, Sim.x_intI, Sim.x_intB, Sim.x_eqI, Sim.x_neI, Sim.x_eqS, Sim.x_neS, Sim.x_lst, Sim.x_tup, Sim.x_frz0, Sim.x_frzP, Sim.x_lenL, Sim.x_lenT, Sim.x_lenR, Sim.x_tupleL, Sim.x_listL, Sim.x_listT, Sim.x_slL, Sim.x_slR, Sim.x_slT, Sim.callM, Sim.arrOf, List.filterMap_cons, List.filterMap_nil, List.getElem?_cons_zero, List.getElem?_cons_succ, List.cons_append, List.nil_append, List.append_nil, List.length_cons, List.length_nil, and_self, if_true, List.set_cons_zero, List.set_cons_succ, Bool.false_eq_true, if_false, Nat.reduceAdd, Nat.reduceSub, List.map_cons, List.map_nil, List.replicate_succ, List.replicate_zero, Bool.not_true, Bool.not_false, Sim.x_sized, Nat.reduceLeDiff, Nat.zero_add]
      refine Rn.step (r_draught (by decide) (by decide)) fun v ⟨d1, e, _, _⟩ => ?_
      subst e
      try simp -implicitDefEqProofs only [Sim.sM_pass, Sim.sM_seq, Sim.sM_asg, Sim.sM_ret, Sim.sM_expr, Sim.sM_if, Sim.sM_par, Sim.sM_asgT, Sim.sM_set, Sim.ret_bind, Sim.bind_assoc, Sim.x_var0, Sim.x_varS, Sim.x_C, Sim.x_op, Sim.x_un, Sim.x_A, Sim.x_nil, Sim.x_cons, Sim.x_call, Sim.x_not, Sim.x_if, Sim.x_tV, Sim.x_tCmp, Sim.x_tTru, Sim.x_tNot, Sim.x_tAnd, Sim.x_tOr, Sim.x_asB, Sim.x_sl, Sim.x_oNone, Sim.x_oSome, Sim.x_asI, Sim.x_trN, Sim.x_trB, Sim.x_trI, Sim.x_trL, Sim.x_trR, Sim.x_trT, Sim.x_add, Sim.x_sub, Sim.x_neg, Sim.x_lt, Sim.x_le, Sim.x_gt, Sim.x_ge, Sim.x_abs, Sim.x_max2, Sim.x_min2, Sim.x_intI, Sim.x_intB, Sim.x_eqI, Sim.x_neI, Sim.x_eqS, Sim.x_neS, Sim.x_lst, Sim.x_tup, Sim.x_frz0, Sim.x_frzP, Sim.x_lenL, Sim.x_lenT, Sim.x_lenR, Sim.x_tupleL, Sim.x_listL, Sim.x_listT, Sim.x_slL, Sim.x_slR, Sim.x_slT, Sim.callM, Sim.arrOf, List.filterMap_cons, List.filterMap_nil, List.getElem?_cons_zero, List.getElem?_cons_succ, List.cons_append, List.nil_append, List.append_nil, List.length_cons, List.length_nil, and_self, if_true, List.set_cons_zero, List.set_cons_succ, Bool.false_eq_true, if_false, Nat.reduceAdd, Nat.reduceSub, List.map_cons, List.map_nil, List.replicate_succ, List.replicate_zero, Bool.not_true, Bool.not_false, Sim.x_sized, Nat.reduceLeDiff, Nat.zero_add]
      refine Rn.step (r_draught (by decide) (by decide)) fun v ⟨d2, e, _, _⟩ => ?_
      subst e
      try simp -implicitDefEqProofs only [Sim.sM_pass, Sim.sM_seq, Sim.sM_asg, Sim.sM_ret, Sim.sM_expr, Sim.sM_if, Sim.sM_par, Sim.sM_asgT, Sim.sM_set, Sim.ret_bind, Sim.bind_assoc, Sim.x_var0, Sim.x_varS, Sim.x_C, Sim.x_op, Sim.x_un, Sim.x_A, Sim.x_nil, Sim.x_cons, Sim.x_call, Sim.x_not, Sim.x_if, Sim.x_tV, Sim.x_tCmp, Sim.x_tTru, Sim.x_tNot, Sim.x_tAnd, Sim.x_tOr, Sim.x_asB, Sim.x_sl, Sim.x_oNone, Sim.x_oSome, Sim.x_asI, Sim.x_trN, Sim.x_trB, Sim.x_trI, Sim.x_trL, Sim.x_trR, Sim.x_trT, Sim.x_add, Sim.x_sub, Sim.x_neg, Sim.x_lt, Sim.x_le, Sim.x_gt, Sim.x_ge, Sim.x_abs, Sim.x_max2, Sim.x_min2, Sim.x_intI, Sim.x_intB, Sim.x_eqI, Sim.x_neI, Sim.x_eqS, Sim.x_neS, Sim.x_lst, Sim.x_tup, Sim.x_frz0, Sim.x_frzP, Sim.x_lenL, Sim.x_lenT, Sim.x_lenR, Sim.x_tupleL, Sim.x_listL, Sim.x_listT, Sim.x_slL, Sim.x_slR, Sim.x_slT, Sim.callM, Sim.arrOf, List.filterMap_cons, List.filterMap_nil, List.getElem?_cons_zero, List.getElem?_cons_succ, List.cons_append, List.nil_append, List.append_nil, List.length_cons, List.length_nil, and_self, if_true, List.set_cons_zero, List.set_cons_succ, Bool.false_eq_true, if_false, Nat.reduceAdd, Nat.reduceSub, List.map_cons, List.map_nil, List.replicate_succ, List.replicate_zero, Bool.not_true, Bool.not_false, Sim.x_sized, Nat.reduceLeDiff, Nat.zero_add]
      refine Rn.step (r_cupful (by simp) (by simp)) fun v ⟨num, e, hn⟩ => ?_
      subst e
      have hnt : tyN num ≠ none := by
        simp only [List.mem_cons, List.not_mem_nil, or_false] at hn
        rcases hn with rfl | rfl | rfl | rfl | rfl | rfl <;> first | exact hv | simp [tyN]
      try simp -implicitDefEqProofs only [Sim.sM_pass, Sim.sM_seq, Sim.sM_asg, Sim.sM_ret, Sim.sM_expr, Sim.sM_if, Sim.sM_par, Sim.sM_asgT, Sim.sM_set, Sim.ret_bind, Sim.bind_assoc, Sim.x_var0, Sim.x_varS, Sim.x_C, Sim.x_op, Sim.x_un, Sim.x_A, Sim.x_nil, Sim.x_cons, Sim.x_call, Sim.x_not, Sim.x_if, Sim.x_tV, Sim.x_tCmp, Sim.x_tTru, Sim.x_tNot, Sim.x_tAnd, Sim.x_tOr, Sim.x_asB, Sim.x_sl, Sim.x_oNone, Sim.x_oSome, Sim.x_asI, Sim.x_trN, Sim.x_trB, Sim.x_trI, Sim.x_trL, Sim.x_trR, Sim.x_trT, Sim.x_add, Sim.x_sub, Sim.x_neg, Sim.x_lt, Sim.x_le, Sim.x_gt, Sim.x_ge, Sim.x_abs, Sim.x_max2, Sim.x_min2, Sim.x_intI, Sim.x_intB, Sim.x_eqI, Sim.x_neI, Sim.x_eqS, Sim.x_neS, Sim.x_lst, Sim.x_tup, Sim.x_frz0, Sim.x_frzP, Sim.x_lenL, Sim.x_lenT, Sim.x_lenR, Sim.x_tupleL, Sim.x_listL, Sim.x_listT, Sim.x_slL, Sim.x_slR, Sim.x_slT, Sim.callM, Sim.arrOf, List.filterMap_cons, List.filterMap_nil, List.getElem?_cons_zero, List.getElem?_cons_succ, List.cons_append, List.nil_append, List.append_nil, List.length_cons, List.length_nil, and_self, if_true, List.set_cons_zero, List.set_cons_succ, Bool.false_eq_true, if_false, Nat.reduceAdd, Nat.reduceSub, List.map_cons, List.map_nil, List.replicate_succ, List.replicate_zero, Bool.not_true, Bool.not_false, Sim.x_sized, Nat.reduceLeDiff, Nat.zero_add]
      refine Rn.step (r_cupful (by simp) (by simp)) fun v ⟨lod, e, hlo⟩ => ?_
      subst e
      try simp -implicitDefEqProofs only [Sim.sM_pass, Sim.sM_seq, Sim.sM_asg, Sim.sM_ret, Sim.sM_expr, Sim.sM_if, Sim.sM_par, Sim.sM_asgT, Sim.sM_set, Sim.ret_bind, Sim.bind_assoc, Sim.x_var0, Sim.x_varS, Sim.x_C, Sim.x_op, Sim.x_un, Sim.x_A, Sim.x_nil, Sim.x_cons, Sim.x_call, Sim.x_not, Sim.x_if, Sim.x_tV, Sim.x_tCmp, Sim.x_tTru, Sim.x_tNot, Sim.x_tAnd, Sim.x_tOr, Sim.x_asB, Sim.x_sl, Sim.x_oNone, Sim.x_oSome, Sim.x_asI, Sim.x_trN, Sim.x_trB, Sim.x_trI, Sim.x_trL, Sim.x_trR, Sim.x_trT, Sim.x_add, Sim.x_sub, Sim.x_neg, Sim.x_lt, Sim.x_le, Sim.x_gt, Sim.x_ge, Sim.x_abs, Sim.x_max2, Sim.x_min2, Sim.x_intI, Sim.x_intB, Sim.x_eqI, Sim.x_neI, Sim.x_eqS, Sim.x_neS, Sim.x_lst, Sim.x_tup, Sim.x_frz0, Sim.x_frzP, Sim.x_lenL, Sim.x_lenT, Sim.x_lenR, Sim.x_tupleL, Sim.x_listL, Sim.x_listT, Sim.x_slL, Sim.x_slR, Sim.x_slT, Sim.callM, Sim.arrOf, List.filterMap_cons, List.filterMap_nil, List.getElem?_cons_zero, List.getElem?_cons_succ, List.cons_append, List.nil_append, List.append_nil, List.length_cons, List.length_nil, and_self, if_true, List.set_cons_zero, List.set_cons_succ, Bool.false_eq_true, if_false, Nat.reduceAdd, Nat.reduceSub, List.map_cons, List.map_nil, List.replicate_succ, List.replicate_zero, Bool.not_true, Bool.not_false, Sim.x_sized, Nat.reduceLeDiff, Nat.zero_add]
      refine Rn.step (r_cupful (by simp) (by simp)) fun v ⟨hid, e, hhi⟩ => ?_
      subst e
      obtain ⟨lo, rfl⟩ := opt_mem hlo
      obtain ⟨hi2, rfl⟩ := opt_mem hhi
      simp only [sM_seq, sM_asg, sM_if, bind_assoc, ret_bind, List.set_cons_succ, List.set_cons_zero, e_due hnt]
      obtain ⟨S1, h1⟩ := rep_b (isIntD num)
      obtain ⟨S2, h2⟩ := rep_b (within num lo hi2)
      obtain ⟨S3, h3⟩ := rep_bl [isListD val, true, true] (by cases isListD val <;> decide)
      simp only [List.map_cons, List.map_nil] at h3
      have ht1 : tyN (.lst [val]) ≠ none := by simp [tyN]
      have ht2 : tyN (.tup [val]) ≠ none := by simp [tyN]
      have hx1 : isListD (.lst [val]) = true := rfl
      have hx2 : isListD (.tup [val]) = true := rfl
      try simp -implicitDefEqProofs only [e_is_integer hnt, e_own_integer hnt, e_is_within hnt, e_is_list hv, e_is_list ht1, e_is_list ht2, isi_list hv, hx1, hx2, h1, h2, h3, decide_true, Sim.sM_pass, Sim.sM_seq, Sim.sM_asg, Sim.sM_ret, Sim.sM_expr, Sim.sM_if, Sim.sM_par, Sim.sM_asgT, Sim.sM_set, Sim.ret_bind, Sim.bind_assoc, Sim.x_var0, Sim.x_varS, Sim.x_C, Sim.x_op, Sim.x_un, Sim.x_A, Sim.x_nil, Sim.x_cons, Sim.x_call, Sim.x_and, Sim.x_or, Sim.x_not, Sim.x_if, Sim.x_tV, Sim.x_tCmp, Sim.x_tTru, Sim.x_tNot, Sim.x_tAnd, Sim.x_tOr, Sim.x_asB, Sim.x_sl, Sim.x_oNone, Sim.x_oSome, Sim.x_asI, Sim.x_trN, Sim.x_trB, Sim.x_trI, Sim.x_trL, Sim.x_trR, Sim.x_trT, Sim.x_add, Sim.x_sub, Sim.x_neg, Sim.x_lt, Sim.x_le, Sim.x_gt, Sim.x_ge, Sim.x_abs, Sim.x_max2, Sim.x_min2, Sim.x_intI, Sim.x_intB, Sim.x_eqI, Sim.x_neI, Sim.x_eqS, Sim.x_neS, Sim.x_lst, Sim.x_tup, Sim.x_frz0, Sim.x_frzP, Sim.x_lenL, Sim.x_lenT, Sim.x_lenR, Sim.x_tupleL, Sim.x_listL, Sim.x_listT, Sim.x_slL, Sim.x_slR, Sim.x_slT, Sim.callM, Sim.arrOf, List.filterMap_cons, List.filterMap_nil, List.getElem?_cons_zero, List.getElem?_cons_succ, List.cons_append, List.nil_append, List.append_nil, List.length_cons, List.length_nil, and_self, if_true, List.set_cons_zero, List.set_cons_succ, Bool.false_eq_true, if_false, Nat.reduceAdd, Nat.reduceSub, List.map_cons, List.map_nil, List.replicate_succ, List.replicate_zero, Bool.not_true, Bool.not_false, Sim.x_sized, Nat.reduceLeDiff, Nat.zero_add]
      refine Rn.step r_row_right fun v e => ?_
      subst e
      try simp -implicitDefEqProofs only [Sim.sM_pass, Sim.sM_seq, Sim.sM_asg, Sim.sM_ret, Sim.sM_expr, Sim.sM_if, Sim.sM_par, Sim.sM_asgT, Sim.sM_set, Sim.ret_bind, Sim.bind_assoc, Sim.x_var0, Sim.x_varS, Sim.x_C, Sim.x_op, Sim.x_un, Sim.x_A, Sim.x_nil, Sim.x_cons, Sim.x_call, Sim.x_and, Sim.x_or, Sim.x_not, Sim.x_if, Sim.x_tV, Sim.x_tCmp, Sim.x_tTru, Sim.x_tNot, Sim.x_tAnd, Sim.x_tOr, Sim.x_asB, Sim.x_sl, Sim.x_oNone, Sim.x_oSome, Sim.x_asI, Sim.x_trN, Sim.x_trB, Sim.x_trI, Sim.x_trL, Sim.x_trR, Sim.x_trT, Sim.x_add, Sim.x_sub, Sim.x_neg, Sim.x_lt, Sim.x_le, Sim.x_gt, Sim.x_ge, Sim.x_abs, Sim.x_max2, Sim.x_min2, Sim.x_intI, Sim.x_intB, Sim.x_eqI, Sim.x_neI, Sim.x_eqS, Sim.x_neS, Sim.x_lst, Sim.x_tup, Sim.x_frz0, Sim.x_frzP, Sim.x_lenL, Sim.x_lenT, Sim.x_lenR, Sim.x_tupleL, Sim.x_listL, Sim.x_listT, Sim.x_slL, Sim.x_slR, Sim.x_slT, Sim.callM, Sim.arrOf, List.filterMap_cons, List.filterMap_nil, List.getElem?_cons_zero, List.getElem?_cons_succ, List.cons_append, List.nil_append, List.append_nil, List.length_cons, List.length_nil, and_self, if_true, List.set_cons_zero, List.set_cons_succ, Bool.false_eq_true, if_false, Nat.reduceAdd, Nat.reduceSub, List.map_cons, List.map_nil, List.replicate_succ, List.replicate_zero, Bool.not_true, Bool.not_false, Sim.x_sized, Nat.reduceLeDiff, Nat.zero_add]
      refine Rn.step r_text_right fun v e => ?_
      subst e
      try simp -implicitDefEqProofs only [Sim.sM_pass, Sim.sM_seq, Sim.sM_asg, Sim.sM_ret, Sim.sM_expr, Sim.sM_if, Sim.sM_par, Sim.sM_asgT, Sim.sM_set, Sim.ret_bind, Sim.bind_assoc, Sim.x_var0, Sim.x_varS, Sim.x_C, Sim.x_op, Sim.x_un, Sim.x_A, Sim.x_nil, Sim.x_cons, Sim.x_call, Sim.x_and, Sim.x_or, Sim.x_not, Sim.x_if, Sim.x_tV, Sim.x_tCmp, Sim.x_tTru, Sim.x_tNot, Sim.x_tAnd, Sim.x_tOr, Sim.x_asB, Sim.x_sl, Sim.x_oNone, Sim.x_oSome, Sim.x_asI, Sim.x_trN, Sim.x_trB, Sim.x_trI, Sim.x_trL, Sim.x_trR, Sim.x_trT, Sim.x_add, Sim.x_sub, Sim.x_neg, Sim.x_lt, Sim.x_le, Sim.x_gt, Sim.x_ge, Sim.x_abs, Sim.x_max2, Sim.x_min2, Sim.x_intI, Sim.x_intB, Sim.x_eqI, Sim.x_neI, Sim.x_eqS, Sim.x_neS, Sim.x_lst, Sim.x_tup, Sim.x_frz0, Sim.x_frzP, Sim.x_lenL, Sim.x_lenT, Sim.x_lenR, Sim.x_tupleL, Sim.x_listL, Sim.x_listT, Sim.x_slL, Sim.x_slR, Sim.x_slT, Sim.callM, Sim.arrOf, List.filterMap_cons, List.filterMap_nil, List.getElem?_cons_zero, List.getElem?_cons_succ, List.cons_append, List.nil_append, List.append_nil, List.length_cons, List.length_nil, and_self, if_true, List.set_cons_zero, List.set_cons_succ, Bool.false_eq_true, if_false, Nat.reduceAdd, Nat.reduceSub, List.map_cons, List.map_nil, List.replicate_succ, List.replicate_zero, Bool.not_true, Bool.not_false, Sim.x_sized, Nat.reduceLeDiff, Nat.zero_add]
      exact Rn.ret ⟨_, _, _, _, _, _, _, _, rfl⟩
  obtain ⟨st', hb⟩ := key
  unfold sM at hb
  show ∃ st', (match d_law [some (.p (.rl (ns.map D.int))), none, none, none, none, none, none, none, none, none] [] with | .rt v st' => exitV 0 v st' | .nx _ st' => .ok (.p .non) (st'.take 0) | .ex e _ st' => .exn e (st'.take 0) | _ => .stuck) = _
  cases q : d_law [some (.p (.rl (ns.map D.int))), none, none, none, none, none, none, none, none, none] [] with
  | stuck => rw [q] at hb; cases hb
  | bk _ _ => rw [q] at hb; cases hb
  | ct _ _ => rw [q] at hb; cases hb
  | ex _ _ _ => rw [q] at hb; cases hb
  | nx ev' st' => rw [q] at hb; cases hb
  | rt v st' =>
    rw [q] at hb
    cases hb
    exact ⟨_, rfl⟩
end
end K00
end

section
open PySem PySem.Spec PyProof.Rows L2 RZ Sim
namespace K00
/-- the facts of the top, as a hand at the end -/
def mkTX {K : PySem.W.Frag} {mg : Str → Option Value} {h : Heap} (X : K.In h) (G : h.Ns mainGlobals mg)
  {f0 : Addr} {oc0 kV0 doc0 pm0 cd0 ct0 : Value} {od0 an0 : Option Addr} {sl0 : Array (Option Value)}
  {f1 : Addr} {oc1 kV1 doc1 pm1 cd1 ct1 : Value} {od1 an1 : Option Addr} {sl1 : Array (Option Value)}
  {f2 : Addr} {oc2 kV2 doc2 pm2 cd2 ct2 : Value} {od2 an2 : Option Addr} {sl2 : Array (Option Value)}
  {f3 : Addr} {oc3 kV3 doc3 pm3 cd3 ct3 : Value} {od3 an3 : Option Addr} {sl3 : Array (Option Value)}
  {f4 : Addr} {oc4 kV4 doc4 pm4 cd4 ct4 : Value} {od4 an4 : Option Addr} {sl4 : Array (Option Value)}
  {t4 : Addr}
  {f5 : Addr} {oc5 kV5 doc5 pm5 cd5 ct5 : Value} {od5 an5 : Option Addr} {sl5 : Array (Option Value)}
  {f6 : Addr} {oc6 kV6 doc6 pm6 cd6 ct6 : Value} {od6 an6 : Option Addr} {sl6 : Array (Option Value)}
  {f7 : Addr} {oc7 kV7 doc7 pm7 cd7 ct7 : Value} {od7 an7 : Option Addr} {sl7 : Array (Option Value)}
  {f8 : Addr} {oc8 kV8 doc8 pm8 cd8 ct8 : Value} {od8 an8 : Option Addr} {sl8 : Array (Option Value)}
  {f9 : Addr} {oc9 kV9 doc9 pm9 cd9 ct9 : Value} {od9 an9 : Option Addr} {sl9 : Array (Option Value)}
  {f10 : Addr} {oc10 kV10 doc10 pm10 cd10 ct10 : Value} {od10 an10 : Option Addr} {sl10 : Array (Option Value)}
  {f11 : Addr} {oc11 kV11 doc11 pm11 cd11 ct11 : Value} {od11 an11 : Option Addr} {sl11 : Array (Option Value)}
  {f12 : Addr} {oc12 kV12 doc12 pm12 cd12 ct12 : Value} {od12 an12 : Option Addr} {sl12 : Array (Option Value)}
  {f13 : Addr} {oc13 kV13 doc13 pm13 cd13 ct13 : Value} {od13 an13 : Option Addr} {sl13 : Array (Option Value)}
  {f14 : Addr} {oc14 kV14 doc14 pm14 cd14 ct14 : Value} {od14 an14 : Option Addr} {sl14 : Array (Option Value)}
  (n0 : PySem.W.nsIn K mainGlobals "is_integer" = some (some (.ref f0)))
  (l0 : K.lookup f0 = some ⟨oc0, od0, .func (PySem.W.fnOf "is_integer" "is_integer" (defArgs s_is_integer) (defBody s_is_integer) (defScope s_is_integer) .none kV0 doc0 pm0 an0 cd0 ct0), sl0⟩)
  (c0 : PySem.W.codeIn K cd0 "is_integer" = true)
  (k0 : PySem.W.keepIn K (.ref f0) = true)
  (n1 : PySem.W.nsIn K mainGlobals "is_within" = some (some (.ref f1)))
  (l1 : K.lookup f1 = some ⟨oc1, od1, .func (PySem.W.fnOf "is_within" "is_within" (defArgs s_is_within) (defBody s_is_within) (defScope s_is_within) .none kV1 doc1 pm1 an1 cd1 ct1), sl1⟩)
  (c1 : PySem.W.codeIn K cd1 "is_within" = true)
  (k1 : PySem.W.keepIn K (.ref f1) = true)
  (n2 : PySem.W.nsIn K mainGlobals "is_list" = some (some (.ref f2)))
  (l2 : K.lookup f2 = some ⟨oc2, od2, .func (PySem.W.fnOf "is_list" "is_list" (defArgs s_is_list) (defBody s_is_list) (defScope s_is_list) .none kV2 doc2 pm2 an2 cd2 ct2), sl2⟩)
  (c2 : PySem.W.codeIn K cd2 "is_list" = true)
  (k2 : PySem.W.keepIn K (.ref f2) = true)
  (n3 : PySem.W.nsIn K mainGlobals "is_row" = some (some (.ref f3)))
  (l3 : K.lookup f3 = some ⟨oc3, od3, .func (PySem.W.fnOf "is_row" "is_row" (defArgs s_is_row) (defBody s_is_row) (defScope s_is_row) .none kV3 doc3 pm3 an3 cd3 ct3), sl3⟩)
  (c3 : PySem.W.codeIn K cd3 "is_row" = true)
  (k3 : PySem.W.keepIn K (.ref f3) = true)
  (n4 : PySem.W.nsIn K mainGlobals "is_text" = some (some (.ref f4)))
  (l4 : K.lookup f4 = some ⟨oc4, od4, .func (PySem.W.fnOf "is_text" "is_text" (defArgs s_is_text) (defBody s_is_text) (defScope s_is_text) (.ref t4) kV4 doc4 pm4 an4 cd4 ct4), sl4⟩)
  (c4 : PySem.W.codeIn K cd4 "is_text" = true)
  (k4 : PySem.W.keepIn K (.ref f4) = true)
  (t4l : ∃ (od : Option Addr) (its : List Value) (n : Nat) (sl : Array (Option Value)), K.lookup t4 = some ⟨.type "tuple", od, .seq its.toArray n, sl⟩ ∧ Vals [.int 1000] its)
  (n5 : PySem.W.nsIn K mainGlobals "_law_vessel" = some (some (.ref f5)))
  (l5 : K.lookup f5 = some ⟨oc5, od5, .func (PySem.W.fnOf "_law_vessel" "_law_vessel" (defArgs s__law_vessel) (defBody s__law_vessel) (defScope s__law_vessel) .none kV5 doc5 pm5 an5 cd5 ct5), sl5⟩)
  (c5 : PySem.W.codeIn K cd5 "_law_vessel" = true)
  (k5 : PySem.W.keepIn K (.ref f5) = true)
  (n6 : PySem.W.nsIn K mainGlobals "_law_draught" = some (some (.ref f6)))
  (l6 : K.lookup f6 = some ⟨oc6, od6, .func (PySem.W.fnOf "_law_draught" "_law_draught" (defArgs s__law_draught) (defBody s__law_draught) (defScope s__law_draught) .none kV6 doc6 pm6 an6 cd6 ct6), sl6⟩)
  (c6 : PySem.W.codeIn K cd6 "_law_draught" = true)
  (k6 : PySem.W.keepIn K (.ref f6) = true)
  (n7 : PySem.W.nsIn K mainGlobals "_law_cupful" = some (some (.ref f7)))
  (l7 : K.lookup f7 = some ⟨oc7, od7, .func (PySem.W.fnOf "_law_cupful" "_law_cupful" (defArgs s__law_cupful) (defBody s__law_cupful) (defScope s__law_cupful) .none kV7 doc7 pm7 an7 cd7 ct7), sl7⟩)
  (c7 : PySem.W.codeIn K cd7 "_law_cupful" = true)
  (k7 : PySem.W.keepIn K (.ref f7) = true)
  (n8 : PySem.W.nsIn K mainGlobals "_law_value" = some (some (.ref f8)))
  (l8 : K.lookup f8 = some ⟨oc8, od8, .func (PySem.W.fnOf "_law_value" "_law_value" (defArgs s__law_value) (defBody s__law_value) (defScope s__law_value) .none kV8 doc8 pm8 an8 cd8 ct8), sl8⟩)
  (c8 : PySem.W.codeIn K cd8 "_law_value" = true)
  (k8 : PySem.W.keepIn K (.ref f8) = true)
  (n9 : PySem.W.nsIn K mainGlobals "_law_own_integer" = some (some (.ref f9)))
  (l9 : K.lookup f9 = some ⟨oc9, od9, .func (PySem.W.fnOf "_law_own_integer" "_law_own_integer" (defArgs s__law_own_integer) (defBody s__law_own_integer) (defScope s__law_own_integer) .none kV9 doc9 pm9 an9 cd9 ct9), sl9⟩)
  (c9 : PySem.W.codeIn K cd9 "_law_own_integer" = true)
  (k9 : PySem.W.keepIn K (.ref f9) = true)
  (n10 : PySem.W.nsIn K mainGlobals "_law_odd" = some (some (.ref f10)))
  (l10 : K.lookup f10 = some ⟨oc10, od10, .func (PySem.W.fnOf "_law_odd" "_law_odd" (defArgs s__law_odd) (defBody s__law_odd) (defScope s__law_odd) .none kV10 doc10 pm10 an10 cd10 ct10), sl10⟩)
  (c10 : PySem.W.codeIn K cd10 "_law_odd" = true)
  (k10 : PySem.W.keepIn K (.ref f10) = true)
  (n11 : PySem.W.nsIn K mainGlobals "_law_bent" = some (some (.ref f11)))
  (l11 : K.lookup f11 = some ⟨oc11, od11, .func (PySem.W.fnOf "_law_bent" "_law_bent" (defArgs s__law_bent) (defBody s__law_bent) (defScope s__law_bent) .none kV11 doc11 pm11 an11 cd11 ct11), sl11⟩)
  (c11 : PySem.W.codeIn K cd11 "_law_bent" = true)
  (k11 : PySem.W.keepIn K (.ref f11) = true)
  (n12 : PySem.W.nsIn K mainGlobals "_law_row_right" = some (some (.ref f12)))
  (l12 : K.lookup f12 = some ⟨oc12, od12, .func (PySem.W.fnOf "_law_row_right" "_law_row_right" (defArgs s__law_row_right) (defBody s__law_row_right) (defScope s__law_row_right) .none kV12 doc12 pm12 an12 cd12 ct12), sl12⟩)
  (c12 : PySem.W.codeIn K cd12 "_law_row_right" = true)
  (k12 : PySem.W.keepIn K (.ref f12) = true)
  (n13 : PySem.W.nsIn K mainGlobals "_law_text_right" = some (some (.ref f13)))
  (l13 : K.lookup f13 = some ⟨oc13, od13, .func (PySem.W.fnOf "_law_text_right" "_law_text_right" (defArgs s__law_text_right) (defBody s__law_text_right) (defScope s__law_text_right) .none kV13 doc13 pm13 an13 cd13 ct13), sl13⟩)
  (c13 : PySem.W.codeIn K cd13 "_law_text_right" = true)
  (k13 : PySem.W.keepIn K (.ref f13) = true)
  (n14 : PySem.W.nsIn K mainGlobals "law" = some (some (.ref f14)))
  (l14 : K.lookup f14 = some ⟨oc14, od14, .func (PySem.W.fnOf "law" "law" (defArgs s_law) (defBody s_law) (defScope s_law) .none kV14 doc14 pm14 an14 cd14 ct14), sl14⟩)
  (c14 : PySem.W.codeIn K cd14 "law" = true)
  (k14 : PySem.W.keepIn K (.ref f14) = true)
  (z_abs : PySem.W.nsIn K mainGlobals "abs" = some none)
  (z_all : PySem.W.nsIn K mainGlobals "all" = some none)
  (z_bool : PySem.W.nsIn K mainGlobals "bool" = some none)
  (z_int : PySem.W.nsIn K mainGlobals "int" = some none)
  (z_isinstance : PySem.W.nsIn K mainGlobals "isinstance" = some none)
  (z_len : PySem.W.nsIn K mainGlobals "len" = some none)
  (z_list : PySem.W.nsIn K mainGlobals "list" = some none)
  (z_max : PySem.W.nsIn K mainGlobals "max" = some none)
  (z_range : PySem.W.nsIn K mainGlobals "range" = some none)
  (z_repr : PySem.W.nsIn K mainGlobals "repr" = some none)
  (z_str : PySem.W.nsIn K mainGlobals "str" = some none)
  (z_tuple : PySem.W.nsIn K mainGlobals "tuple" = some none)
  : TX K mg :=
  { f_is_integer := f0, fd_is_integer := _, F_is_integer := ⟨⟨oc0, od0, .none, kV0, doc0, pm0, an0, cd0, ct0, sl0, rfl, l0, c0, (.inl ⟨rfl, rfl⟩), .inl rfl⟩, k0⟩, m_is_integer := PySem.W.mg_of X G n0,
    f_is_within := f1, fd_is_within := _, F_is_within := ⟨⟨oc1, od1, .none, kV1, doc1, pm1, an1, cd1, ct1, sl1, rfl, l1, c1, (.inl ⟨rfl, rfl⟩), .inl rfl⟩, k1⟩, m_is_within := PySem.W.mg_of X G n1,
    f_is_list := f2, fd_is_list := _, F_is_list := ⟨⟨oc2, od2, .none, kV2, doc2, pm2, an2, cd2, ct2, sl2, rfl, l2, c2, (.inl ⟨rfl, rfl⟩), .inl rfl⟩, k2⟩, m_is_list := PySem.W.mg_of X G n2,
    f_is_row := f3, fd_is_row := _, F_is_row := ⟨⟨oc3, od3, .none, kV3, doc3, pm3, an3, cd3, ct3, sl3, rfl, l3, c3, (.inl ⟨rfl, rfl⟩), .inl rfl⟩, k3⟩, m_is_row := PySem.W.mg_of X G n3,
    f_is_text := f4, fd_is_text := _, F_is_text := ⟨⟨oc4, od4, (.ref t4), kV4, doc4, pm4, an4, cd4, ct4, sl4, rfl, l4, c4, (dfl_of t4l fun z => nomatch z), .inl rfl⟩, k4⟩, m_is_text := PySem.W.mg_of X G n4,
    f__law_vessel := f5, fd__law_vessel := _, F__law_vessel := ⟨⟨oc5, od5, .none, kV5, doc5, pm5, an5, cd5, ct5, sl5, rfl, l5, c5, (.inl ⟨rfl, rfl⟩), .inl rfl⟩, k5⟩, m__law_vessel := PySem.W.mg_of X G n5,
    f__law_draught := f6, fd__law_draught := _, F__law_draught := ⟨⟨oc6, od6, .none, kV6, doc6, pm6, an6, cd6, ct6, sl6, rfl, l6, c6, (.inl ⟨rfl, rfl⟩), .inl rfl⟩, k6⟩, m__law_draught := PySem.W.mg_of X G n6,
    f__law_cupful := f7, fd__law_cupful := _, F__law_cupful := ⟨⟨oc7, od7, .none, kV7, doc7, pm7, an7, cd7, ct7, sl7, rfl, l7, c7, (.inl ⟨rfl, rfl⟩), .inl rfl⟩, k7⟩, m__law_cupful := PySem.W.mg_of X G n7,
    f__law_value := f8, fd__law_value := _, F__law_value := ⟨⟨oc8, od8, .none, kV8, doc8, pm8, an8, cd8, ct8, sl8, rfl, l8, c8, (.inl ⟨rfl, rfl⟩), .inl rfl⟩, k8⟩, m__law_value := PySem.W.mg_of X G n8,
    f__law_own_integer := f9, fd__law_own_integer := _, F__law_own_integer := ⟨⟨oc9, od9, .none, kV9, doc9, pm9, an9, cd9, ct9, sl9, rfl, l9, c9, (.inl ⟨rfl, rfl⟩), .inl rfl⟩, k9⟩, m__law_own_integer := PySem.W.mg_of X G n9,
    f__law_odd := f10, fd__law_odd := _, F__law_odd := ⟨⟨oc10, od10, .none, kV10, doc10, pm10, an10, cd10, ct10, sl10, rfl, l10, c10, (.inl ⟨rfl, rfl⟩), .inl rfl⟩, k10⟩, m__law_odd := PySem.W.mg_of X G n10,
    f__law_bent := f11, fd__law_bent := _, F__law_bent := ⟨⟨oc11, od11, .none, kV11, doc11, pm11, an11, cd11, ct11, sl11, rfl, l11, c11, (.inl ⟨rfl, rfl⟩), .inl rfl⟩, k11⟩, m__law_bent := PySem.W.mg_of X G n11,
    f__law_row_right := f12, fd__law_row_right := _, F__law_row_right := ⟨⟨oc12, od12, .none, kV12, doc12, pm12, an12, cd12, ct12, sl12, rfl, l12, c12, (.inl ⟨rfl, rfl⟩), .inl rfl⟩, k12⟩, m__law_row_right := PySem.W.mg_of X G n12,
    f__law_text_right := f13, fd__law_text_right := _, F__law_text_right := ⟨⟨oc13, od13, .none, kV13, doc13, pm13, an13, cd13, ct13, sl13, rfl, l13, c13, (.inl ⟨rfl, rfl⟩), .inl rfl⟩, k13⟩, m__law_text_right := PySem.W.mg_of X G n13,
    f_law := f14, fd_law := _, F_law := ⟨⟨oc14, od14, .none, kV14, doc14, pm14, an14, cd14, ct14, sl14, rfl, l14, c14, (.inl ⟨rfl, rfl⟩), .inl rfl⟩, k14⟩, m_law := PySem.W.mg_of X G n14,
    b_abs := PySem.W.mg_none_of X G z_abs,
    b_all := PySem.W.mg_none_of X G z_all,
    b_bool := PySem.W.mg_none_of X G z_bool,
    b_int := PySem.W.mg_none_of X G z_int,
    b_isinstance := PySem.W.mg_none_of X G z_isinstance,
    b_len := PySem.W.mg_none_of X G z_len,
    b_list := PySem.W.mg_none_of X G z_list,
    b_max := PySem.W.mg_none_of X G z_max,
    b_range := PySem.W.mg_none_of X G z_range,
    b_repr := PySem.W.mg_none_of X G z_repr,
    b_str := PySem.W.mg_none_of X G z_str,
    b_tuple := PySem.W.mg_none_of X G z_tuple }
theorem all_mk {P : Program} {w : World} {K : PySem.W.Frag} {mg : Str → Option Value} {h : Heap} {fa : Addr} (X : K.In h) (G : h.Ns mainGlobals mg) (hfa : mg "law" = some (.ref fa))
  {f0 : Addr} {oc0 kV0 doc0 pm0 cd0 ct0 : Value} {od0 an0 : Option Addr} {sl0 : Array (Option Value)}
  {f1 : Addr} {oc1 kV1 doc1 pm1 cd1 ct1 : Value} {od1 an1 : Option Addr} {sl1 : Array (Option Value)}
  {f2 : Addr} {oc2 kV2 doc2 pm2 cd2 ct2 : Value} {od2 an2 : Option Addr} {sl2 : Array (Option Value)}
  {f3 : Addr} {oc3 kV3 doc3 pm3 cd3 ct3 : Value} {od3 an3 : Option Addr} {sl3 : Array (Option Value)}
  {f4 : Addr} {oc4 kV4 doc4 pm4 cd4 ct4 : Value} {od4 an4 : Option Addr} {sl4 : Array (Option Value)}
  {t4 : Addr}
  {f5 : Addr} {oc5 kV5 doc5 pm5 cd5 ct5 : Value} {od5 an5 : Option Addr} {sl5 : Array (Option Value)}
  {f6 : Addr} {oc6 kV6 doc6 pm6 cd6 ct6 : Value} {od6 an6 : Option Addr} {sl6 : Array (Option Value)}
  {f7 : Addr} {oc7 kV7 doc7 pm7 cd7 ct7 : Value} {od7 an7 : Option Addr} {sl7 : Array (Option Value)}
  {f8 : Addr} {oc8 kV8 doc8 pm8 cd8 ct8 : Value} {od8 an8 : Option Addr} {sl8 : Array (Option Value)}
  {f9 : Addr} {oc9 kV9 doc9 pm9 cd9 ct9 : Value} {od9 an9 : Option Addr} {sl9 : Array (Option Value)}
  {f10 : Addr} {oc10 kV10 doc10 pm10 cd10 ct10 : Value} {od10 an10 : Option Addr} {sl10 : Array (Option Value)}
  {f11 : Addr} {oc11 kV11 doc11 pm11 cd11 ct11 : Value} {od11 an11 : Option Addr} {sl11 : Array (Option Value)}
  {f12 : Addr} {oc12 kV12 doc12 pm12 cd12 ct12 : Value} {od12 an12 : Option Addr} {sl12 : Array (Option Value)}
  {f13 : Addr} {oc13 kV13 doc13 pm13 cd13 ct13 : Value} {od13 an13 : Option Addr} {sl13 : Array (Option Value)}
  {f14 : Addr} {oc14 kV14 doc14 pm14 cd14 ct14 : Value} {od14 an14 : Option Addr} {sl14 : Array (Option Value)}
  (n0 : PySem.W.nsIn K mainGlobals "is_integer" = some (some (.ref f0)))
  (l0 : K.lookup f0 = some ⟨oc0, od0, .func (PySem.W.fnOf "is_integer" "is_integer" (defArgs s_is_integer) (defBody s_is_integer) (defScope s_is_integer) .none kV0 doc0 pm0 an0 cd0 ct0), sl0⟩)
  (c0 : PySem.W.codeIn K cd0 "is_integer" = true)
  (k0 : PySem.W.keepIn K (.ref f0) = true)
  (n1 : PySem.W.nsIn K mainGlobals "is_within" = some (some (.ref f1)))
  (l1 : K.lookup f1 = some ⟨oc1, od1, .func (PySem.W.fnOf "is_within" "is_within" (defArgs s_is_within) (defBody s_is_within) (defScope s_is_within) .none kV1 doc1 pm1 an1 cd1 ct1), sl1⟩)
  (c1 : PySem.W.codeIn K cd1 "is_within" = true)
  (k1 : PySem.W.keepIn K (.ref f1) = true)
  (n2 : PySem.W.nsIn K mainGlobals "is_list" = some (some (.ref f2)))
  (l2 : K.lookup f2 = some ⟨oc2, od2, .func (PySem.W.fnOf "is_list" "is_list" (defArgs s_is_list) (defBody s_is_list) (defScope s_is_list) .none kV2 doc2 pm2 an2 cd2 ct2), sl2⟩)
  (c2 : PySem.W.codeIn K cd2 "is_list" = true)
  (k2 : PySem.W.keepIn K (.ref f2) = true)
  (n3 : PySem.W.nsIn K mainGlobals "is_row" = some (some (.ref f3)))
  (l3 : K.lookup f3 = some ⟨oc3, od3, .func (PySem.W.fnOf "is_row" "is_row" (defArgs s_is_row) (defBody s_is_row) (defScope s_is_row) .none kV3 doc3 pm3 an3 cd3 ct3), sl3⟩)
  (c3 : PySem.W.codeIn K cd3 "is_row" = true)
  (k3 : PySem.W.keepIn K (.ref f3) = true)
  (n4 : PySem.W.nsIn K mainGlobals "is_text" = some (some (.ref f4)))
  (l4 : K.lookup f4 = some ⟨oc4, od4, .func (PySem.W.fnOf "is_text" "is_text" (defArgs s_is_text) (defBody s_is_text) (defScope s_is_text) (.ref t4) kV4 doc4 pm4 an4 cd4 ct4), sl4⟩)
  (c4 : PySem.W.codeIn K cd4 "is_text" = true)
  (k4 : PySem.W.keepIn K (.ref f4) = true)
  (t4l : ∃ (od : Option Addr) (its : List Value) (n : Nat) (sl : Array (Option Value)), K.lookup t4 = some ⟨.type "tuple", od, .seq its.toArray n, sl⟩ ∧ Vals [.int 1000] its)
  (n5 : PySem.W.nsIn K mainGlobals "_law_vessel" = some (some (.ref f5)))
  (l5 : K.lookup f5 = some ⟨oc5, od5, .func (PySem.W.fnOf "_law_vessel" "_law_vessel" (defArgs s__law_vessel) (defBody s__law_vessel) (defScope s__law_vessel) .none kV5 doc5 pm5 an5 cd5 ct5), sl5⟩)
  (c5 : PySem.W.codeIn K cd5 "_law_vessel" = true)
  (k5 : PySem.W.keepIn K (.ref f5) = true)
  (n6 : PySem.W.nsIn K mainGlobals "_law_draught" = some (some (.ref f6)))
  (l6 : K.lookup f6 = some ⟨oc6, od6, .func (PySem.W.fnOf "_law_draught" "_law_draught" (defArgs s__law_draught) (defBody s__law_draught) (defScope s__law_draught) .none kV6 doc6 pm6 an6 cd6 ct6), sl6⟩)
  (c6 : PySem.W.codeIn K cd6 "_law_draught" = true)
  (k6 : PySem.W.keepIn K (.ref f6) = true)
  (n7 : PySem.W.nsIn K mainGlobals "_law_cupful" = some (some (.ref f7)))
  (l7 : K.lookup f7 = some ⟨oc7, od7, .func (PySem.W.fnOf "_law_cupful" "_law_cupful" (defArgs s__law_cupful) (defBody s__law_cupful) (defScope s__law_cupful) .none kV7 doc7 pm7 an7 cd7 ct7), sl7⟩)
  (c7 : PySem.W.codeIn K cd7 "_law_cupful" = true)
  (k7 : PySem.W.keepIn K (.ref f7) = true)
  (n8 : PySem.W.nsIn K mainGlobals "_law_value" = some (some (.ref f8)))
  (l8 : K.lookup f8 = some ⟨oc8, od8, .func (PySem.W.fnOf "_law_value" "_law_value" (defArgs s__law_value) (defBody s__law_value) (defScope s__law_value) .none kV8 doc8 pm8 an8 cd8 ct8), sl8⟩)
  (c8 : PySem.W.codeIn K cd8 "_law_value" = true)
  (k8 : PySem.W.keepIn K (.ref f8) = true)
  (n9 : PySem.W.nsIn K mainGlobals "_law_own_integer" = some (some (.ref f9)))
  (l9 : K.lookup f9 = some ⟨oc9, od9, .func (PySem.W.fnOf "_law_own_integer" "_law_own_integer" (defArgs s__law_own_integer) (defBody s__law_own_integer) (defScope s__law_own_integer) .none kV9 doc9 pm9 an9 cd9 ct9), sl9⟩)
  (c9 : PySem.W.codeIn K cd9 "_law_own_integer" = true)
  (k9 : PySem.W.keepIn K (.ref f9) = true)
  (n10 : PySem.W.nsIn K mainGlobals "_law_odd" = some (some (.ref f10)))
  (l10 : K.lookup f10 = some ⟨oc10, od10, .func (PySem.W.fnOf "_law_odd" "_law_odd" (defArgs s__law_odd) (defBody s__law_odd) (defScope s__law_odd) .none kV10 doc10 pm10 an10 cd10 ct10), sl10⟩)
  (c10 : PySem.W.codeIn K cd10 "_law_odd" = true)
  (k10 : PySem.W.keepIn K (.ref f10) = true)
  (n11 : PySem.W.nsIn K mainGlobals "_law_bent" = some (some (.ref f11)))
  (l11 : K.lookup f11 = some ⟨oc11, od11, .func (PySem.W.fnOf "_law_bent" "_law_bent" (defArgs s__law_bent) (defBody s__law_bent) (defScope s__law_bent) .none kV11 doc11 pm11 an11 cd11 ct11), sl11⟩)
  (c11 : PySem.W.codeIn K cd11 "_law_bent" = true)
  (k11 : PySem.W.keepIn K (.ref f11) = true)
  (n12 : PySem.W.nsIn K mainGlobals "_law_row_right" = some (some (.ref f12)))
  (l12 : K.lookup f12 = some ⟨oc12, od12, .func (PySem.W.fnOf "_law_row_right" "_law_row_right" (defArgs s__law_row_right) (defBody s__law_row_right) (defScope s__law_row_right) .none kV12 doc12 pm12 an12 cd12 ct12), sl12⟩)
  (c12 : PySem.W.codeIn K cd12 "_law_row_right" = true)
  (k12 : PySem.W.keepIn K (.ref f12) = true)
  (n13 : PySem.W.nsIn K mainGlobals "_law_text_right" = some (some (.ref f13)))
  (l13 : K.lookup f13 = some ⟨oc13, od13, .func (PySem.W.fnOf "_law_text_right" "_law_text_right" (defArgs s__law_text_right) (defBody s__law_text_right) (defScope s__law_text_right) .none kV13 doc13 pm13 an13 cd13 ct13), sl13⟩)
  (c13 : PySem.W.codeIn K cd13 "_law_text_right" = true)
  (k13 : PySem.W.keepIn K (.ref f13) = true)
  (n14 : PySem.W.nsIn K mainGlobals "law" = some (some (.ref f14)))
  (l14 : K.lookup f14 = some ⟨oc14, od14, .func (PySem.W.fnOf "law" "law" (defArgs s_law) (defBody s_law) (defScope s_law) .none kV14 doc14 pm14 an14 cd14 ct14), sl14⟩)
  (c14 : PySem.W.codeIn K cd14 "law" = true)
  (k14 : PySem.W.keepIn K (.ref f14) = true)
  (z_abs : PySem.W.nsIn K mainGlobals "abs" = some none)
  (z_all : PySem.W.nsIn K mainGlobals "all" = some none)
  (z_bool : PySem.W.nsIn K mainGlobals "bool" = some none)
  (z_int : PySem.W.nsIn K mainGlobals "int" = some none)
  (z_isinstance : PySem.W.nsIn K mainGlobals "isinstance" = some none)
  (z_len : PySem.W.nsIn K mainGlobals "len" = some none)
  (z_list : PySem.W.nsIn K mainGlobals "list" = some none)
  (z_max : PySem.W.nsIn K mainGlobals "max" = some none)
  (z_range : PySem.W.nsIn K mainGlobals "range" = some none)
  (z_repr : PySem.W.nsIn K mainGlobals "repr" = some none)
  (z_str : PySem.W.nsIn K mainGlobals "str" = some none)
  (z_tuple : PySem.W.nsIn K mainGlobals "tuple" = some none)
  : ∃ fd : FuncData, (∀ (s : Shared) (v : Value), BindsTo s fd ⟨[v], []⟩ [("script", v)]) ∧ ∀ base : Heap, K.In base → base.Ns mainGlobals mg → FnG P w K mg base 5 fa fd ["script"] (spM ⟨K, mg⟩ 1 m_law) := by
  have T : TX K mg := mkTX X G n0 l0 c0 k0 n1 l1 c1 k1 n2 l2 c2 k2 n3 l3 c3 k3 n4 l4 c4 k4 t4l n5 l5 c5 k5 n6 l6 c6 k6 n7 l7 c7 k7 n8 l8 c8 k8 n9 l9 c9 k9 n10 l10 c10 k10 n11 l11 c11 k11 n12 l12 c12 k12 n13 l13 c13 k13 n14 l14 c14 k14 z_abs z_all z_bool z_int z_isinstance z_len z_list z_max z_range z_repr z_str z_tuple
  have e := hfa.symm.trans T.m_law
  injection e with e
  injection e with e
  subst e
  exact ⟨T.fd_law, fun s v => FunD.bindsA (ps := ["script"]) T.F_law (fun _ _ _ _ _ _ us hl => match us, hl with | [_], _ => rfl) s [v] rfl, fun base kb gb => g_law T⟩
end K00
open PySem PySem.W PyProof.Rows
theorem PySem.Challenge.cw_talkerfates_k00_plain_values_told_holds : PySem.Challenge.rw_talkerfates_k00_plain_values_told.Holds := by
  w_on; o_law; k_head; (case hw => w_witness2)
  k_fill
  refine Sim.walkG (l := PySem.Challenge.rw_talkerfates_k00_plain_values_told) (k := 5) (x := "script") (m := K00.m_law) rfl (by decide) rfl ⟨rfl, by decide, by decide⟩ (fun w h Y => PySem.W.kIn_of Y) ?F K00.law_true
  case F =>
    intro w mg fa h KX G hmg
    refine' K00.all_mk KX G hmg ?n0 ?l0 ?c0 ?k0 ?n1 ?l1 ?c1 ?k1 ?n2 ?l2 ?c2 ?k2 ?n3 ?l3 ?c3 ?k3 ?n4 ?l4 ?c4 ?k4 ?t4l ?n5 ?l5 ?c5 ?k5 ?n6 ?l6 ?c6 ?k6 ?n7 ?l7 ?c7 ?k7 ?n8 ?l8 ?c8 ?k8 ?n9 ?l9 ?c9 ?k9 ?n10 ?l10 ?c10 ?k10 ?n11 ?l11 ?c11 ?k11 ?n12 ?l12 ?c12 ?k12 ?n13 ?l13 ?c13 ?k13 ?n14 ?l14 ?c14 ?k14 ?z_abs ?z_all ?z_bool ?z_int ?z_isinstance ?z_len ?z_list ?z_max ?z_range ?z_repr ?z_str ?z_tuple
    (case n0 => k_is)
    (case l0 => k_is)
    (case c0 => k_is)
    (case k0 => k_is)
    (case n1 => k_is)
    (case l1 => k_is)
    (case c1 => k_is)
    (case k1 => k_is)
    (case n2 => k_is)
    (case l2 => k_is)
    (case c2 => k_is)
    (case k2 => k_is)
    (case n3 => k_is)
    (case l3 => k_is)
    (case c3 => k_is)
    (case k3 => k_is)
    (case n4 => k_is)
    (case l4 => k_is)
    (case c4 => k_is)
    (case k4 => k_is)
    (case t4l => exact ⟨_, _, _, _, by k_is, by repeat (first | exact .nil | refine .cons (by first | exact rfl | exact ⟨_, rfl⟩) ?_)⟩)
    (case n5 => k_is)
    (case l5 => k_is)
    (case c5 => k_is)
    (case k5 => k_is)
    (case n6 => k_is)
    (case l6 => k_is)
    (case c6 => k_is)
    (case k6 => k_is)
    (case n7 => k_is)
    (case l7 => k_is)
    (case c7 => k_is)
    (case k7 => k_is)
    (case n8 => k_is)
    (case l8 => k_is)
    (case c8 => k_is)
    (case k8 => k_is)
    (case n9 => k_is)
    (case l9 => k_is)
    (case c9 => k_is)
    (case k9 => k_is)
    (case n10 => k_is)
    (case l10 => k_is)
    (case c10 => k_is)
    (case k10 => k_is)
    (case n11 => k_is)
    (case l11 => k_is)
    (case c11 => k_is)
    (case k11 => k_is)
    (case n12 => k_is)
    (case l12 => k_is)
    (case c12 => k_is)
    (case k12 => k_is)
    (case n13 => k_is)
    (case l13 => k_is)
    (case c13 => k_is)
    (case k13 => k_is)
    (case n14 => k_is)
    (case l14 => k_is)
    (case c14 => k_is)
    (case k14 => k_is)
    (case z_abs => k_is)
    (case z_all => k_is)
    (case z_bool => k_is)
    (case z_int => k_is)
    (case z_isinstance => k_is)
    (case z_len => k_is)
    (case z_list => k_is)
    (case z_max => k_is)
    (case z_range => k_is)
    (case z_repr => k_is)
    (case z_str => k_is)
    (case z_tuple => k_is)
#print axioms PySem.Challenge.cw_talkerfates_k00_plain_values_told_holds
end
