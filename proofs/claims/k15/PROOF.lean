import PyProof.Rows.All
import Wide.All
import OpenK.AllK
import Wide.FinOn
import HandS.ForMost
import HandS.ForExc
import HandS.IsInst
import HandS.Flow
import HandS.TupAny
import HandS.CallSlots
import HandS.Style
import HandS.Deep
import HandS.Wide
import HandS.TupMul
import HandS.TupLe
import HandS.Defaults
import HandS.Zip
import HandS.RaiseMore
import PyProof.Rows.StrMul
import HandS.OwnEq
import HandS.Star
import KE.GoesMore
import KE.GoesZip
import HandS.TupSets
import PySem.Challenge.RW_talkerfates_k15_how_far_into_bars
set_option Elab.async false
set_option linter.all false
set_option maxRecDepth 100000
set_option maxHeartbeats 4000000
section
/-! Sim 1: values as trees and cells, the store, the relation to the abstract heap, what a result promises. -/
namespace Sim
open PySem PySem.Spec PyProof.Rows L2
/-- the slots -/
abbrev Sg := L2.St

/-- a value: data as trees; at k is a reference to the store's cell k -/
inductive D where
  | non | bl (b : Bool) | int (i : Int) | str (x : Str) | ty (n : String) | glob (x : Str) | cl (k : Nat)
  | lst (xs : List D) | rl (xs : List D) | tup (xs : List D) | ins (c : Str) (fs : List (Str × D)) | dic (kvs : List (Key × D))
/-- what a cell holds -/
inductive Cell where
  | dead | lst (xs : List D) | ins (c : Str) (fs : List (Str × D)) | dic (kvs : List (Key × D))
abbrev Store := List Cell
abbrev Ev := List (Option D)
mutual
/-- all its references stand below n -/
def D.low (n : Nat) : D → Bool
  | .cl k => decide (k < n)
  | .lst xs => D.lows n xs
  | .rl xs => D.lows n xs
  | .tup xs => D.lows n xs
  | .ins _ fs => D.lowF n fs
  | .dic kvs => D.lowK n kvs
  | _ => true
def D.lows (n : Nat) : List D → Bool
  | [] => true
  | d :: r => D.low n d && D.lows n r
def D.lowF (n : Nat) : List (Str × D) → Bool
  | [] => true
  | (_, d) :: r => D.low n d && D.lowF n r
def D.lowK (n : Nat) : List (Key × D) → Bool
  | [] => true
  | (_, d) :: r => D.low n d && D.lowK n r
end
def Cell.low (n : Nat) : Cell → Bool
  | .dead => true
  | .lst xs => D.lows n xs
  | .ins _ fs => D.lowF n fs
  | .dic kvs => D.lowK n kvs
structure Exn where
  c : Str
  fs : List (Str × D)
inductive Res (α : Type) where
  | stuck | ok (a : α) (st : Store) | exn (e : Exn) (st : Store)
abbrev M (α : Type) := Store → Res α
def M.bind {α β : Type} (m : M α) (f : α → M β) : M β := fun st => match m st with
  | .ok a st' => f a st'
  | .exn e st' => .exn e st'
  | .stuck => .stuck
/-- a pure step that may read and write the store -/
abbrev O (α : Type) := Store → Option (α × Store)
def M.of {α : Type} (o : O α) : M α := fun st => match o st with
  | some (a, st') => .ok a st'
  | none => .stuck
inductive RS where
  | stuck | nx (ev : Ev) (st : Store) | rt (v : D) (st : Store) | bk (ev : Ev) (st : Store) | ct (ev : Ev) (st : Store) | ex (e : Exn) (ev : Ev) (st : Store)
abbrev ME := Ev → M D
abbrev MT := Ev → M Bool
abbrev MA := Ev → M (List D)
abbrev MS := Ev → Store → RS

/-! ### the relation -/
/-- a tuple: tracked, or of the written part -/
def TupAt (K : PySem.W.Frag) (G : Hp) (a : Addr) (vs : List V) : Prop := G a = some (.tup vs) ∨
  ∃ (o : Obj) (its : Array Value) (n : Nat), K.lookup a = some o ∧ o.cls = .type "tuple" ∧ o.data = .seq its n ∧ its.size ≤ sizeLine ∧ Vals vs its.toList
theorem TupAt.sq {K : PySem.W.Frag} {G : Hp} {a : Addr} {vs : List V} (h : TupAt K G a vs) : SqT K G a vs := h.elim (fun h => SqT.of h) .inr
theorem TupAt.mono {K : PySem.W.Frag} {G G' : Hp} {a : Addr} {vs : List V} (e : Same G G') (h : TupAt K G a vs) : TupAt K G' a vs := h.elim (fun h => .inl (e _ _ h)) .inr
structure Cn where
  K : PySem.W.Frag
  mg : Str → Option Value
abbrev cn (X : Cx) : Cn := ⟨X.K, X.mg⟩
/-! ### worlds -/
/-- G: what stays as it is; al: where the cells stand -/
structure Wd where
  G : Hp
  al : List Addr
structure Wd.le (W W' : Wd) : Prop where
  g : Same W.G W'.G
  a : ∃ t, W'.al = W.al ++ t
theorem Wd.le.refl (W : Wd) : W.le W := ⟨Same.refl _, [], by simp⟩
theorem Wd.le.trans {W W' W'' : Wd} (h : W.le W') (h' : W'.le W'') : W.le W'' := by
  obtain ⟨t, e⟩ := h.a
  obtain ⟨t', e'⟩ := h'.a
  exact ⟨h.g.trans h'.g, t ++ t', by rw [e', e, List.append_assoc]⟩
theorem Wd.le.at {W W' : Wd} (h : W.le W') {k : Nat} {a : Addr} (e : W.al[k]? = some a) : W'.al[k]? = some a := by
  obtain ⟨t, q⟩ := h.a
  rw [q, List.getElem?_append_left (List.getElem?_eq_some_iff.mp e).1]
  exact e
section
variable (C : Cn) (W : Wd)
mutual
inductive RelD : V → D → Prop
  | non : RelD .non .non
  | bl (b : Bool) : RelD (.bl b) (.bl b)
  | int (i : Int) : RelD (.int i) (.int i)
  | str (x : Str) : RelD (.str x) (.str x)
  | ty (n : String) : RelD (.ty n) (.ty n)
  | glob {x : Str} {a : Addr} : C.mg x = some (.ref a) → RelD (.ref a) (.glob x)
  | cl {a : Addr} {k : Nat} : W.al[k]? = some a → RelD (.ref a) (.cl k)
  | lst {a : Addr} {vs : List V} {ds : List D} : W.G a = some (.lst vs) → RelDs vs ds → RelD (.ref a) (.lst ds)
  | rl {a : Addr} {vs : List V} {ds : List D} : SqL C.K W.G a vs → RelDs vs ds → RelD (.ref a) (.rl ds)
  | tup {a : Addr} {vs : List V} {ds : List D} : TupAt C.K W.G a vs → RelDs vs ds → RelD (.ref a) (.tup ds)
  | ins {a A dx : Addr} {c : Str} {gs : List (Str × V)} {fs : List (Str × D)} : C.mg c = some (.ref A) → W.G a = some (.ins A dx gs) → RelFs gs fs → RelD (.ref a) (.ins c fs)
  | dic {a : Addr} {gs : List (Key × V)} {fs : List (Key × D)} : W.G a = some (.dK gs) → RelKs gs fs → RelD (.ref a) (.dic fs)
inductive RelDs : List V → List D → Prop
  | nil : RelDs [] []
  | cons {v : V} {d : D} {vs : List V} {ds : List D} : RelD v d → RelDs vs ds → RelDs (v :: vs) (d :: ds)
inductive RelFs : List (Str × V) → List (Str × D) → Prop
  | nil : RelFs [] []
  | cons {f : Str} {v : V} {d : D} {vs : List (Str × V)} {ds : List (Str × D)} : RelD v d → RelFs vs ds → RelFs ((f, v) :: vs) ((f, d) :: ds)
inductive RelKs : List (Key × V) → List (Key × D) → Prop
  | nil : RelKs [] []
  | cons {f : Key} {v : V} {d : D} {vs : List (Key × V)} {ds : List (Key × D)} : RelD v d → RelKs vs ds → RelKs ((f, v) :: vs) ((f, d) :: ds)
end
end
theorem Same.seqT {K : PySem.W.Frag} {H H' : Hp} {a : Addr} {xs : List V} (e : Same H H') (h : SqT K H a xs) : SqT K H' a xs := by
  rcases h with (h | ⟨o, h⟩) | h
  · exact .inl (.inl (e _ _ h))
  · exact .inl (.inr ⟨o, e _ _ h⟩)
  · exact .inr h
section
variable {C : Cn} {W W' : Wd}
mutual
theorem RelD.mono (e : W.le W') : ∀ {v : V} {d : D}, RelD C W v d → RelD C W' v d
  | _, _, .non => .non
  | _, _, .bl b => .bl b
  | _, _, .int i => .int i
  | _, _, .str x => .str x
  | _, _, .ty n => .ty n
  | _, _, .glob h => .glob h
  | _, _, .cl h => .cl (e.at h)
  | _, _, .lst h r => .lst (e.g _ _ h) (RelDs.mono e r)
  | _, _, .rl h r => .rl (e.g.seq h) (RelDs.mono e r)
  | _, _, .tup h r => .tup (h.mono e.g) (RelDs.mono e r)
  | _, _, .ins h1 h2 r => .ins h1 (e.g _ _ h2) (RelFs.mono e r)
  | _, _, .dic h r => .dic (e.g _ _ h) (RelKs.mono e r)
theorem RelDs.mono (e : W.le W') : ∀ {v : List V} {d : List D}, RelDs C W v d → RelDs C W' v d
  | _, _, .nil => .nil
  | _, _, .cons h r => .cons (RelD.mono e h) (RelDs.mono e r)
theorem RelFs.mono (e : W.le W') : ∀ {v : List (Str × V)} {d : List (Str × D)}, RelFs C W v d → RelFs C W' v d
  | _, _, .nil => .nil
  | _, _, .cons h r => .cons (RelD.mono e h) (RelFs.mono e r)
theorem RelKs.mono (e : W.le W') : ∀ {v : List (Key × V)} {d : List (Key × D)}, RelKs C W v d → RelKs C W' v d
  | _, _, .nil => .nil
  | _, _, .cons h r => .cons (RelD.mono e h) (RelKs.mono e r)
end
/-- the world's cells cut back -/
def Wd.cut (W : Wd) (n : Nat) : Wd := ⟨W.G, W.al.take n⟩
theorem Wd.cut_at {W : Wd} {n k : Nat} {a : Addr} (h : k < n) (e : W.al[k]? = some a) : (W.cut n).al[k]? = some a := by
  show (W.al.take n)[k]? = _
  rw [List.getElem?_take, if_pos h]; exact e
mutual
theorem RelD.cut {n : Nat} : ∀ {v : V} {d : D}, RelD C W v d → D.low n d = true → RelD C (W.cut n) v d
  | _, _, .non, _ => .non
  | _, _, .bl b, _ => .bl b
  | _, _, .int i, _ => .int i
  | _, _, .str x, _ => .str x
  | _, _, .ty n, _ => .ty n
  | _, _, .glob h, _ => .glob h
  | _, .cl k, .cl h, b => .cl (Wd.cut_at (by simpa only [D.low, decide_eq_true_eq] using b) h)
  | _, _, .lst h r, b => .lst h (RelDs.cut r (by simpa only [D.low] using b))
  | _, _, .rl h r, b => .rl h (RelDs.cut r (by simpa only [D.low] using b))
  | _, _, .tup h r, b => .tup h (RelDs.cut r (by simpa only [D.low] using b))
  | _, _, .ins h1 h2 r, b => .ins h1 h2 (RelFs.cut r (by simpa only [D.low] using b))
  | _, _, .dic h r, b => .dic h (RelKs.cut r (by simpa only [D.low] using b))
theorem RelDs.cut {n : Nat} : ∀ {v : List V} {d : List D}, RelDs C W v d → D.lows n d = true → RelDs C (W.cut n) v d
  | _, _, .nil, _ => .nil
  | _, _, .cons h r, b => by
    simp only [D.lows, Bool.and_eq_true] at b
    exact .cons (RelD.cut h b.1) (RelDs.cut r b.2)
theorem RelFs.cut {n : Nat} : ∀ {v : List (Str × V)} {d : List (Str × D)}, RelFs C W v d → D.lowF n d = true → RelFs C (W.cut n) v d
  | _, _, .nil, _ => .nil
  | _, _, .cons h r, b => by
    simp only [D.lowF, Bool.and_eq_true] at b
    exact .cons (RelD.cut h b.1) (RelFs.cut r b.2)
theorem RelKs.cut {n : Nat} : ∀ {v : List (Key × V)} {d : List (Key × D)}, RelKs C W v d → D.lowK n d = true → RelKs C (W.cut n) v d
  | _, _, .nil, _ => .nil
  | _, _, .cons h r, b => by
    simp only [D.lowK, Bool.and_eq_true] at b
    exact .cons (RelD.cut h b.1) (RelKs.cut r b.2)
end
mutual
theorem RelD.low : ∀ {v : V} {d : D}, RelD C W v d → D.low W.al.length d = true
  | _, _, .non => by simp only [D.low]
  | _, _, .bl b => by simp only [D.low]
  | _, _, .int i => by simp only [D.low]
  | _, _, .str x => by simp only [D.low]
  | _, _, .ty n => by simp only [D.low]
  | _, _, .glob h => by simp only [D.low]
  | _, _, .cl h => by simp only [D.low, decide_eq_true_eq]; exact (List.getElem?_eq_some_iff.mp h).1
  | _, _, .lst h r => by simp only [D.low]; exact RelDs.low r
  | _, _, .rl h r => by simp only [D.low]; exact RelDs.low r
  | _, _, .tup h r => by simp only [D.low]; exact RelDs.low r
  | _, _, .ins h1 h2 r => by simp only [D.low]; exact RelFs.low r
  | _, _, .dic h r => by simp only [D.low]; exact RelKs.low r
theorem RelDs.low : ∀ {v : List V} {d : List D}, RelDs C W v d → D.lows W.al.length d = true
  | _, _, .nil => by simp only [D.lows]
  | _, _, .cons h r => by simp only [D.lows, Bool.and_eq_true]; exact ⟨RelD.low h, RelDs.low r⟩
theorem RelFs.low : ∀ {v : List (Str × V)} {d : List (Str × D)}, RelFs C W v d → D.lowF W.al.length d = true
  | _, _, .nil => by simp only [D.lowF]
  | _, _, .cons h r => by simp only [D.lowF, Bool.and_eq_true]; exact ⟨RelD.low h, RelFs.low r⟩
theorem RelKs.low : ∀ {v : List (Key × V)} {d : List (Key × D)}, RelKs C W v d → D.lowK W.al.length d = true
  | _, _, .nil => by simp only [D.lowK]
  | _, _, .cons h r => by simp only [D.lowK, Bool.and_eq_true]; exact ⟨RelD.low h, RelKs.low r⟩
end
theorem RelDs.length : ∀ {vs : List V} {ds : List D}, RelDs C W vs ds → vs.length = ds.length
  | _, _, .nil => rfl
  | _, _, .cons _ r => congrArg (· + 1) (RelDs.length r)
theorem RelDs.get : ∀ {vs : List V} {ds : List D} {i : Nat} {d : D}, RelDs C W vs ds → ds[i]? = some d → ∃ v, vs[i]? = some v ∧ RelD C W v d
  | _, _, _, _, .nil, e => by simp at e
  | _, _, 0, _, .cons h _, e => by simp at e; subst e; exact ⟨_, rfl, h⟩
  | _, _, i + 1, d, .cons _ r, e => by
    obtain ⟨v, h1, h2⟩ := RelDs.get (i := i) (d := d) r (by simpa using e)
    exact ⟨v, by simpa using h1, h2⟩
theorem RelDs.getV : ∀ {vs : List V} {ds : List D} {i : Nat} {v : V}, RelDs C W vs ds → vs[i]? = some v → ∃ d, ds[i]? = some d ∧ RelD C W v d
  | _, _, _, _, .nil, e => by simp at e
  | _, _, 0, _, .cons h _, e => by simp at e; subst e; exact ⟨_, rfl, h⟩
  | _, _, i + 1, d, .cons _ r, e => by
    obtain ⟨v, h1, h2⟩ := RelDs.getV (i := i) (v := d) r (by simpa using e)
    exact ⟨v, by simpa using h1, h2⟩
theorem RelDs.append : ∀ {vs ws : List V} {ds es : List D}, RelDs C W vs ds → RelDs C W ws es → RelDs C W (vs ++ ws) (ds ++ es)
  | _, _, _, _, .nil, s => s
  | _, _, _, _, .cons h r, s => .cons h (RelDs.append r s)
theorem RelDs.take : ∀ {vs : List V} {ds : List D} (n : Nat), RelDs C W vs ds → RelDs C W (vs.take n) (ds.take n)
  | _, _, 0, _ => .nil
  | _, _, _ + 1, .nil => .nil
  | _, _, n + 1, .cons h r => .cons h (RelDs.take n r)
theorem RelDs.drop : ∀ {vs : List V} {ds : List D} (n : Nat), RelDs C W vs ds → RelDs C W (vs.drop n) (ds.drop n)
  | _, _, 0, r => r
  | _, _, _ + 1, .nil => .nil
  | _, _, n + 1, .cons _ r => RelDs.drop n r
theorem RelDs.set {v : V} {d : D} (h : RelD C W v d) : ∀ {vs : List V} {ds : List D} (n : Nat), RelDs C W vs ds → RelDs C W (vs.set n v) (ds.set n d)
  | _, _, _, .nil => .nil
  | _, _, 0, .cons _ r => .cons h r
  | _, _, n + 1, .cons h' r => .cons h' (RelDs.set h n r)
theorem RelDs.reps : ∀ {vs : List V} {ds : List D} (n : Nat), RelDs C W vs ds → RelDs C W (List.replicate n vs).flatten (List.replicate n ds).flatten
  | _, _, 0, _ => .nil
  | vs, ds, n + 1, r => by
    rw [List.replicate_succ, List.replicate_succ, List.flatten_cons, List.flatten_cons]
    exact RelDs.append r (RelDs.reps n r)
theorem RelDs.bls : ∀ {vs : List V} {bs : List Bool}, RelDs C W vs (bs.map D.bl) → vs = bs.map V.bl
  | [], [], _ => rfl
  | [], _ :: _, h => by cases h
  | _ :: _, [], h => by cases h
  | _ :: vs, b :: bs, h => by
    cases h with
    | cons h r => cases h; rw [RelDs.bls r]; rfl
theorem RelDs.ints : ∀ {vs : List V} {bs : List Int}, RelDs C W vs (bs.map D.int) → vs = bs.map V.int
  | [], [], _ => rfl
  | [], _ :: _, h => by cases h
  | _ :: _, [], h => by cases h
  | _ :: vs, b :: bs, h => by
    cases h with
    | cons h r => cases h; rw [RelDs.ints r]; rfl
theorem RelDs.of_ints : ∀ (bs : List Int), RelDs C W (bs.map V.int) (bs.map D.int)
  | [] => .nil
  | b :: bs => .cons (.int b) (RelDs.of_ints bs)
end

/-! ### the store's cells -/
section
variable (C : Cn)
def CellOk (W : Wd) (H : Hp) (a : Addr) : Cell → Prop
  | .dead => ∃ o, W.G a = some o
  | .lst ds => W.G a = none ∧ ∃ vs, H a = some (.lst vs) ∧ RelDs C W vs ds
  | .ins c fs => W.G a = none ∧ ∃ A dx gs, C.mg c = some (.ref A) ∧ H a = some (.ins A dx gs) ∧ RelFs C W gs fs
  | .dic kvs => W.G a = none ∧ ∃ gs, H a = some (.dK gs) ∧ RelKs C W gs kvs
structure WOk (W : Wd) (H : Hp) (st : Store) : Prop where
  same : Same W.G H
  len : W.al.length = st.length
  nd : W.al.Nodup
  cel : ∀ (k : Nat) a c, W.al[k]? = some a → st[k]? = some c → CellOk C W H a c
def EvR (W : Wd) (σ : Sg) (ev : Ev) : Prop := σ.length = ev.length ∧ ∀ (i : Nat) v, ev[i]? = some (some v) → ∃ x, σ[i]? = some (some x) ∧ RelD C W x v
def ExnR (W : Wd) (e : Exn) (cls : Value) (d : Option Addr) : Prop := ∃ A dd gs, cls = .ref A ∧ C.mg e.c = some (.ref A) ∧ d = some dd ∧ W.G dd = some (.xd gs) ∧ RelFs C W gs e.fs
end
section
variable {C : Cn} {W W' : Wd} {H H' : Hp} {st st' : Store} {σ : Sg} {ev : Ev}
theorem EvR.mono (l : W.le W') (h : EvR C W σ ev) : EvR C W' σ ev := ⟨h.1, fun i v e => let ⟨x, h1, h2⟩ := h.2 i v e; ⟨x, h1, h2.mono l⟩⟩
theorem EvR.set {i : Nat} {v : V} {d : D} (h : EvR C W σ ev) (r : RelD C W v d) : EvR C W (σ.set i (some v)) (ev.set i (some d)) := by
  refine ⟨by simp [h.1], fun j u e => ?_⟩
  rw [List.getElem?_set] at e
  by_cases q : i = j
  · subst q
    rw [if_pos rfl] at e
    split at e
    · rename_i hl
      cases e
      exact ⟨v, by rw [List.getElem?_set_self (by rw [h.1]; exact hl)], r⟩
    · cases e
  · rw [if_neg q] at e
    obtain ⟨x, h1, h2⟩ := h.2 j u e
    exact ⟨x, by rw [List.getElem?_set_ne q]; exact h1, h2⟩
theorem ExnR.mono {e : Exn} {cls : Value} {d : Option Addr} (l : W.le W') (h : ExnR C W e cls d) : ExnR C W' e cls d := by
  obtain ⟨A, dd, gs, h1, h2, h3, h4, h5⟩ := h
  exact ⟨A, dd, gs, h1, h2, h3, l.g _ _ h4, h5.mono l⟩
/-- every cell's address is tracked -/
theorem WOk.there (o : WOk C W H st) {k : Nat} {a : Addr} (e : W.al[k]? = some a) : ∃ u, H a = some u := by
  have hk : k < st.length := by rw [← o.len]; exact (List.getElem?_eq_some_iff.mp e).1
  have q := o.cel k a st[k] e (List.getElem?_eq_getElem hk)
  cases hc : st[k] with
  | dead => rw [hc] at q; obtain ⟨u, q⟩ := q; exact ⟨u, o.same _ _ q⟩
  | lst ds => rw [hc] at q; obtain ⟨_, vs, q, _⟩ := q; exact ⟨_, q⟩
  | ins c fs => rw [hc] at q; obtain ⟨_, _, _, _, _, q, _⟩ := q; exact ⟨_, q⟩
  | dic kvs => rw [hc] at q; obtain ⟨_, _, q, _⟩ := q; exact ⟨_, q⟩
theorem CellOk.mono {a : Addr} (e : W.le W') (k : ∀ o, H a = some o → H' a = some o) (hn : W.G a = none → W'.G a = none) : ∀ {c : Cell}, CellOk C W H a c → CellOk C W' H' a c
  | .dead, ⟨o, q⟩ => ⟨o, e.g _ _ q⟩
  | .lst _, ⟨n, vs, q, r⟩ => ⟨hn n, vs, k _ q, r.mono e⟩
  | .ins _ _, ⟨n, A, dx, gs, h1, q, r⟩ => ⟨hn n, A, dx, gs, h1, k _ q, r.mono e⟩
  | .dic _, ⟨n, gs, q, r⟩ => ⟨hn n, gs, k _ q, r.mono e⟩
theorem CellOk.low {a : Addr} : ∀ {c : Cell}, CellOk C W H a c → c.low W.al.length = true
  | .dead, _ => rfl
  | .lst _, ⟨_, _, _, r⟩ => r.low
  | .ins _ _, ⟨_, _, _, _, _, _, r⟩ => r.low
  | .dic _, ⟨_, _, _, r⟩ => r.low
theorem CellOk.cut {a : Addr} {n : Nat} : ∀ {c : Cell}, CellOk C W H a c → c.low n = true → CellOk C (W.cut n) H a c
  | .dead, ⟨o, q⟩, _ => ⟨o, q⟩
  | .lst _, ⟨h, vs, q, r⟩, b => ⟨h, vs, q, r.cut b⟩
  | .ins _ _, ⟨h, A, dx, gs, h1, q, r⟩, b => ⟨h, A, dx, gs, h1, q, r.cut b⟩
  | .dic _, ⟨h, gs, q, r⟩, b => ⟨h, gs, q, r.cut b⟩
theorem WOk.low (o : WOk C W H st) {k : Nat} {c : Cell} (e : st[k]? = some c) : c.low st.length = true := by
  have hk : k < W.al.length := by rw [o.len]; exact (List.getElem?_eq_some_iff.mp e).1
  have q := (o.cel k _ c (List.getElem?_eq_getElem hk) e).low
  rw [o.len] at q; exact q
/-- a new object that stays as it is -/
theorem WOk.grow (o : WOk C W H st) {p : Addr} {u : HO} (hp : H p = none) : W.le ⟨upd W.G p u, W.al⟩ ∧ WOk C ⟨upd W.G p u, W.al⟩ (upd H p u) st := by
  have gp : W.G p = none := o.same.free hp
  have s1 : Same W.G (upd W.G p u) := fun b v e => by rw [upd_ne (ne_of_none e gp)]; exact e
  refine ⟨⟨s1, [], by simp⟩, ⟨fun b v e => ?_, o.len, o.nd, fun k a c h1 h2 => ?_⟩⟩
  · by_cases hb : b = p
    · subst hb
      have e' : upd W.G b u b = some v := e
      rw [upd_same] at e'; rw [upd_same]; exact e'
    · have e' : upd W.G p u b = some v := e
      rw [upd_ne hb] at e'; rw [upd_ne hb]; exact o.same _ _ e'
  · have hne : a ≠ p := fun z => by obtain ⟨v, q⟩ := o.there h1; rw [z, hp] at q; cases q
    exact (o.cel k a c h1 h2).mono ⟨s1, [], by simp⟩ (fun v q => by rw [upd_ne hne]; exact q) fun n => by show upd W.G p u a = none; rw [upd_ne hne]; exact n
/-- more objects that stay as they are (a helper's), the cells untouched -/
theorem WOk.newCell (o : WOk C W H st) {p : Addr} {u : HO} {c : Cell} (hp : H p = none) (hc : CellOk C ⟨W.G, W.al ++ [p]⟩ (upd H p u) p c) : W.le ⟨W.G, W.al ++ [p]⟩ ∧ WOk C ⟨W.G, W.al ++ [p]⟩ (upd H p u) (st ++ [c]) := by
  have gp : W.G p = none := o.same.free hp
  refine ⟨⟨Same.refl _, [p], rfl⟩, ⟨fun b v e => ?_, by simp [o.len], ?_, fun k a c' h1 h2 => ?_⟩⟩
  · rw [upd_ne (ne_of_none e gp)]; exact o.same _ _ e
  · refine List.nodup_append.mpr ⟨o.nd, by simp, fun a ha b hb => ?_⟩
    have hb' : b = p := by simpa using hb
    subst hb'
    rintro rfl
    obtain ⟨k, hk⟩ := List.getElem?_of_mem ha
    obtain ⟨v, q⟩ := o.there hk
    rw [hp] at q; cases q
  · have h1' : (W.al ++ [p])[k]? = some a := h1
    by_cases hk : k < W.al.length
    · rw [List.getElem?_append_left hk] at h1'
      rw [List.getElem?_append_left (by rw [← o.len]; exact hk)] at h2
      have hne : a ≠ p := fun z => by obtain ⟨v, q⟩ := o.there h1'; rw [z, hp] at q; cases q
      exact CellOk.mono (W := W) (W' := ⟨W.G, W.al ++ [p]⟩) ⟨Same.refl _, [p], rfl⟩ (fun v q => by rw [upd_ne hne]; exact q) (fun n => n) (o.cel k a c' h1' h2)
    · have hk2 : k = W.al.length := by
        have := (List.getElem?_eq_some_iff.mp h1').1
        simp at this; omega
      subst hk2
      rw [List.getElem?_append_right (Nat.le_refl _)] at h1'
      rw [o.len, List.getElem?_append_right (Nat.le_refl _)] at h2
      simp at h1' h2
      subst h1' h2
      exact hc
theorem CellOk.live {a : Addr} : ∀ {c : Cell}, CellOk C W H a c → c ≠ .dead → W.G a = none
  | .dead, _, h => absurd rfl h
  | .lst _, h, _ => h.1
  | .ins _ _, h, _ => h.1
  | .dic _, h, _ => h.1
/-- a live cell is written -/
theorem WOk.write (o : WOk C W H st) {k : Nat} {a : Addr} {u : HO} {c : Cell} (ha : W.al[k]? = some a) (hg : W.G a = none) (hc : CellOk C W (upd H a u) a c) : WOk C W (upd H a u) (st.set k c) := by
  refine ⟨fun b v e => ?_, by simp [o.len], o.nd, fun j b c' h1 h2 => ?_⟩
  · rw [upd_ne (ne_of_none e hg)]; exact o.same _ _ e
  · rw [List.getElem?_set] at h2
    by_cases hj : k = j
    · subst hj
      rw [ha] at h1; cases h1
      rw [if_pos rfl] at h2
      split at h2
      · cases h2; exact hc
      · cases h2
    · rw [if_neg hj] at h2
      have hne : b ≠ a := fun z => by subst z; exact hj (nd_ix o.nd ha h1)
      exact (o.cel j b c' h1 h2).mono (Wd.le.refl _) (fun v q => by rw [upd_ne hne]; exact q) fun n => n
/-- a live cell is frozen -/
theorem WOk.freeze (o : WOk C W H st) {k : Nat} {a : Addr} {u : HO} (ha : W.al[k]? = some a) (hg : W.G a = none) (hu : H a = some u) : W.le ⟨upd W.G a u, W.al⟩ ∧ WOk C ⟨upd W.G a u, W.al⟩ H (st.set k .dead) := by
  have s1 : Same W.G (upd W.G a u) := fun b v e => by rw [upd_ne (ne_of_none e hg)]; exact e
  refine ⟨⟨s1, [], by simp⟩, ⟨fun b v e => ?_, by simp [o.len], o.nd, fun j b c' h1 h2 => ?_⟩⟩
  · have e' : upd W.G a u b = some v := e
    by_cases hb : b = a
    · subst hb; rw [upd_same] at e'; cases e'; exact hu
    · rw [upd_ne hb] at e'; exact o.same _ _ e'
  · have h1' : W.al[j]? = some b := h1
    rw [List.getElem?_set] at h2
    by_cases hj : k = j
    · subst hj
      rw [ha] at h1'; cases h1'
      rw [if_pos rfl] at h2
      split at h2
      · cases h2; exact ⟨u, upd_same⟩
      · cases h2
    · rw [if_neg hj] at h2
      have hne : b ≠ a := fun z => by subst z; exact hj (nd_ix o.nd ha h1')
      exact (o.cel j b c' h1' h2).mono ⟨s1, [], by simp⟩ (fun v q => q) fun n => by show upd W.G a u b = none; rw [upd_ne hne]; exact n
/-- the cells ahead of n are as they were, or hold nothing behind n -/
def CutOk (n : Nat) (st st' : Store) : Prop := ∀ k, k < n → ∀ c, st'[k]? = some c → st[k]? = some c ∨ c.low n = true
theorem CutOk.same {n : Nat} {st : Store} : CutOk n st st := fun _ _ _ h => .inl h
/-- the store cut back to its first n cells -/
theorem WOk.cut (o : WOk C W H st) (n : Nat) (hb : ∀ k, k < n → ∀ c, st[k]? = some c → c.low n = true) : WOk C (W.cut n) H (st.take n) :=
  ⟨o.same, by show (W.al.take n).length = _; simp [o.len], o.nd.sublist (List.take_sublist _ _), fun k a c h1 h2 => by
    have h1' : (W.al.take n)[k]? = some a := h1
    rw [List.getElem?_take] at h1' h2
    split at h1'
    · rename_i hk
      rw [if_pos hk] at h2
      exact (o.cel k a c h1' h2).cut (hb k hk c h2)
    · cases h1'⟩
/-- .. behind a step that began at this length -/
theorem WOk.cutTo {W0 : Wd} {H0 : Hp} {st0 : Store} (o0 : WOk C W0 H0 st0) (l : W0.le W) (o : WOk C W H st) (hc : CutOk st0.length st0 st) : W0.le (W.cut st0.length) ∧ WOk C (W.cut st0.length) H (st.take st0.length) := by
  refine ⟨⟨l.g, [], ?_⟩, o.cut _ fun k hk c e => ?_⟩
  · obtain ⟨t, q⟩ := l.a
    show W.al.take st0.length = W0.al ++ []
    rw [q, ← o0.len, List.take_left, List.append_nil]
  · rcases hc k hk c e with h | h
    · exact o0.low h
    · exact h
end

/-! ### what a result promises -/
section
variable (C : Cn)
def Fin {α β : Type} (rel : Wd → β → α → Prop) (W : Wd) (σ : Sg) (Wx : WX) (Q : β → Hp → Prop) : Res α → Prop
  | .ok a st' => ∀ b H' W', W.le W' → WOk C W' H' st' → rel W' b a → Q b H'
  | .exn e st' => ∀ cls d H' W', W.le W' → WOk C W' H' st' → ExnR C W' e cls d → Wx cls d σ H'
  | .stuck => False
def FinS (W : Wd) (Wx : WX) (D : Ends) : RS → Prop
  | .nx ev st => ∀ σ H W', W.le W' → WOk C W' H st → EvR C W' σ ev → D.nx σ H
  | .rt v st => ∀ x H W', W.le W' → WOk C W' H st → RelD C W' x v → D.rt x H
  | .bk ev st => ∀ σ H W', W.le W' → WOk C W' H st → EvR C W' σ ev → D.bk σ H
  | .ct ev st => ∀ σ H W', W.le W' → WOk C W' H st → EvR C W' σ ev → D.ct σ H
  | .ex e ev st => ∀ cls d σ H W', W.le W' → WOk C W' H st → EvR C W' σ ev → ExnR C W' e cls d → Wx cls d σ H
  | .stuck => False
def Lift {α β : Type} (rel : Wd → β → α → Prop) (Wx : WX) (m : Ev → M α)   : Sg → Hp → (β → Hp → Prop) → Prop := fun σ H Q =>
  ∃ W ev st, WOk C W H st ∧ EvR C W σ ev ∧ Fin C rel W σ Wx Q (m ev st)
abbrev relB : Wd → Bool → Bool → Prop := fun _ b a => b = a
abbrev LE (Wx : WX) (m : ME) : TE := Lift C (RelD C) Wx m
abbrev LA (Wx : WX) (m : MA) : TA := Lift C (RelDs C) Wx m
abbrev LT (Wx : WX) (m : MT) : TT := Lift C relB Wx m
def LS (Wx : WX) (m : MS) : TS := fun D σ H => ∃ W ev st, WOk C W H st ∧ EvR C W σ ev ∧ FinS C W Wx D (m ev st)
end
section
variable {C : Cn} {α β γ δ : Type} {rel : Wd → β → α → Prop} {rel2 : Wd → δ → γ → Prop} {W W' : Wd} {σ : Sg} {Wx : WX} {H : Hp}
theorem Fin.mono {Q : β → Hp → Prop} {r : Res α} (l : W.le W') (h : Fin C rel W σ Wx Q r) : Fin C rel W' σ Wx Q r := by
  cases r with
  | stuck => exact h
  | ok a st => exact fun b H' W'' l' => h b H' W'' (l.trans l')
  | exn e st => exact fun cls d H' W'' l' => h cls d H' W'' (l.trans l')
theorem FinS.mono {D : Ends} {r : RS} (l : W.le W') (h : FinS C W Wx D r) : FinS C W' Wx D r := by
  cases r with
  | stuck => exact h
  | nx ev st => exact fun σ H W'' l' => h σ H W'' (l.trans l')
  | rt v st => exact fun x H W'' l' => h x H W'' (l.trans l')
  | bk ev st => exact fun σ H W'' l' => h σ H W'' (l.trans l')
  | ct ev st => exact fun σ H W'' l' => h σ H W'' (l.trans l')
  | ex e ev st => exact fun c d σ H W'' l' => h c d σ H W'' (l.trans l')
/-- THE BIND: the first step's own reading, its end the second step's -/
theorem lift_bind {ma : Ev → M α} {f : α → Ev → M γ} {Q : δ → Hp → Prop} (h : Lift C rel2 Wx (fun ev => (ma ev).bind fun a => f a ev) σ H Q) :
    Lift C rel Wx ma σ H fun b H1 => ∃ a W st ev, WOk C W H1 st ∧ EvR C W σ ev ∧ rel W b a ∧ Fin C rel2 W σ Wx Q (f a ev st) := by
  obtain ⟨W, ev, st, o, e, h⟩ := h
  refine ⟨W, ev, st, o, e, ?_⟩
  have h : Fin C rel2 W σ Wx Q (match ma ev st with
    | .ok a st' => f a ev st'
    | .exn e st' => .exn e st'
    | .stuck => .stuck) := h
  cases q : ma ev st with
  | stuck => rw [q] at h; exact h
  | ok a st' =>
    rw [q] at h
    exact fun b H' W' l o' r => ⟨a, W', st', ev, o', e.mono l, r, Fin.mono l h⟩
  | exn x st' => rw [q] at h; exact h
theorem lift_bindS {ma : Ev → M α} {f : α → MS} {D : Ends} (h : LS C Wx (fun ev st => match ma ev st with | .ok a st' => f a ev st' | .exn e st' => .ex e ev st' | .stuck => .stuck) D σ H) :
    Lift C rel Wx ma σ H fun b H1 => ∃ a W st ev, WOk C W H1 st ∧ EvR C W σ ev ∧ rel W b a ∧ FinS C W Wx D (f a ev st) := by
  obtain ⟨W, ev, st, o, e, h⟩ := h
  refine ⟨W, ev, st, o, e, ?_⟩
  have h : FinS C W Wx D (match ma ev st with | .ok a st' => f a ev st' | .exn e st' => .ex e ev st' | .stuck => .stuck) := h
  cases q : ma ev st with
  | stuck => rw [q] at h; exact h
  | ok a st' =>
    rw [q] at h
    exact fun b H' W' l o' r => ⟨a, W', st', ev, o', e.mono l, r, FinS.mono l h⟩
  | exn x st' => rw [q] at h; exact fun cls d H' W' l o' r => h cls d σ H' W' l o' (e.mono l) r
end
theorem PE.imp {X : Cx} {e : Expr} {t t' : TE} (h : PE X e t) (i : ∀ σ H Q, t' σ H Q → t σ H Q) : PE X e t' := ⟨fun pins s σ H Q I q => h.run pins s σ H Q I (i _ _ _ q)⟩
theorem PT.imp {X : Cx} {e : Expr} {t t' : TT} (h : PT X e t) (i : ∀ σ H Q, t' σ H Q → t σ H Q) : PT X e t' := ⟨fun pins s σ H Q I q => h.run pins s σ H Q I (i _ _ _ q)⟩
theorem PA.imp {X : Cx} {e : List Expr} {t t' : TA} (h : PA X e t) (i : ∀ σ H Q, t' σ H Q → t σ H Q) : PA X e t' := ⟨fun pos pins s σ H Q I q => h.run pos pins s σ H Q I (i _ _ _ q)⟩
theorem PS.imp {X : Cx} {e : Stmt} {t t' : TS} (h : PS X e t) (i : ∀ D σ H, t' D σ H → t D σ H) : PS X e t' := ⟨fun pins s σ H D I q => h.run pins s σ H D I (i _ _ _ q)⟩
theorem PSs.imp {X : Cx} {e : List Stmt} {t t' : TS} (h : PSs X e t) (i : ∀ D σ H, t' D σ H → t D σ H) : PSs X e t' := ⟨fun pins s σ H D I q => h.run pins s σ H D I (i _ _ _ q)⟩
end Sim
end

section
/-! Sim 2: expressions. -/
namespace Sim
open PySem PySem.Spec PyProof.Rows L2
section
variable {C : Cn} {α β γ δ : Type} {rel : Wd → β → α → Prop} {rel2 : Wd → δ → γ → Prop} {W W' : Wd} {σ : Sg} {Wx : WX} {H H' : Hp} {st : Store}
def FinO (C : Cn) (rel : Wd → β → α → Prop) (W : Wd) (Q : β → Hp → Prop) : Option (α × Store) → Prop
  | some (a, st') => ∀ b H' W', W.le W' → WOk C W' H' st' → rel W' b a → Q b H'
  | none => False
theorem fin_of {Q : β → Hp → Prop} {o : O α} (h : Fin C rel W σ Wx Q (M.of o st)) : FinO C rel W Q (o st) := by
  have h : Fin C rel W σ Wx Q (match o st with | some (a, st') => .ok a st' | none => .stuck) := h
  cases q : o st with
  | none => rw [q] at h; exact h
  | some x => obtain ⟨a, st'⟩ := x; rw [q] at h; exact h
theorem Fin.imp {Q Q' : β → Hp → Prop} {r : Res α} (h : Fin C rel W σ Wx Q r) (i : ∀ b H, Q b H → Q' b H) : Fin C rel W σ Wx Q' r := by
  cases r with
  | stuck => exact h
  | ok a st => exact fun b H' W'' l o r => i _ _ (h b H' W'' l o r)
  | exn e st => exact h
theorem fin_bind {m : M α} {f : α → M γ} {Q : δ → Hp → Prop} (h : Fin C rel2 W σ Wx Q (m.bind f st)) :
    Fin C rel W σ Wx (fun b H1 => ∃ a W' st', W.le W' ∧ WOk C W' H1 st' ∧ rel W' b a ∧ Fin C rel2 W' σ Wx Q (f a st')) (m st) := by
  have h : Fin C rel2 W σ Wx Q (match m st with
    | .ok a st' => f a st'
    | .exn e st' => .exn e st'
    | .stuck => .stuck) := h
  cases q : m st with
  | stuck => rw [q] at h; exact h
  | ok a st' =>
    rw [q] at h
    exact fun b H' W' l o' r => ⟨a, W', st', l, o', r, Fin.mono l h⟩
  | exn x st' => rw [q] at h; exact h
/-- first step of a reading -/
theorem lift1 {ma : Ev → M α} {f : α → Ev → M γ} {Q : δ → Hp → Prop} {R : β → Hp → Prop} (h : Lift C rel2 Wx (fun ev => (ma ev).bind fun a => f a ev) σ H Q)
    (k : ∀ b H1 a W st ev, WOk C W H1 st → EvR C W σ ev → rel W b a → Fin C rel2 W σ Wx Q (f a ev st) → R b H1) : Lift C rel Wx ma σ H R := by
  obtain ⟨W, ev, st, o, e, h⟩ := h
  exact ⟨W, ev, st, o, e, (fin_bind (rel := rel) h).imp fun b H1 ⟨a, W', st', l, o', r, q⟩ => k b H1 a W' st' ev o' (e.mono l) r q⟩
/-- further steps -/
theorem lift2 {ma : Ev → M α} {f : α → M γ} {Q : δ → Hp → Prop} {R : β → Hp → Prop} {ev : Ev} (o : WOk C W H st) (e : EvR C W σ ev) (h : Fin C rel2 W σ Wx Q ((ma ev).bind f st))
    (k : ∀ b H1 a W' st', W.le W' → WOk C W' H1 st' → rel W' b a → Fin C rel2 W' σ Wx Q (f a st') → R b H1) : Lift C rel Wx ma σ H R :=
  ⟨W, ev, st, o, e, (fin_bind (rel := rel) h).imp fun b H1 ⟨a, W', st', l, o', r, q⟩ => k b H1 a W' st' l o' r q⟩
end

/-! ### judgements -/
abbrev SE (X : Cx) (Wx : WX) (e : Expr) (m : ME) : Prop := PE X e (LE (cn X) Wx m)
abbrev SA (X : Cx) (Wx : WX) (e : List Expr) (m : MA) : Prop := PA X e (LA (cn X) Wx m)
abbrev STt (X : Cx) (Wx : WX) (e : Expr) (m : MT) : Prop := PT X e (LT (cn X) Wx m)
abbrev SW (X : Cx) (Wx : WX) (e : Expr) (m : MT) : Prop := PW X e (LT (cn X) Wx m)
abbrev SS (X : Cx) (Wx : WX) (e : Stmt) (m : MS) : Prop := PS X e (LS (cn X) Wx m)
abbrev SSs (X : Cx) (Wx : WX) (e : List Stmt) (m : MS) : Prop := PSs X e (LS (cn X) Wx m)
theorem PW.imp {X : Cx} {e : Expr} {t t' : TT} (h : PW X e t) (i : ∀ σ H Q, t' σ H Q → t σ H Q) : PW X e t' := ⟨fun w pins s σ H Q I q => h.run w pins s σ H Q I (i _ _ _ q)⟩

/-! ### leaves -/
def eVar (i : Nat) : ME := fun ev st => match ev[i]? with
  | some (some v) => .ok v st
  | _ => .stuck
def eC (d : D) : ME := fun _ st => .ok (d) st
section
variable {X : Cx} {Wx : WX} {e a b : Expr} {pos : Pos} {ma mb : ME}
theorem se_var (i : Nat) {x : Str} {pos : Pos} (hN : X.N[i]? = some x := by rfl) (hv : Vis X.env.scope x := by first | exact Or.inl rfl | exact Or.inr (Or.inl rfl) | exact Or.inr (Or.inr rfl)) (hd : (x == ("__debug__" : Str)) = false := by decide)
    (hcd : (x == ("__classdict__" : Str)) = false := by decide) : SE X Wx (.Name x pos) (eVar i) := by
  refine PE.imp (pe_var (i := i) hN hv hd hcd) fun σ H Q h => ?_
  obtain ⟨W, ev, st, o, r, h⟩ := h
  have h : Fin (cn X) (RelD (cn X)) W σ Wx Q (match ev[i]? with | some (some v) => .ok v st | _ => .stuck) := h
  cases q : ev[i]? with
  | none => rw [q] at h; exact h.elim
  | some u =>
    cases u with
    | none => rw [q] at h; exact h.elim
    | some v =>
      rw [q] at h
      obtain ⟨x, h1, h2⟩ := r.2 i v q
      exact ⟨x, h1, h x H W (Wd.le.refl W) o h2⟩
theorem se_c {v : V} {d : D} (h : PE X e (tC v)) (r : ∀ W, RelD (cn X) W v d) : SE X Wx e (eC d) :=
  PE.imp h fun σ H Q ⟨W, ev, st, o, _, h⟩ => h v H W (Wd.le.refl W) o (r W)
theorem se_int {i j pos} : SE X Wx (.Constant (.int i) j pos) (eC (.int i)) := se_c pe_int fun _ => .int i
theorem se_bl {b j pos} : SE X Wx (.Constant (.bool b) j pos) (eC (.bl b)) := se_c pe_bl fun _ => .bl b
theorem se_non {j pos} : SE X Wx (.Constant .none j pos) (eC .non) := se_c pe_non fun _ => .non
theorem se_str {x j pos} : SE X Wx (.Constant (.str x) j pos) (eC (.str x)) := se_c pe_str fun _ => .str x
/-- a def, a class of the text as a value -/
theorem se_glob {x : Str} {f : Addr} {pos : Pos} (hm : X.mg x = some (.ref f)) (hg : Gl X x := by rfl) (hd : (x == ("__debug__" : Str)) = false := by decide) : SE X Wx (.Name x pos) (eC (.glob x)) :=
  se_c (pe_glob hg hm (v := .ref f) rfl hd) fun _ => .glob hm
/-- a module's int -/
theorem se_gint {x : Str} {i : Int} {t : Tok} {pos : Pos} (hm : X.mg x = some (.int i t)) (hg : Gl X x := by rfl) (hd : (x == ("__debug__" : Str)) = false := by decide) : SE X Wx (.Name x pos) (eC (.int i)) :=
  se_c (pe_glob hg hm (v := .int i) ⟨t, rfl⟩ hd) fun _ => .int i
/-- a built-in type as a value -/
theorem se_ty {x : Str} {n : String} {pos : Pos} (hm : X.mg x = none) (hv : bootBuiltins x = some (.type n)) (hg : Gl X x := by rfl) (hn : x ≠ "__name__" := by decide) (hd : (x == ("__debug__" : Str)) = false := by decide) : SE X Wx (.Name x pos) (eC (.ty n)) :=
  se_c (pe_bltn hg hm hv (v := .ty n) rfl hn hd) fun _ => .ty n

/-! ### operators by values -/
def R2of (C : Cn) (g : D → D → O D) : R2 := fun x y H Q => ∃ W st a b, WOk C W H st ∧ RelD C W x a ∧ RelD C W y b ∧ FinO C (RelD C) W Q (g a b st)
def R1of (C : Cn) (g : D → O D) : V → Hp → VK → Prop := fun x H Q => ∃ W st a, WOk C W H st ∧ RelD C W x a ∧ FinO C (RelD C) W Q (g a st)
def Rnof (C : Cn) (g : List D → O D) : List V → Hp → VK → Prop := fun xs H Q => ∃ W st as, WOk C W H st ∧ RelDs C W xs as ∧ FinO C (RelD C) W Q (g as st)
def eOp (g : D → D → O D) (ma mb : ME) : ME := fun ev => (ma ev).bind fun x => (mb ev).bind fun y => M.of (g x y)
def eUn (g : D → O D) (ma : ME) : ME := fun ev => (ma ev).bind fun x => M.of (g x)
theorem le_op {g : D → D → O D} {C : Cn} {σ : Sg} {H : Hp} {Q : VK} (h : LE C Wx (eOp g ma mb) σ H Q) : tOp (R2of C g) (LE C Wx ma) (LE C Wx mb) σ H Q :=
  lift1 h fun x H1 a W st ev o e r h1 => lift2 (rel := RelD C) o e h1 fun y H2 b W' st' l o' r' h2 => ⟨W', st', a, b, o', r.mono l, r', fin_of h2⟩
theorem le_un {g : D → O D} {C : Cn} {σ : Sg} {H : Hp} {Q : VK} (h : LE C Wx (eUn g ma) σ H Q) : tUn (R1of C g) (LE C Wx ma) σ H Q :=
  lift1 h fun x H1 a W st ev o e r h1 => ⟨W, st, a, o, r, fin_of h1⟩
theorem se_op {op : Operator} {g : D → D → O D} (ho : OpR X (binaryOp op) (R2of (cn X) g)) (ha : SE X Wx a ma) (hb : SE X Wx b mb) : SE X Wx (.BinOp a op b pos) (eOp g ma mb) :=
  PE.imp (pe_op ho ha hb) fun _ _ _ => le_op
theorem se_un {op : UnaryOp} {g : D → O D} (ho : UnR X (unaryOp op) (R1of (cn X) g)) (ha : SE X Wx a ma) : SE X Wx (.UnaryOp op a pos) (eUn g ma) :=
  PE.imp (pe_un ho ha) fun _ _ _ => le_un
theorem se_cmp {op : CmpOp} {g : D → D → O D} (ho : OpR X (compareOp op) (R2of (cn X) g)) (ha : SE X Wx a ma) (hb : SE X Wx b mb) (hm : behindInMarks op b = false := by first | exact nobehind _ (by decide) (by decide) | rfl) : SE X Wx (.Compare a [op] [b] pos) (eOp g ma mb) :=
  PE.imp (pe_cmpR ho ha hb hm) fun _ _ _ => le_op
theorem se_ix {g : D → D → O D} (ho : IxR X (R2of (cn X) g)) (ha : SE X Wx a ma) (hb : SE X Wx b mb) (hs : PlainIx b := by exact fun _ _ => rfl) : SE X Wx (.Subscript a b pos) (eOp g ma mb) :=
  PE.imp (pe_ix ho ha hb hs) fun _ _ _ => le_op
end

/-! ### tests -/
/-- a bool out of a value -/
def asB : D → M Bool
  | (.bl k) => fun st => .ok k st
  | _ => fun _ => .stuck
def tV (m : ME) : MT := fun ev => (m ev).bind asB
def tCmp (g : D → D → O D) (ma mb : ME) : MT := tV (eOp g ma mb)
theorem M.bind_assoc {α β γ : Type} (m : M α) (f : α → M β) (g : β → M γ) : (m.bind f).bind g = m.bind fun a => (f a).bind g := by
  funext st
  show (match (match m st with | .ok a st' => f a st' | .exn e st' => .exn e st' | .stuck => .stuck) with | .ok a st' => g a st' | .exn e st' => .exn e st' | .stuck => .stuck) = (match m st with | .ok a st' => (f a).bind g st' | .exn e st' => .exn e st' | .stuck => .stuck)
  cases m st <;> rfl
section
variable {X : Cx} {Wx : WX} {e a b : Expr} {pos : Pos} {ma mb : ME} {ta tb : MT}
theorem fin_asB {C : Cn} {W : Wd} {σ : Sg} {Q : Bool → Hp → Prop} {v : D} {st : Store} {x : V} {H : Hp} (o : WOk C W H st) (r : RelD C W x v) (h : Fin C relB W σ Wx Q (asB v st)) : ∃ k, x = .bl k ∧ Q k H := by
  cases v with
  | bl k => cases r; exact ⟨k, rfl, h k H W (Wd.le.refl W) o rfl⟩
  | _ => exact h.elim
theorem st_cmp {op : CmpOp} {g : D → D → O D} (ho : OpR X (compareOp op) (R2of (cn X) g)) (ha : SE X Wx a ma) (hb : SE X Wx b mb) (hm : behindInMarks op b = false := by first | exact nobehind _ (by decide) (by decide) | rfl) : STt X Wx (.Compare a [op] [b] pos) (tCmp g ma mb) := by
  refine PT.imp (pt_cmpR ho ha hb hm) fun σ H Q h => ?_
  have h : Lift (cn X) relB Wx (fun ev => (eOp g ma mb ev).bind asB) σ H Q := h
  have h2 : LE (cn X) Wx (eOp g ma mb) σ H (fun x H1 => ∃ k, x = .bl k ∧ Q k H1) := lift1 h fun x H1 v W st ev o e r q => fin_asB o r q
  exact le_op h2
theorem st_val (ha : SE X Wx a ma) (he : ∀ whole, isTrue a X.env whole = (do let v ← whole; standAt a.pos; holding [v] (truthy v)) := by intro _; rfl) : STt X Wx a (tV ma) :=
  PT.imp (pt_val ha he) fun σ H Q h => lift1 h fun x H1 v W st ev o e r q => fin_asB o r q
end
/-- a value's truth -/
def truth (v : D) : O Bool := fun st => match v with
  | .non => some (false, st)
  | (.bl b) => some (b, st)
  | (.int i) => some (i != 0, st)
  | (.str x) => if x.length ≤ 16777216 then some ((x.length : Int) != 0, st) else none
  | (.lst xs) => some (!xs.isEmpty, st)
  | (.rl xs) => some (!xs.isEmpty, st)
  | (.tup xs) => some (!xs.isEmpty, st)
  | (.dic xs) => some (!xs.isEmpty, st)
  | .cl k => match st[k]? with
    | some (.lst xs) => some (!xs.isEmpty, st)
    | some (.dic xs) => some (!xs.isEmpty, st)
    | _ => none
  | _ => none
def tTru (m : ME) : MT := fun ev => (m ev).bind fun v => M.of (truth v)
section
variable {C : Cn} {W : Wd} {σ : Sg} {H : Hp} {st : Store}
theorem RelDs.isEmpty {vs : List V} {ds : List D} (r : RelDs C W vs ds) : (!vs.isEmpty) = !ds.isEmpty := by cases r <;> rfl
theorem RelKs.isEmpty {vs : List (Key × V)} {ds : List (Key × D)} (r : RelKs C W vs ds) : (!vs.isEmpty) = !ds.isEmpty := by cases r <;> rfl
/-- what a cell's value is -/
theorem cell_of (o : WOk C W H st) {k : Nat} {x : V} {c : Cell} (r : RelD C W x (.cl k)) (e : st[k]? = some c) : ∃ a, x = .ref a ∧ W.al[k]? = some a ∧ CellOk C W H a c := by
  cases r with
  | cl ha => exact ⟨_, rfl, ha, o.cel _ _ _ ha e⟩
theorem fin_truth (o : WOk C W H st) {v : D} {x : V} (r : RelD C W x v) {Q : Bool → Hp → Prop} (h : FinO C relB W Q (truth v st)) : ∃ k, TruV C.K x H k ∧ Q k H := by
  have sz : sizeLine = 16777216 := sizeLine_eq
  have go : ∀ k, truth v st = some (k, st) → Q k H := fun k e => by rw [e] at h; exact h k H W (Wd.le.refl W) o rfl
  cases r with
  | cl ha =>
    rename_i a k
    have r : RelD C W (.ref a) (.cl k) := .cl ha
    cases e : st[k]? with
    | none => simp only [truth, e] at h; exact h.elim
    | some c =>
      cases c with
      | dead => simp only [truth, e] at h; exact h.elim
      | ins _ _ => simp only [truth, e] at h; exact h.elim
      | lst xs =>
        obtain ⟨a', e', ha, _, vs, hv, rv⟩ := cell_of o r e
        cases e'
        exact ⟨!vs.isEmpty, .inl ⟨vs, SqL.of hv, rfl⟩, go _ (by simp only [truth, e, rv.isEmpty])⟩
      | dic xs =>
        obtain ⟨a', e', ha, _, vs, hv, rv⟩ := cell_of o r e
        cases e'
        exact ⟨!vs.isEmpty, .inr (.inr ⟨vs, hv, rfl⟩), go _ (by simp only [truth, e, rv.isEmpty])⟩
  | non => exact ⟨false, rfl, go _ rfl⟩
  | bl b => exact ⟨b, rfl, go _ rfl⟩
  | int i => exact ⟨i != 0, rfl, go _ rfl⟩
  | str y =>
    by_cases hy : y.length ≤ 16777216
    · exact ⟨(y.length : Int) != 0, ⟨by rw [sz]; exact hy, rfl⟩, go _ (by simp only [truth, if_pos hy])⟩
    · simp only [truth, if_neg hy] at h; exact h.elim
  | lst hv rv => exact ⟨_, .inl ⟨_, SqL.of (o.same _ _ hv), rfl⟩, go _ (by simp only [truth, rv.isEmpty])⟩
  | rl hv rv => exact ⟨_, .inl ⟨_, o.same.seq hv, rfl⟩, go _ (by simp only [truth, rv.isEmpty])⟩
  | tup hv rv => exact ⟨_, .inr (.inl ⟨_, (hv.mono o.same).sq, rfl⟩), go _ (by simp only [truth, rv.isEmpty])⟩
  | dic hv rv => exact ⟨_, .inr (.inr ⟨_, o.same _ _ hv, rfl⟩), go _ (by simp only [truth, rv.isEmpty])⟩
  | ty n => exact h.elim
  | glob _ => exact h.elim
  | ins _ _ _ => exact h.elim
end
section
variable {X : Cx} {Wx : WX} {e a b : Expr} {rest : List Expr} {pos : Pos} {ma mb : ME} {ta tb : MT}
theorem st_tru (ha : SE X Wx a ma) (he : ∀ whole, isTrue a X.env whole = (do let v ← whole; standAt a.pos; holding [v] (truthy v)) := by intro _; rfl) : STt X Wx a (tTru ma) :=
  PT.imp (pt_truth ha he) fun σ H Q h => lift1 h fun x H1 v W st ev o e r q => fin_truth o r (fin_of q)
def tNot (t : MT) : MT := fun ev => (t ev).bind fun k st => .ok (!k) st
theorem st_not (ha : STt X Wx a ta) : STt X Wx (.UnaryOp .Not a pos) (tNot ta) :=
  PT.imp (pt_not ha) fun σ H Q h => lift1 h fun x H1 v W st ev o e r q => by
    have r' : x = v := r
    subst r'
    exact q _ H1 W (Wd.le.refl W) o rfl
def tAnd (t u : MT) : MT := fun ev => (t ev).bind fun k => if k = true then u ev else fun st => .ok false st
def tOr (t u : MT) : MT := fun ev => (t ev).bind fun k => if k = true then (fun st => .ok true st) else u ev
theorem sw_and1 (ha : STt X Wx a ta) : SW X Wx (.BoolOp .And [a] pos) ta := pw_and1 ha
theorem sw_or1 (ha : STt X Wx a ta) : SW X Wx (.BoolOp .Or [a] pos) ta := pw_or1 ha
theorem lt_and {C : Cn} {σ : Sg} {H : Hp} {Q : Bool → Hp → Prop} (h : LT C Wx (tAnd ta tb) σ H Q) : L2.tAnd (LT C Wx ta) (LT C Wx tb) σ H Q :=
  lift1 h fun x H1 v W st ev o e r q => by
    have r' : x = v := r
    subst r'
    cases x with
    | true => exact iteT ⟨W, ev, st, o, e, q⟩
    | false => exact iteF (q false H1 W (Wd.le.refl W) o rfl)
theorem lt_or {C : Cn} {σ : Sg} {H : Hp} {Q : Bool → Hp → Prop} (h : LT C Wx (tOr ta tb) σ H Q) : L2.tOr (LT C Wx ta) (LT C Wx tb) σ H Q :=
  lift1 h fun x H1 v W st ev o e r q => by
    have r' : x = v := r
    subst r'
    cases x with
    | false => exact iteF ⟨W, ev, st, o, e, q⟩
    | true => exact iteT (q true H1 W (Wd.le.refl W) o rfl)
theorem sw_and (ha : STt X Wx a ta) (hb : SW X Wx (.BoolOp .And (b :: rest) pos) tb) : SW X Wx (.BoolOp .And (a :: b :: rest) pos) (tAnd ta tb) := PW.imp (pw_and ha hb) fun _ _ _ => lt_and
theorem sw_or (ha : STt X Wx a ta) (hb : SW X Wx (.BoolOp .Or (b :: rest) pos) tb) : SW X Wx (.BoolOp .Or (a :: b :: rest) pos) (tOr ta tb) := PW.imp (pw_or ha hb) fun _ _ _ => lt_or
theorem st_w (h : SW X Wx a ta) : STt X Wx a ta := PW.pt h
/-! and, or, not, if as values -/
def eAnd (m u : ME) : ME := fun ev => (m ev).bind fun x => (M.of (truth x)).bind fun k => if k = true then u ev else fun st => .ok x st
def eOr (m u : ME) : ME := fun ev => (m ev).bind fun x => (M.of (truth x)).bind fun k => if k = true then (fun st => .ok x st) else u ev
def eNot (m : ME) : ME := fun ev => (m ev).bind fun x => (M.of (truth x)).bind fun k st => .ok ((.bl (!k))) st
theorem fin_tru_bind {C : Cn} {W : Wd} {σ : Sg} {H : Hp} {st : Store} {δ γ : Type} {rel2 : Wd → δ → γ → Prop} {Q : δ → Hp → Prop} {v : D} {x : V} {f : Bool → M γ} (o : WOk C W H st) (r : RelD C W x v) (h : Fin C rel2 W σ Wx Q ((M.of (truth v)).bind f st)) :
    ∃ k, TruV C.K x H k ∧ Fin C rel2 W σ Wx Q (f k st) := by
  have h1 := fin_bind (rel := relB) h
  have nw : ∀ k st', truth v st = some (k, st') → st' = st := fun k st' e => by
    cases v <;> simp only [truth] at e <;> first | (cases e; rfl) | cases e | (split at e <;> first | (cases e; rfl) | cases e)
  have h2 := fin_of h1
  cases q : truth v st with
  | none => rw [q] at h2; exact h2.elim
  | some p =>
    obtain ⟨k, st'⟩ := p
    have e := nw k st' q
    subst e
    have h3 : FinO C relB W (fun b H' => H' = H → b = k ∧ Fin C rel2 W σ Wx Q (f k st')) (truth v st') := by
      rw [q]
      rintro b H' W' l o' rfl
      intro _
      refine ⟨rfl, ?_⟩
      have hh : Fin C rel2 W σ Wx Q ((M.of (truth v)).bind f st') := h
      have e2 : (M.of (truth v)).bind f st' = f b st' := by
        simp only [M.bind, M.of, q]
      rw [e2] at hh
      exact hh
    obtain ⟨k', t, z⟩ := fin_truth o r h3
    obtain ⟨e1, z⟩ := z rfl
    subst e1
    exact ⟨k', t, z⟩
theorem se_and (ha : SE X Wx a ma) (hb : SE X Wx (.BoolOp .And (b :: rest) pos) mb) : SE X Wx (.BoolOp .And (a :: b :: rest) pos) (eAnd ma mb) :=
  PE.imp (pe_andT ha hb) fun σ H Q h => lift1 h fun x H1 v W st ev o e r q => by
    obtain ⟨k, t, q⟩ := fin_tru_bind o r q
    refine ⟨k, t, ?_⟩
    cases k with
    | true => exact iteT ⟨W, ev, st, o, e, q⟩
    | false => exact iteF (q x H1 W (Wd.le.refl W) o r)
theorem se_or (ha : SE X Wx a ma) (hb : SE X Wx (.BoolOp .Or (b :: rest) pos) mb) : SE X Wx (.BoolOp .Or (a :: b :: rest) pos) (eOr ma mb) :=
  PE.imp (pe_orT ha hb) fun σ H Q h => lift1 h fun x H1 v W st ev o e r q => by
    obtain ⟨k, t, q⟩ := fin_tru_bind o r q
    refine ⟨k, t, ?_⟩
    cases k with
    | false => exact iteF ⟨W, ev, st, o, e, q⟩
    | true => exact iteT (q x H1 W (Wd.le.refl W) o r)
theorem se_one {op} (h : SE X Wx a ma) : SE X Wx (.BoolOp op [a] pos) ma := pe_one h
theorem se_not (ha : SE X Wx a ma) : SE X Wx (.UnaryOp .Not a pos) (eNot ma) :=
  PE.imp (pe_notT ha) fun σ H Q h => lift1 h fun x H1 v W st ev o e r q => by
    obtain ⟨k, t, q⟩ := fin_tru_bind o r q
    exact ⟨k, t, q _ H1 W (Wd.le.refl W) o (.bl _)⟩
def eIf (t : MT) (m u : ME) : ME := fun ev => (t ev).bind fun k => if k = true then m ev else u ev
theorem se_if {c : Expr} (hc : STt X Wx c ta) (ha : SE X Wx a ma) (hb : SE X Wx b mb) : SE X Wx (.IfExp c a b pos) (eIf ta ma mb) :=
  PE.imp (pe_ifExp hc ha hb) fun σ H Q h => lift1 h fun x H1 v W st ev o e r q => by
    have r' : x = v := r
    subst r'
    cases x with
    | true => exact iteT ⟨W, ev, st, o, e, q⟩
    | false => exact iteF ⟨W, ev, st, o, e, q⟩
end

/-! ### lists of arguments, displays -/
def aNil : MA := fun _ st => .ok [] st
def aCons (m : ME) (r : MA) : MA := fun ev => (m ev).bind fun x => (r ev).bind fun xs st => .ok (x :: xs) st
section
variable {X : Cx} {Wx : WX} {e : Expr} {es : List Expr} {pos : Pos} {m : ME} {r : MA}
theorem sa_nil : SA X Wx [] aNil := PA.imp pa_nil fun σ H Q ⟨W, ev, st, o, _, h⟩ => h [] H W (Wd.le.refl W) o .nil
theorem sa_cons (ha : SE X Wx e m) (hr : SA X Wx es r) (hs : starEach (e :: es) X.env = (false, eval e X.env) :: starEach es X.env := by rfl) : SA X Wx (e :: es) (aCons m r) :=
  PA.imp (pa_cons ha hr hs) fun σ H Q h => lift1 h fun x H1 a W st ev o e r h1 => lift2 (rel := RelDs (cn X)) o e h1 fun y H2 b W' st' l o' r' h2 => h2 _ H2 W' (Wd.le.refl W') o' (.cons (r.mono l) r')
end
/-! ### freezing: what a cell held goes on as data -/
def mapO (g : D → O D) : List D → O (List D)
  | [] => fun st => some ([], st)
  | v :: r => fun st => match g v st with
    | none => none
    | some (d, st1) => match mapO g r st1 with
      | none => none
      | some (ds, st2) => some (d :: ds, st2)
def mapOF {κ : Type} (g : D → O D) : List (κ × D) → O (List (κ × D))
  | [] => fun st => some ([], st)
  | (f, v) :: r => fun st => match g v st with
    | none => none
    | some (d, st1) => match mapOF g r st1 with
      | none => none
      | some (ds, st2) => some ((f, d) :: ds, st2)
/-- all cells from n on that are met become data; f: how deep -/
def frz (n : Nat) : Nat → D → O D
  | 0, _ => fun _ => none
  | f + 1, d => fun st => if D.low n d = true then some (d, st) else match d with
    | .cl k => (match st[k]? with
      | some (.lst xs) => (match mapO (frz n f) xs st with
        | some (ds, st1) => (match st1[k]? with | some (.lst _) => some (.lst ds, st1.set k .dead) | _ => none)
        | none => none)
      | some (.ins c fs) => (match mapOF (frz n f) fs st with
        | some (ds, st1) => (match st1[k]? with | some (.ins _ _) => some (.ins c ds, st1.set k .dead) | _ => none)
        | none => none)
      | some (.dic fs) => (match mapOF (frz n f) fs st with
        | some (ds, st1) => (match st1[k]? with | some (.dic _) => some (.dic ds, st1.set k .dead) | _ => none)
        | none => none)
      | _ => none)
    | .lst xs => (mapO (frz n f) xs st).map fun (ds, st1) => (.lst ds, st1)
    | .tup xs => (mapO (frz n f) xs st).map fun (ds, st1) => (.tup ds, st1)
    | .rl xs => (mapO (frz n f) xs st).map fun (ds, st1) => (.rl ds, st1)
    | .ins c fs => (mapOF (frz n f) fs st).map fun (ds, st1) => (.ins c ds, st1)
    | .dic fs => (mapOF (frz n f) fs st).map fun (ds, st1) => (.dic ds, st1)
    | d => some (d, st)
section
variable {C : Cn} {H : Hp}
def FrzOk (C : Cn) (H : Hp) (g : D → O D) : Prop := ∀ (W : Wd) (st : Store) (v : D) (x : V) (d : D) (st' : Store), WOk C W H st → RelD C W x v → g v st = some (d, st') → ∃ W', W.le W' ∧ WOk C W' H st' ∧ RelD C W' x d
theorem mapO_ok {g : D → O D} (hg : FrzOk C H g) : ∀ {vs : List D} {xs : List V} {W : Wd} {st : Store} {ds : List D} {st' : Store}, WOk C W H st → RelDs C W xs vs → mapO g vs st = some (ds, st') → ∃ W', W.le W' ∧ WOk C W' H st' ∧ RelDs C W' xs ds
  | [], _, W, st, ds, st', o, r, e => by
    cases r
    cases e
    exact ⟨W, Wd.le.refl W, o, .nil⟩
  | v :: vs, _, W, st, ds, st', o, r, e => by
    cases r with
    | cons h r =>
      simp only [mapO] at e
      split at e
      · cases e
      · rename_i d st1 h1
        split at e
        · cases e
        · rename_i ds2 st2 h2
          cases e
          obtain ⟨W1, l1, o1, r1⟩ := hg _ _ _ _ _ _ o h h1
          obtain ⟨W2, l2, o2, r2⟩ := mapO_ok hg o1 (r.mono l1) h2
          exact ⟨W2, l1.trans l2, o2, .cons (r1.mono l2) r2⟩
theorem mapOF_ok {g : D → O D} (hg : FrzOk C H g) : ∀ {vs : List (Str × D)} {xs : List (Str × V)} {W : Wd} {st : Store} {ds : List (Str × D)} {st' : Store}, WOk C W H st → RelFs C W xs vs → mapOF g vs st = some (ds, st') → ∃ W', W.le W' ∧ WOk C W' H st' ∧ RelFs C W' xs ds
  | [], _, W, st, ds, st', o, r, e => by
    cases r
    cases e
    exact ⟨W, Wd.le.refl W, o, .nil⟩
  | v :: vs, _, W, st, ds, st', o, r, e => by
    cases r with
    | cons h r =>
      simp only [mapOF] at e
      split at e
      · cases e
      · rename_i d st1 h1
        split at e
        · cases e
        · rename_i ds2 st2 h2
          cases e
          obtain ⟨W1, l1, o1, r1⟩ := hg _ _ _ _ _ _ o h h1
          obtain ⟨W2, l2, o2, r2⟩ := mapOF_ok hg o1 (r.mono l1) h2
          exact ⟨W2, l1.trans l2, o2, .cons (r1.mono l2) r2⟩
theorem mapOK_ok {g : D → O D} (hg : FrzOk C H g) : ∀ {vs : List (Key × D)} {xs : List (Key × V)} {W : Wd} {st : Store} {ds : List (Key × D)} {st' : Store}, WOk C W H st → RelKs C W xs vs → mapOF g vs st = some (ds, st') → ∃ W', W.le W' ∧ WOk C W' H st' ∧ RelKs C W' xs ds
  | [], _, W, st, ds, st', o, r, e => by
    cases r
    cases e
    exact ⟨W, Wd.le.refl W, o, .nil⟩
  | v :: vs, _, W, st, ds, st', o, r, e => by
    cases r with
    | cons h r =>
      simp only [mapOF] at e
      split at e
      · cases e
      · rename_i d st1 h1
        split at e
        · cases e
        · rename_i ds2 st2 h2
          cases e
          obtain ⟨W1, l1, o1, r1⟩ := hg _ _ _ _ _ _ o h h1
          obtain ⟨W2, l2, o2, r2⟩ := mapOK_ok hg o1 (r.mono l1) h2
          exact ⟨W2, l1.trans l2, o2, .cons (r1.mono l2) r2⟩
theorem frz_ok {n : Nat} : ∀ f, FrzOk C H (frz n f)
  | 0 => fun _ _ _ _ _ _ o r e => by cases e
  | f + 1 => by
    intro W st v x d st' o r e
    have ih := frz_ok (n := n) f
    by_cases hlow : D.low n v = true
    · simp only [frz, if_pos hlow] at e
      cases e
      exact ⟨W, Wd.le.refl W, o, r⟩
    cases r with
    | cl ha =>
      rename_i a k
      have r : RelD C W (.ref a) (.cl k) := .cl ha
      simp only [frz, if_neg hlow] at e
      · split at e
        · rename_i xs h
          obtain ⟨a', e', _, hg, vs, hv, rv⟩ := cell_of o r h
          cases e'
          split at e
          · rename_i ds st1 h1
            obtain ⟨W1, l1, o1, r1⟩ := mapO_ok ih o rv h1
            split at e
            · rename_i ys h2
              cases e
              obtain ⟨a', e', ha1, hg1, vs', hv', _⟩ := cell_of o1 (r.mono l1) h2
              cases e'
              rw [hv] at hv'
              cases hv'
              obtain ⟨l, o'⟩ := o1.freeze ha1 hg1 hv
              exact ⟨_, l1.trans l, o', .lst (by show upd W1.G a _ a = _; exact upd_same) (r1.mono l)⟩
            · cases e
          · cases e
        · rename_i c fs h
          obtain ⟨a', e', _, hg, A, dx, gs, hm, hv, rv⟩ := cell_of o r h
          cases e'
          split at e
          · rename_i ds st1 h1
            obtain ⟨W1, l1, o1, r1⟩ := mapOF_ok ih o rv h1
            split at e
            · rename_i ys h2
              cases e
              obtain ⟨a', e', ha1, hg1, A', dx', gs', _, hv', _⟩ := cell_of o1 (r.mono l1) h2
              cases e'
              rw [hv] at hv'
              cases hv'
              obtain ⟨l, o'⟩ := o1.freeze ha1 hg1 hv
              exact ⟨_, l1.trans l, o', .ins hm (by show upd W1.G a _ a = _; exact upd_same) (r1.mono l)⟩
            · cases e
          · cases e
        · rename_i fs h
          obtain ⟨a', e', _, hg, gs, hv, rv⟩ := cell_of o r h
          cases e'
          split at e
          · rename_i ds st1 h1
            obtain ⟨W1, l1, o1, r1⟩ := mapOK_ok ih o rv h1
            split at e
            · rename_i ys h2
              cases e
              obtain ⟨a', e', ha1, hg1, gs', hv', _⟩ := cell_of o1 (r.mono l1) h2
              cases e'
              rw [hv] at hv'
              cases hv'
              obtain ⟨l, o'⟩ := o1.freeze ha1 hg1 hv
              exact ⟨_, l1.trans l, o', .dic (by show upd W1.G a _ a = _; exact upd_same) (r1.mono l)⟩
            · cases e
          · cases e
        · cases e
    | lst h rv =>
      rename_i a vs ds
      simp only [frz, if_neg hlow] at e
      cases q : mapO (frz n f) ds st with
      | none => rw [q] at e; cases e
      | some u =>
        rw [q] at e; cases e
        obtain ⟨W1, l1, o1, r1⟩ := mapO_ok ih o rv q
        exact ⟨W1, l1, o1, .lst (l1.g _ _ h) r1⟩
    | rl h rv =>
      rename_i a vs ds
      simp only [frz, if_neg hlow] at e
      cases q : mapO (frz n f) ds st with
      | none => rw [q] at e; cases e
      | some u =>
        rw [q] at e; cases e
        obtain ⟨W1, l1, o1, r1⟩ := mapO_ok ih o rv q
        exact ⟨W1, l1, o1, .rl (l1.g.seq h) r1⟩
    | tup h rv =>
      rename_i a vs ds
      simp only [frz, if_neg hlow] at e
      cases q : mapO (frz n f) ds st with
      | none => rw [q] at e; cases e
      | some u =>
        rw [q] at e; cases e
        obtain ⟨W1, l1, o1, r1⟩ := mapO_ok ih o rv q
        exact ⟨W1, l1, o1, .tup (h.mono l1.g) r1⟩
    | ins hm h rv =>
      rename_i a A dx c vs ds
      simp only [frz, if_neg hlow] at e
      cases q : mapOF (frz n f) ds st with
      | none => rw [q] at e; cases e
      | some u =>
        rw [q] at e; cases e
        obtain ⟨W1, l1, o1, r1⟩ := mapOF_ok ih o rv q
        exact ⟨W1, l1, o1, .ins hm (l1.g _ _ h) r1⟩
    | dic h rv =>
      rename_i a vs ds
      simp only [frz, if_neg hlow] at e
      cases q : mapOF (frz n f) ds st with
      | none => rw [q] at e; cases e
      | some u =>
        rw [q] at e; cases e
        obtain ⟨W1, l1, o1, r1⟩ := mapOK_ok ih o rv q
        exact ⟨W1, l1, o1, .dic (l1.g _ _ h) r1⟩
    | non => exact absurd (by simp only [D.low]) hlow
    | bl b => exact absurd (by simp only [D.low]) hlow
    | int i => exact absurd (by simp only [D.low]) hlow
    | str y => exact absurd (by simp only [D.low]) hlow
    | ty y => exact absurd (by simp only [D.low]) hlow
    | glob h => exact absurd (by simp only [D.low]) hlow
end
/-- deep enough -/
@[irreducible] def DEEP : Nat := 1000
/-- a value frozen; data without references stays as it is -/
def frzV (n : Nat) (v : D) : O D := frz n DEEP v
theorem frzV_ok {C : Cn} {H : Hp} {n : Nat} : FrzOk C H (frzV n) := fun W st v x d st' o r e => by
  exact frz_ok _ _ _ _ _ _ _ o r e
theorem DEEP_eq : ∃ f, DEEP = f + 2 := ⟨998, by unfold DEEP; rfl⟩
theorem frz_low {n f : Nat} {d : D} {st : Store} (h : D.low n d = true) : frz n (f + 1) d st = some (d, st) := by simp only [frz, if_pos h]
theorem frzV_low {n : Nat} {d : D} {st : Store} (h : D.low n d = true) : frzV n d st = some (d, st) := by
  obtain ⟨f, e⟩ := DEEP_eq
  unfold frzV
  rw [e]; exact frz_low h
theorem mapO_low {n f : Nat} {st : Store} : ∀ {ds : List D}, D.lows n ds = true → mapO (frz n (f + 1)) ds st = some (ds, st)
  | [], _ => rfl
  | d :: r, h => by
    simp only [D.lows, Bool.and_eq_true] at h
    simp only [mapO, frz_low h.1, mapO_low h.2]
/-- a new list of data -/
theorem frzV_new {n k : Nat} {ds : List D} {st : Store} (hk : n ≤ k) (e : st[k]? = some (.lst ds)) (h : D.lows n ds = true) : frzV n (.cl k) st = some (.lst ds, st.set k .dead) := by
  obtain ⟨f, q⟩ := DEEP_eq
  unfold frzV
  rw [q]
  have hl : ¬ D.low n (.cl k) = true := by simp only [D.low, decide_eq_true_eq]; omega
  unfold frz
  simp only [if_neg hl, e, mapO_low h]
/-- an expression whose value is frozen: nothing is done -/
def eFrz (m : ME) : ME := fun ev => (m ev).bind fun v => M.of (frzV 0 v)
theorem se_frz {X : Cx} {Wx : WX} {e : Expr} {m : ME} (h : SE X Wx e m) : SE X Wx e (eFrz m) :=
  PE.imp h fun σ H Q ⟨W, ev, st, o, r, q⟩ => by
    refine ⟨W, ev, st, o, r, ?_⟩
    have q : Fin (cn X) (RelD (cn X)) W σ Wx Q ((m ev).bind (fun v => M.of (frzV 0 v)) st) := q
    have q := fin_bind (rel := RelD (cn X)) q
    cases z : m ev st with
    | stuck => rw [z] at q; exact q
    | exn _ _ => rw [z] at q; exact q
    | ok v st1 =>
      rw [z] at q
      intro x H' W' l o' rv
      obtain ⟨a2, W2, st2, l2, o2, r2, q⟩ := q x H' W' l o' rv
      have q := fin_of q
      cases z2 : frzV 0 a2 st2 with
      | none => rw [z2] at q; exact q.elim
      | some u =>
        obtain ⟨d, st3⟩ := u
        rw [z2] at q
        obtain ⟨W3, l3, o3, r3⟩ := frzV_ok _ _ _ _ _ _ o2 r2 z2
        exact q x H' W3 l3 o3 r3
def gLst (vs : List D) : O D := fun st => if vs.length ≤ 16777216 then some (.lst vs, st) else none
def gTup (vs : List D) : O D := fun st => if vs.length ≤ 16777216 then some (.tup vs, st) else none
/-- a display that is a cell -/
def gLstM (vs : List D) : O D := fun st => if vs.length ≤ 16777216 then some (.cl st.length, st ++ [.lst vs]) else none
def eA (g : List D → O D) (as : MA) : ME := fun ev => (as ev).bind fun vs => M.of (g vs)
section
variable {X : Cx} {Wx : WX} {es : List Expr} {pos : Pos} {m : MA}
theorem disp_core {C : Cn} {W : Wd} {H : Hp} {st : Store} {Q : VK} {vs : List D} {xs : List V} {k : List D → D} (o : WOk C W H st) (r : RelDs C W xs vs) {mk : List V → HO}
    (hk : ∀ (W : Wd) p ds, W.G p = some (mk xs) → RelDs C W xs ds → RelD C W (.ref p) (k ds))
    (h : FinO C (RelD C) W Q (if vs.length ≤ 16777216 then some (k vs, st) else none)) : xs.length ≤ sizeLine ∧ ∀ p, H p = none → Q (.ref p) (upd H p (mk xs)) := by
  have sz : sizeLine = 16777216 := sizeLine_eq
  have hl := r.length
  by_cases hz : vs.length ≤ 16777216
  · rw [if_pos hz] at h
    refine ⟨by omega, fun p hp => ?_⟩
    obtain ⟨l2, o2⟩ := o.grow (u := mk xs) hp
    exact h _ _ _ l2 o2 (hk _ _ _ upd_same (r.mono l2))
  · rw [if_neg hz] at h; exact h.elim
theorem se_lst (h : SA X Wx es m) : SE X Wx (.List es pos) (eA gLst m) :=
  PE.imp (pe_lst h) fun σ H Q h => lift1 h fun xs H1 vs W st ev o e r q => disp_core (k := .lst) (mk := .lst) o r (fun G p ds h r => .lst h r) (fin_of q)
theorem se_tup {n} (h : SA X Wx es m) : SE X Wx (.Tuple es n pos) (eA gTup m) :=
  PE.imp (pe_tup h) fun σ H Q h => lift1 h fun xs H1 vs W st ev o e r q => disp_core (k := .tup) (mk := .tup) o r (fun G p ds h r => .tup (.inl h) r) (fin_of q)
theorem se_lstM (h : SA X Wx es m) : SE X Wx (.List es pos) (eA gLstM m) :=
  PE.imp (pe_lst h) fun σ H Q h => lift1 h fun xs H1 vs W st ev o e r q => by
    have sz : sizeLine = 16777216 := sizeLine_eq
    have q := fin_of q
    unfold gLstM at q
    have hl := r.length
    by_cases hz : vs.length ≤ 16777216
    · rw [if_pos hz] at q
      refine ⟨by omega, fun p hp => ?_⟩
      have l0 : W.le ⟨W.G, W.al ++ [p]⟩ := ⟨Same.refl _, [p], rfl⟩
      obtain ⟨l2, o2⟩ := o.newCell (u := .lst xs) (c := .lst vs) hp ⟨o.same.free hp, xs, upd_same, r.mono l0⟩
      exact q _ _ _ l2 o2 (.cl (by show (W.al ++ [p])[st.length]? = some p; rw [← o.len, List.getElem?_append_right (Nat.le_refl _)]; simp))
    · rw [if_neg hz] at q; exact q.elim
end
end Sim
end

section
/-! Sim 3: what the operators and the built-ins do, by values. -/
namespace Sim
open PySem PySem.Spec PyProof.Rows L2
theorem szl : sizeLine = 16777216 := sizeLine_eq

/-! ### views -/
/-- a list that may be read -/
def listV (st : Store) : D → Option (List D)
  | (.lst xs) => some xs
  | (.rl xs) => some xs
  | .cl k => match st[k]? with | some (.lst xs) => some xs | _ => none
  | _ => none
/-- a list of the program's own -/
def ownV (st : Store) : D → Option (List D)
  | (.lst xs) => some xs
  | .cl k => match st[k]? with | some (.lst xs) => some xs | _ => none
  | _ => none
def tupV : D → Option (List D)
  | (.tup xs) => some xs
  | _ => none
def seqV (st : Store) (v : D) : Option (List D) := (listV st v).or (tupV v)
section
variable {C : Cn} {W : Wd} {H : Hp} {st : Store} {v : D} {x : V} {ds : List D}
theorem ownV_ok (o : WOk C W H st) (r : RelD C W x v) (e : ownV st v = some ds) : ∃ a vs, x = .ref a ∧ H a = some (.lst vs) ∧ RelDs C W vs ds := by
  cases r with
  | cl ha =>
    simp only [ownV] at e
    split at e
    · rename_i xs h
      cases e
      obtain ⟨a, e', ha, hg, vs, hv, rv⟩ := cell_of o (.cl ha) h
      exact ⟨a, vs, e', hv, rv⟩
    · cases e
  | lst h rv => cases e; exact ⟨_, _, rfl, o.same _ _ h, rv⟩
  | _ => cases e
theorem listV_ok (o : WOk C W H st) (r : RelD C W x v) (e : listV st v = some ds) : ∃ a vs, x = .ref a ∧ SqL C.K H a vs ∧ RelDs C W vs ds := by
  cases r with
  | cl ha =>
    simp only [listV] at e
    split at e
    · rename_i xs h
      cases e
      obtain ⟨a, e', ha, hg, vs, hv, rv⟩ := cell_of o (.cl ha) h
      exact ⟨a, vs, e', SqL.of hv, rv⟩
    · cases e
  | lst h rv => cases e; exact ⟨_, _, rfl, SqL.of (o.same _ _ h), rv⟩
  | rl h rv => cases e; exact ⟨_, _, rfl, o.same.seq h, rv⟩
  | _ => cases e
theorem tupV_ok (o : WOk C W H st) (r : RelD C W x v) (e : tupV v = some ds) : ∃ a vs, x = .ref a ∧ SqT C.K H a vs ∧ RelDs C W vs ds := by
  cases r with
  | tup h rv => cases e; exact ⟨_, _, rfl, (h.mono o.same).sq, rv⟩
  | _ => cases e
theorem seqV_ok (o : WOk C W H st) (r : RelD C W x v) (e : seqV st v = some ds) : ∃ a vs, x = .ref a ∧ (SqL C.K H a vs ∨ SqT C.K H a vs) ∧ RelDs C W vs ds := by
  unfold seqV at e
  cases q : listV st v with
  | some xs =>
    rw [q] at e
    cases e
    obtain ⟨a, vs, h1, h2, h3⟩ := listV_ok o r q
    exact ⟨a, vs, h1, .inl h2, h3⟩
  | none =>
    rw [q] at e
    obtain ⟨a, vs, h1, h2, h3⟩ := tupV_ok (ds := ds) o r (by simpa using e)
    exact ⟨a, vs, h1, .inr h2, h3⟩
variable {Q : VK} {d : D} {st' : Store}
theorem fin_val (o : WOk C W H st) (h : FinO C (RelD C) W Q (some (d, st))) (r : RelD C W x d) : Q x H := h x H W (Wd.le.refl W) o (r)
theorem fin_vl (o : WOk C W H st) (h : FinO C (RelD C) W Q (some (v, st))) (r : RelD C W x v) : Q x H := h x H W (Wd.le.refl W) o r
theorem fin_new (o : WOk C W H st) (h : FinO C (RelD C) W Q (some (d, st))) {p : Addr} {u : HO} (hp : H p = none) (r : ∀ W', W'.G p = some u → W.le W' → RelD C W' (.ref p) d) : Q (.ref p) (upd H p u) := by
  obtain ⟨l, o'⟩ := o.grow (u := u) hp
  exact h _ _ _ l o' (r _ upd_same l)
end
def gI (f : Int → Int → Option D) (a b : D) : O D := fun st => match a, b with
  | (.int i), (.int j) => (f i j).map fun d => (d, st)
  | _, _ => none
theorem rel_int {C : Cn} {W : Wd} {x : V} {i : Int} (r : RelD C W x ((.int i))) : x = .int i := by
  cases r; rfl
theorem rel_bl {C : Cn} {W : Wd} {x : V} {i : Bool} (r : RelD C W x ((.bl i))) : x = .bl i := by
  cases r; rfl
theorem rel_str {C : Cn} {W : Wd} {x : V} {i : Str} (r : RelD C W x ((.str i))) : x = .str i := by
  cases r; rfl
theorem opI_of {X : Cx} {g : Value → Value → Sem Value} {f : Int → Int → Option D} {Co : Int → Int → Prop} {k : Int → Int → V} (ho : OpR X g (rI Co k)) (hf : ∀ i j d, f i j = some d → Co i j ∧ ∀ W, RelD (cn X) W (k i j) d) : OpR X g (R2of (cn X) (gI f)) := by
  intro pins s σ H x y v u Q I rx ry h
  obtain ⟨W, st, a, b, o, ra, rb, h⟩ := h
  unfold gI at h
  split at h
  · rename_i i j
    cases rel_int ra
    cases rel_int rb
    cases e : f i j with
    | none => rw [e] at h; exact h.elim
    | some d =>
      rw [e] at h
      exact ho pins s σ H _ _ v u Q I rx ry ⟨i, j, rfl, rfl, (hf i j d e).1, fin_val o h ((hf i j d e).2 _)⟩
  · exact h.elim
def eitherG (g g' : D → D → O D) : D → D → O D := fun a b st => (g a b st).or (g' a b st)
theorem OpR.either {X : Cx} {f : Value → Value → Sem Value} {g g' : D → D → O D} (h : OpR X f (R2of (cn X) g)) (h' : OpR X f (R2of (cn X) g')) : OpR X f (R2of (cn X) (eitherG g g')) := by
  intro pins s σ H x y v u Q I rx ry hh
  obtain ⟨W, st, a, b, o, ra, rb, q⟩ := hh
  unfold eitherG at q
  cases e : g a b st with
  | some z => rw [e] at q; exact h pins s σ H x y v u Q I rx ry ⟨W, st, a, b, o, ra, rb, by rw [e]; exact q⟩
  | none => rw [e] at q; exact h' pins s σ H x y v u Q I rx ry ⟨W, st, a, b, o, ra, rb, q⟩

/-! ### + - * // % ** -/
def gAdd (a b : D) : O D := fun st => match a, b with
  | (.int i), (.int j) => some ((.int (i + j)), st)
  | (.str x), (.str y) => if x.length + y.length ≤ 16777216 then some ((.str (x ++ y)), st) else none
  | (.tup xs), (.tup ys) => if xs.length + ys.length ≤ 16777216 then some ((.tup (xs ++ ys)), st) else none
  | a, b => match ownV st a, ownV st b with
    | some xs, some ys => if xs.length + ys.length ≤ 16777216 then some ((.lst (xs ++ ys)), st) else none
    | _, _ => none
theorem og_add {X : Cx} : OpR X (binaryOp .Add) (R2of (cn X) gAdd) := by
  intro pins s σ H x y v u Q I rx ry h
  obtain ⟨W, st, a, b, o, ra, rb, h⟩ := h
  have sz := szl
  unfold gAdd at h
  split at h
  · cases rel_int ra
    cases rel_int rb
    exact op_add pins s σ H _ _ v u Q I rx ry ⟨_, _, rfl, rfl, fin_val o h (.int _)⟩
  · cases rel_str ra
    cases rel_str rb
    split at h
    · exact op_add_str pins s σ H _ _ v u Q I rx ry ⟨_, _, rfl, rfl, by omega, fin_val o h (.str _)⟩
    · exact h.elim
  · split at h
    · rename_i xs ys hz
      obtain ⟨p, vs, rfl, hv, rv⟩ := tupV_ok (ds := xs) o ra rfl
      obtain ⟨q, ws, rfl, hw, rw'⟩ := tupV_ok (ds := ys) o rb rfl
      have l1 := rv.length
      have l2 := rw'.length
      refine op_catA pins s σ H _ _ v u Q I rx ry ⟨p, q, vs, ws, rfl, rfl, hv, hw, by omega, fun e => ?_, fun _ e => ?_, fun _ _ p' hp => ?_⟩
      · subst e
        have e2 : xs = [] := List.length_eq_zero_iff.mp (by simpa using l1.symm)
        subst e2
        exact fin_vl o (by simpa using h) rb
      · subst e
        have e2 : ys = [] := List.length_eq_zero_iff.mp (by simpa using l2.symm)
        subst e2
        exact fin_vl o (by simpa using h) ra
      · exact fin_new o h hp fun G hG sm => .tup (.inl hG) ((rv.append rw').mono sm)
    · exact h.elim
  · split at h
    · rename_i xs ys e1 e2
      obtain ⟨p, vs, rfl, hv, rv⟩ := ownV_ok o ra e1
      obtain ⟨q, ws, rfl, hw, rw'⟩ := ownV_ok o rb e2
      have l1 := rv.length
      have l2 := rw'.length
      split at h
      · exact op_cat pins s σ H _ _ v u Q I rx ry ⟨p, q, vs, ws, rfl, rfl, hv, hw, by omega, fun p' hp => fin_new o h hp fun G hG sm => .lst hG ((rv.append rw').mono sm)⟩
      · exact h.elim
    · exact h.elim
def gSub : D → D → O D := gI fun i j => some (.int (i - j))
theorem og_sub {X : Cx} : OpR X (binaryOp .Sub) (R2of (cn X) gSub) := opI_of (Co := fun _ _ => True) (k := fun i j => .int (i - j)) (by
  intro pins s σ H x y v u Q I rx ry ⟨i, j, e1, e2, _, q⟩
  exact op_sub pins s σ H x y v u Q I rx ry ⟨i, j, e1, e2, q⟩) fun i j d e => by cases e; exact ⟨trivial, fun _ => .int _⟩
/-- a product: one factor below 2^64, or both together below a million bits -/
def mulOk (i j : Int) : Bool := decide (-(2 ^ 64) < i ∧ i < 2 ^ 64) || decide (-(2 ^ 64) < j ∧ j < 2 ^ 64) || decide (i.natAbs.log2 + j.natAbs.log2 < 1000000)
def gMulI : D → D → O D := gI fun i j => if mulOk i j = true then some (.int (i * j)) else none
theorem og_mulI {X : Cx} : OpR X (binaryOp .Mult) (R2of (cn X) gMulI) := by
  refine opI_of (Co := fun i j => mulOk i j = true) (k := fun i j => .int (i * j)) ?_ fun i j d e => ?_
  · intro pins s σ H x y v u Q I rx ry ⟨i, j, e1, e2, c, q⟩
    have c : mulOk i j = true := c
    unfold mulOk at c
    rw [Bool.or_eq_true, Bool.or_eq_true, decide_eq_true_eq, decide_eq_true_eq, decide_eq_true_eq] at c
    rcases c with (c | c) | c
    · exact op_mul pins s σ H x y v u Q I rx ry ⟨i, j, e1, e2, .inl c, q⟩
    · exact op_mul pins s σ H x y v u Q I rx ry ⟨i, j, e1, e2, .inr c, q⟩
    · exact op_mulW pins s σ H x y v u Q I rx ry ⟨i, j, e1, e2, c, q⟩
  · split at e
    · cases e; exact ⟨by assumption, fun _ => .int _⟩
    · cases e
/-- a list, a tuple so many times -/
def gRep (a b : D) : O D := fun st => match b with
  | (.int k) => match ownV st a with
    | some xs => if 0 ≤ k ∧ k ≤ 16777216 ∧ xs.length * k.toNat ≤ 16777216 then some ((.lst (List.replicate k.toNat xs).flatten), st) else none
    | none => match a with
      | (.tup xs) => if xs ≠ [] ∧ 2 ≤ k ∧ k ≤ 1000 ∧ xs.length ≤ 1000 then some ((.tup (List.replicate k.toNat xs).flatten), st) else none
      | _ => none
  | _ => none
theorem og_rep {X : Cx} : OpR X (binaryOp .Mult) (R2of (cn X) gRep) := by
  intro pins s σ H x y v u Q I rx ry h
  obtain ⟨W, st, a, b, o, ra, rb, h⟩ := h
  have sz := szl
  unfold gRep at h
  split at h
  · rename_i k
    cases rel_int rb
    split at h
    · rename_i xs e1
      obtain ⟨p, vs, rfl, hv, rv⟩ := ownV_ok o ra e1
      have l1 := rv.length
      split at h
      · rename_i hk
        exact op_rep pins s σ H _ _ v u Q I rx ry ⟨p, k, vs, rfl, rfl, hv, by omega, by omega, by rw [l1, sz]; exact hk.2.2, fun p' hp => fin_new o h hp fun G hG sm => .lst hG ((rv.reps _).mono sm)⟩
      · exact h.elim
    · split at h
      · rename_i xs _
        obtain ⟨p, vs, rfl, hv, rv⟩ := tupV_ok (ds := xs) o ra rfl
        have l1 := rv.length
        split at h
        · rename_i hk
          refine op_repT pins s σ H _ _ v u Q I rx ry ⟨p, k, vs, rfl, rfl, hv, fun e => ?_, by omega, by omega, by omega, fun p' hp => fin_new o h hp fun G hG sm => .tup (.inl hG) ((rv.reps _).mono sm)⟩
          subst e
          exact hk.1 (List.length_eq_zero_iff.mp (by simpa using l1.symm))
        · exact h.elim
      · exact h.elim
  · exact h.elim
def gMul : D → D → O D := eitherG gMulI gRep
theorem og_mul {X : Cx} : OpR X (binaryOp .Mult) (R2of (cn X) gMul) := OpR.either og_mulI og_rep
def divOk (j : Int) : Bool := decide (0 < j ∧ j.natAbs.log2 < 9000) || decide (j ≠ 0 ∧ j.natAbs < 1073741824)
def gFdiv : D → D → O D := gI fun i j => if divOk j = true then some (.int (i.fdiv j)) else none
theorem og_fdiv {X : Cx} : OpR X (binaryOp .FloorDiv) (R2of (cn X) gFdiv) := by
  refine opI_of (Co := fun _ j => divOk j = true) (k := fun i j => .int (i.fdiv j)) ?_ fun i j d e => ?_
  · intro pins s σ H x y v u Q I rx ry ⟨i, j, e1, e2, c, q⟩
    have c : divOk j = true := c
    unfold divOk at c
    rw [Bool.or_eq_true, decide_eq_true_eq, decide_eq_true_eq] at c
    rcases c with c | c
    · exact op_fdivW pins s σ H x y v u Q I rx ry ⟨i, j, e1, e2, c, by show Q (V.int (i / j)) H; rw [← Int.fdiv_eq_ediv_of_nonneg _ (Int.le_of_lt c.1)]; exact q⟩
    · exact op_fdivN pins s σ H x y v u Q I rx ry ⟨i, j, e1, e2, c, q⟩
  · split at e
    · cases e; exact ⟨by assumption, fun _ => .int _⟩
    · cases e
def gMod : D → D → O D := gI fun i j => if j ≠ 0 then some (.int (i.fmod j)) else none
theorem og_mod {X : Cx} : OpR X (binaryOp .Mod) (R2of (cn X) gMod) := by
  refine opI_of (Co := fun _ j => j ≠ 0) (k := fun i j => .int (i.fmod j)) op_modN fun i j d e => ?_
  split at e
  · cases e; exact ⟨by assumption, fun _ => .int _⟩
  · cases e
def gPow : D → D → O D := gI fun i j => if 0 ≤ j ∧ j ≤ 1000000 ∧ i.natAbs < 2 ^ 64 then some (.int (i ^ j.toNat)) else none
theorem og_pow {X : Cx} : OpR X (binaryOp .Pow) (R2of (cn X) gPow) := by
  refine opI_of (Co := CPow) (k := fun i j => .int (i ^ j.toNat)) op_pow fun i j d e => ?_
  split at e
  · cases e; exact ⟨by assumption, fun _ => .int _⟩
  · cases e
def gNeg (a : D) : O D := fun st => match a with
  | (.int i) => some ((.int (-i)), st)
  | _ => none
theorem og_neg {X : Cx} : UnR X (unaryOp .USub) (R1of (cn X) gNeg) := by
  intro pins s σ H x v Q I rx h
  obtain ⟨W, st, a, o, ra, h⟩ := h
  unfold gNeg at h
  split at h
  · cases rel_int ra
    exact un_neg pins s σ H _ v Q I rx ⟨_, rfl, fin_val o h (.int _)⟩
  · exact h.elim

/-! ### order -/
def gLt : D → D → O D := gI fun i j => some (.bl (decide (i < j)))
def gLe : D → D → O D := gI fun i j => some (.bl (decide (i ≤ j)))
def gGt : D → D → O D := gI fun i j => some (.bl (decide (j < i)))
def gGe : D → D → O D := gI fun i j => some (.bl (decide (j ≤ i)))
theorem og_cmpI {X : Cx} {op : CmpOp} {p : Int → Int → Bool} (ho : OpR X (compareOp op) (rI0 fun i j => .bl (p i j))) : OpR X (compareOp op) (R2of (cn X) (gI fun i j => some (.bl (p i j)))) :=
  opI_of (Co := fun _ _ => True) (k := fun i j => .bl (p i j)) (by
    intro pins s σ H x y v u Q I rx ry ⟨i, j, e1, e2, _, q⟩
    exact ho pins s σ H x y v u Q I rx ry ⟨i, j, e1, e2, q⟩) fun i j d e => by cases e; exact ⟨trivial, fun _ => .bl _⟩
theorem og_lt {X : Cx} : OpR X (compareOp .Lt) (R2of (cn X) gLt) := og_cmpI op_lt
theorem og_le {X : Cx} : OpR X (compareOp .LtE) (R2of (cn X) gLe) := og_cmpI op_le
theorem og_gt {X : Cx} : OpR X (compareOp .Gt) (R2of (cn X) gGt) := og_cmpI op_gt
theorem og_ge {X : Cx} : OpR X (compareOp .GtE) (R2of (cn X) gGe) := og_cmpI op_ge

/-! ### data as the library has it; == -/
mutual
def D.py : D → Option PyData
  | .non => some .none
  | .bl b => some (.bool b)
  | .int i => some (.int i)
  | .str x => some (.str x)
  | .lst xs => (D.pys xs).map .list
  | .rl xs => (D.pys xs).map .list
  | .tup xs => (D.pys xs).map .tuple
  | _ => none
def D.pys : List D → Option (List PyData)
  | [] => some []
  | x :: r => match D.py x, D.pys r with
    | some a, some b => some (a :: b)
    | _, _ => none
end
section
variable {C : Cn} {W : Wd} {H : Hp}
mutual
theorem py_dp (sm : Same W.G H) : ∀ {d : D} {v : V} {e : PyData}, RelD C W v d → D.py d = some e → Dp C.K H v e
  | .non, _, _, r, h => by cases r; cases h; exact .non
  | .bl b, _, _, r, h => by cases r; cases h; exact .bl b
  | .int i, _, _, r, h => by cases r; cases h; exact .int i
  | .str x, _, _, r, h => by cases r; cases h; exact .str x
  | .lst xs, _, _, r, h => by
    cases r with
    | lst h1 r1 =>
      simp only [D.py] at h
      cases q : D.pys xs with
      | none => rw [q] at h; cases h
      | some es => rw [q] at h; cases h; exact .lst (SqL.of (sm _ _ h1)) (pys_dp sm r1 q)
  | .rl xs, _, _, r, h => by
    cases r with
    | rl h1 r1 =>
      simp only [D.py] at h
      cases q : D.pys xs with
      | none => rw [q] at h; cases h
      | some es => rw [q] at h; cases h; exact .lst (sm.seq h1) (pys_dp sm r1 q)
  | .tup xs, _, _, r, h => by
    cases r with
    | tup h1 r1 =>
      simp only [D.py] at h
      cases q : D.pys xs with
      | none => rw [q] at h; cases h
      | some es => rw [q] at h; cases h; exact .tup (h1.mono sm).sq (pys_dp sm r1 q)
  | .ty _, _, _, _, h => by cases h
  | .cl _, _, _, _, h => by cases h
  | .glob _, _, _, _, h => by cases h
  | .ins _ _, _, _, _, h => by cases h
  | .dic _, _, _, _, h => by cases h
theorem pys_dp (sm : Same W.G H) : ∀ {ds : List D} {vs : List V} {es : List PyData}, RelDs C W vs ds → D.pys ds = some es → DpAll C.K H vs es
  | [], _, _, r, h => by cases r; cases h; exact .nil
  | d :: ds, _, _, r, h => by
    cases r with
    | cons r1 r2 =>
      simp only [D.pys] at h
      cases q1 : D.py d with
      | none => rw [q1] at h; cases h
      | some e =>
        cases q2 : D.pys ds with
        | none => rw [q1, q2] at h; cases h
        | some es => rw [q1, q2] at h; cases h; exact .cons (py_dp sm r1 q1) (pys_dp sm r2 q2)
end
end
/-- .. through the store -/
def pysW (g : D → Option PyData) : List D → Option (List PyData)
  | [] => some []
  | x :: r => match g x, pysW g r with
    | some a, some b => some (a :: b)
    | _, _ => none
def pyD (st : Store) : Nat → D → Option PyData
  | 0, _ => none
  | f + 1, d => match d with
    | .non => some .none
    | .bl b => some (.bool b)
    | .int i => some (.int i)
    | .str x => some (.str x)
    | .lst xs => (pysW (pyD st f) xs).map .list
    | .rl xs => (pysW (pyD st f) xs).map .list
    | .tup xs => (pysW (pyD st f) xs).map .tuple
    | .cl k => (match st[k]? with | some (.lst xs) => (pysW (pyD st f) xs).map .list | _ => none)
    | _ => none
theorem pysW_dp {C : Cn} {W : Wd} {H : Hp} {g : D → Option PyData} (hg : ∀ d v e, RelD C W v d → g d = some e → Dp C.K H v e) : ∀ {ds : List D} {vs : List V} {es : List PyData}, RelDs C W vs ds → pysW g ds = some es → DpAll C.K H vs es
  | [], _, _, r, h => by cases r; cases h; exact .nil
  | d :: ds, _, _, r, h => by
    cases r with
    | cons r1 r2 =>
      simp only [pysW] at h
      cases q1 : g d with
      | none => rw [q1] at h; cases h
      | some e =>
        cases q2 : pysW g ds with
        | none => rw [q1, q2] at h; cases h
        | some es => rw [q1, q2] at h; cases h; exact .cons (hg _ _ _ r1 q1) (pysW_dp hg r2 q2)
theorem pyD_dp {C : Cn} {W : Wd} {H : Hp} {st : Store} (o : WOk C W H st) : ∀ (f : Nat) (d : D) (v : V) (e : PyData), RelD C W v d → pyD st f d = some e → Dp C.K H v e
  | 0, _, _, _, _, h => by cases h
  | f + 1, d, v, e, r, h => by
    have ih := pyD_dp o f
    cases r with
    | cl ha =>
      rename_i a k
      simp only [pyD] at h
      split at h
      · rename_i xs hc
        obtain ⟨a', e', _, hg, vs, hv, rv⟩ := cell_of o (.cl ha) hc
        cases e'
        cases q : pysW (pyD st f) xs with
        | none => rw [q] at h; cases h
        | some es => rw [q] at h; cases h; exact .lst (SqL.of hv) (pysW_dp ih rv q)
      · cases h
    | lst h1 rv =>
      rename_i a vs ds
      simp only [pyD] at h
      cases q : pysW (pyD st f) ds with
      | none => rw [q] at h; cases h
      | some es => rw [q] at h; cases h; exact .lst (SqL.of (o.same _ _ h1)) (pysW_dp ih rv q)
    | rl h1 rv =>
      rename_i a vs ds
      simp only [pyD] at h
      cases q : pysW (pyD st f) ds with
      | none => rw [q] at h; cases h
      | some es => rw [q] at h; cases h; exact .lst (o.same.seq h1) (pysW_dp ih rv q)
    | tup h1 rv =>
      rename_i a vs ds
      simp only [pyD] at h
      cases q : pysW (pyD st f) ds with
      | none => rw [q] at h; cases h
      | some es => rw [q] at h; cases h; exact .tup (h1.mono o.same).sq (pysW_dp ih rv q)
    | non => cases h; exact .non
    | bl b => cases h; exact .bl b
    | int i => cases h; exact .int i
    | str x => cases h; exact .str x
    | ty _ => cases h
    | glob _ => cases h
    | ins _ _ _ => cases h
    | dic _ _ => cases h
def pyV (st : Store) (v : D) : Option PyData := (D.py v).or (pyD st DEEP v)
theorem vl_dp {C : Cn} {W : Wd} {H : Hp} {st : Store} {v : D} {x : V} {e : PyData} (o : WOk C W H st) (r : RelD C W x v) (h : pyV st v = some e) : Dp C.K H x e := by
  unfold pyV at h
  cases q : D.py v with
  | some e' => rw [q] at h; cases h; exact py_dp o.same r q
  | none => rw [q] at h; exact pyD_dp o _ _ _ _ r h
/-- two texts -/
def gStr2 (f : Bool → Bool) (a b : D) : O D := fun st => match a, b with
  | (.str x), (.str y) => some ((.bl (f (decide (x = y)))), st)
  | _, _ => none
def gPy2 (f : Bool → Bool) (a b : D) : O D := fun st => match pyV st a, pyV st b with
  | some d, some e => if SeqAt.shaped d = true ∧ SeqAt.shaped e = true then some ((.bl (f (PyData.eqv d e))), st) else none
  | _, _ => none
def gEq : D → D → O D := eitherG (gStr2 id) (gPy2 id)
def gNe : D → D → O D := eitherG (gStr2 not) (gPy2 not)
theorem dec_vstr {x y : Str} : decide (V.str x = V.str y) = decide (x = y) := by
  by_cases h : x = y
  · subst h; simp
  · rw [decide_eq_false h, decide_eq_false fun z => h (V.str.inj z)]
theorem og_eqS {X : Cx} : OpR X (compareOp .Eq) (R2of (cn X) (gStr2 id)) := by
  intro pins s σ H x y v u Q I rx ry h
  obtain ⟨W, st, a, b, o, ra, rb, h⟩ := h
  unfold gStr2 at h
  split at h
  · cases rel_str ra
    cases rel_str rb
    exact op_eq pins s σ H _ _ v u Q I rx ry ⟨rfl, by rw [dec_vstr]; exact fin_val o h (.bl _)⟩
  · exact h.elim
theorem og_neS {X : Cx} : OpR X (compareOp .NotEq) (R2of (cn X) (gStr2 not)) := by
  intro pins s σ H x y v u Q I rx ry h
  obtain ⟨W, st, a, b, o, ra, rb, h⟩ := h
  unfold gStr2 at h
  split at h
  · cases rel_str ra
    cases rel_str rb
    exact op_ne pins s σ H _ _ v u Q I rx ry ⟨rfl, by rw [dec_vstr]; exact fin_val o h (.bl _)⟩
  · exact h.elim
theorem og_eqP {X : Cx} (hu : X.A.units + 64 < cLine) : OpR X (compareOp .Eq) (R2of (cn X) (gPy2 id)) := by
  intro pins s σ H x y v u Q I rx ry h
  obtain ⟨W, st, a, b, o, ra, rb, h⟩ := h
  unfold gPy2 at h
  split at h
  · rename_i d e h1 h2
    split at h
    · rename_i hs
      exact op_eqD hu pins s σ H x y v u Q I rx ry ⟨d, e, vl_dp o ra h1, vl_dp o rb h2, hs.1, hs.2, fin_val o h (.bl _)⟩
    · exact h.elim
  · exact h.elim
theorem og_neP {X : Cx} (hu : X.A.units + 64 < cLine) : OpR X (compareOp .NotEq) (R2of (cn X) (gPy2 not)) := by
  intro pins s σ H x y v u Q I rx ry h
  obtain ⟨W, st, a, b, o, ra, rb, h⟩ := h
  unfold gPy2 at h
  split at h
  · rename_i d e h1 h2
    split at h
    · rename_i hs
      exact op_neD hu pins s σ H x y v u Q I rx ry ⟨d, e, vl_dp o ra h1, vl_dp o rb h2, hs.1, hs.2, fin_val o h (.bl _)⟩
    · exact h.elim
  · exact h.elim
theorem og_eq {X : Cx} (hu : X.A.units + 64 < cLine) : OpR X (compareOp .Eq) (R2of (cn X) gEq) := OpR.either og_eqS (og_eqP hu)
theorem og_ne {X : Cx} (hu : X.A.units + 64 < cLine) : OpR X (compareOp .NotEq) (R2of (cn X) gNe) := OpR.either og_neS (og_neP hu)
def gIn (neg : Bool) (a b : D) : O D := fun st => match pyV st a, pyV st b with
  | some d, some (.list es) => if SeqAt.shaped d = true ∧ SeqAt.shaped (.list es) = true then some ((.bl (let k := es.any fun z => PyData.eqv z d; if neg then !k else k)), st) else none
  | _, _ => none
theorem og_in {X : Cx} (hu : X.A.units + 65 < cLine) : OpR X (compareOp .In) (R2of (cn X) (gIn false)) := by
  intro pins s σ H x y v u Q I rx ry h
  obtain ⟨W, st, a, b, o, ra, rb, h⟩ := h
  unfold gIn at h
  split at h
  · rename_i d es h1 h2
    split at h
    · rename_i hs
      exact op_inD hu pins s σ H x y v u Q I rx ry ⟨d, es, vl_dp o ra h1, vl_dp o rb h2, hs.1, hs.2, fin_val o h (.bl _)⟩
    · exact h.elim
  · exact h.elim
theorem og_notIn {X : Cx} (hu : X.A.units + 65 < cLine) : OpR X (compareOp .NotIn) (R2of (cn X) (gIn true)) := by
  intro pins s σ H x y v u Q I rx ry h
  obtain ⟨W, st, a, b, o, ra, rb, h⟩ := h
  unfold gIn at h
  split at h
  · rename_i d es h1 h2
    split at h
    · rename_i hs
      exact op_notInD hu pins s σ H x y v u Q I rx ry ⟨d, es, vl_dp o ra h1, vl_dp o rb h2, hs.1, hs.2, fin_val o h (.bl _)⟩
    · exact h.elim
  · exact h.elim
/-- is, is not: with None at the right, or two truths -/
def isV : D → D → Option Bool
  | a, .non => some (match a with | .non => true | _ => false)
  | (.bl a), (.bl b) => some (a == b)
  | _, _ => none
def gIs (neg : Bool) (a b : D) : O D := fun st => (isV a b).map fun k => ((.bl (if neg then !k else k)), st)
theorem isV_non {C : Cn} {W : Wd} {a b : D} {x y : V} {k : Bool} (ra : RelD C W x a) (rb : RelD C W y b) (e : isV a b = some k) : (y = .non ∧ k = decide (x = .non)) ∨ ∃ i j, x = .bl i ∧ y = .bl j ∧ k = decide (i = j) := by
  unfold isV at e
  split at e
  · cases e
    cases rb
    refine .inl ⟨rfl, ?_⟩
    split
    · cases ra; rfl
    · rename_i hn
      refine (decide_eq_false fun z => ?_).symm
      subst z
      cases ra; exact hn rfl
  · rename_i i j
    cases e
    cases rel_bl ra
    cases rel_bl rb
    exact .inr ⟨i, j, rfl, rfl, by cases i <;> cases j <;> rfl⟩
  · cases e
theorem og_is {X : Cx} : OpR X (compareOp .Is) (R2of (cn X) (gIs false)) := by
  intro pins s σ H x y v u Q I rx ry h
  obtain ⟨W, st, a, b, o, ra, rb, h⟩ := h
  unfold gIs at h
  cases e : isV a b with
  | none => rw [e] at h; exact h.elim
  | some k =>
    rw [e] at h
    rcases isV_non ra rb e with ⟨rfl, hk⟩ | ⟨i, j, rfl, rfl, hk⟩
    · exact op_isN pins s σ H x _ v u Q I rx ry ⟨rfl, by rw [← hk]; exact fin_val o h (.bl _)⟩
    · exact op_isBl pins s σ H _ _ v u Q I rx ry ⟨i, j, rfl, rfl, by rw [← hk]; exact fin_val o h (.bl _)⟩
theorem og_isNot {X : Cx} : OpR X (compareOp .IsNot) (R2of (cn X) (gIs true)) := by
  intro pins s σ H x y v u Q I rx ry h
  obtain ⟨W, st, a, b, o, ra, rb, h⟩ := h
  unfold gIs at h
  cases e : isV a b with
  | none => rw [e] at h; exact h.elim
  | some k =>
    rw [e] at h
    rcases isV_non ra rb e with ⟨rfl, hk⟩ | ⟨i, j, rfl, rfl, hk⟩
    · exact op_notN pins s σ H x _ v u Q I rx ry ⟨rfl, by rw [← hk]; exact fin_val o h (.bl _)⟩
    · exact op_notBl pins s σ H _ _ v u Q I rx ry ⟨i, j, rfl, rfl, by rw [← hk]; exact fin_val o h (.bl _)⟩

/-! ### places and slices -/
def gIx (a b : D) : O D := fun st => match b with
  | (.int i) => match seqV st a with
    | some xs => (atI xs i).map fun d => (d, st)
    | none => match a with
      | (.str z) => if z.length ≤ 16777216 then (atI z.cps.toList i).map fun c => ((.str ⟨#[c]⟩), st) else none
      | _ => none
  | _ => none
theorem RelDs.atI {C : Cn} {W : Wd} {vs : List V} {ds : List D} {i : Int} {d : D} (r : RelDs C W vs ds) (e : L2.atI ds i = some d) : ∃ v, L2.atI vs i = some v ∧ RelD C W v d := by
  unfold L2.atI at e ⊢
  rw [r.length]
  cases q : ixN ds.length i with
  | none => rw [q] at e; cases e
  | some j =>
    rw [q] at e
    exact r.get (by simpa using e)
theorem og_ix {X : Cx} : IxR X (R2of (cn X) gIx) := by
  intro va sl pins s σ H x y v u Q I rx ry h pl
  obtain ⟨W, st, a, b, o, ra, rb, h⟩ := h
  unfold gIx at h
  split at h
  · rename_i i
    cases rel_int rb
    split at h
    · rename_i xs e1
      obtain ⟨p, vs, rfl, hv, rv⟩ := seqV_ok o ra e1
      cases e : atI xs i with
      | none => rw [e] at h; exact h.elim
      | some d =>
        rw [e] at h
        obtain ⟨z, hz, rz⟩ := RelDs.atI rv e
        rcases hv with hv | hv
        · exact ix_list va sl pins s σ H _ _ v u Q I rx ry ⟨p, vs, i, z, rfl, rfl, hv, hz, fin_val o h rz⟩ pl
        · exact ix_tup va sl pins s σ H _ _ v u Q I rx ry ⟨p, vs, i, z, rfl, rfl, hv, hz, fin_val o h rz⟩ pl
    · split at h
      · rename_i z _
        cases rel_str ra
        split at h
        · rename_i hz
          cases e : atI z.cps.toList i with
          | none => rw [e] at h; exact h.elim
          | some c =>
            rw [e] at h
            exact ix_str va sl pins s σ H _ _ v u Q I rx ry ⟨z, i, c, rfl, rfl, by rw [szl]; exact hz, e, fin_val o h (.str _)⟩ pl
        · exact h.elim
      · exact h.elim
  · exact h.elim
/-- a part of a list -/
def cutD (xs : List D) (lo hi : Option Int) : List D := (xs.drop (HT.sIx xs.length 0 lo)).take (HT.sIx xs.length xs.length hi - HT.sIx xs.length 0 lo)
theorem RelDs.slice {C : Cn} {W : Wd} {vs : List V} {ds : List D} (lo hi : Option Int) (r : RelDs C W vs ds) : RelDs C W (cutV vs lo hi) (cutD ds lo hi) := by
  unfold cutV cutD
  rw [r.length]
  exact (r.drop _).take _
def gSl (a : D) (lo hi : Option Int) : O D := fun st => match listV st a with
  | some xs => some ((.lst (cutD xs lo hi)), st)
  | none => match a with
    | (.tup xs) => some ((.tup (cutD xs lo hi)), st)
    | _ => none
abbrev MO := Ev → M (Option Int)
def oNone : MO := fun _ st => .ok none st
def asI : D → M (Option Int)
  | (.int i) => fun st => .ok (some i) st
  | _ => fun _ => .stuck
def oSome (m : ME) : MO := fun ev => (m ev).bind asI
def eSl (ma : ME) (lo hi : MO) : ME := fun ev => (ma ev).bind fun x => (lo ev).bind fun l => (hi ev).bind fun u => M.of (gSl x l u)
abbrev relI : Wd → Option Int → Option Int → Prop := fun _ b a => b = a
abbrev SO (X : Cx) (Wx : WX) (e : Option Expr) (m : MO) : Prop := PO X e (Lift (cn X) relI Wx m)
theorem PO.imp {X : Cx} {e : Option Expr} {t t' : TO} (h : PO X e t) (i : ∀ σ H Q, t' σ H Q → t σ H Q) : PO X e t' := ⟨fun pins s σ H Q I q => h.run pins s σ H Q I (i _ _ _ q)⟩
section
variable {X : Cx} {Wx : WX} {e a : Expr} {lo hi : Option Expr} {ma : ME} {ml mh : MO} {p2 pos : Pos}
theorem so_none : SO X Wx none oNone := PO.imp po_none fun σ H Q ⟨W, ev, st, o, e, h⟩ => h none H W (Wd.le.refl W) o rfl
theorem so_some (h : SE X Wx e ma) : SO X Wx (some e) (oSome ma) := PO.imp (po_some h) fun σ H Q h => lift1 h fun x H1 v W st ev o e r q => by
  cases v with
  | int i => cases rel_int r; exact ⟨i, rfl, q _ H1 W (Wd.le.refl W) o rfl⟩
  | _ => exact q.elim
theorem rsl_ok {C : Cn} {W : Wd} {H : Hp} {st : Store} {Q : VK} {v : D} {x : V} {l u : Option Int} (o : WOk C W H st) (r : RelD C W x v) (h : FinO C (RelD C) W Q (gSl v l u st)) : rSlL C.K x l u H Q ∨ rSlA C.K x l u H Q := by
  unfold gSl at h
  split at h
  · rename_i xs e1
    obtain ⟨p, vs, rfl, hv, rv⟩ := listV_ok o r e1
    exact .inl ⟨p, vs, rfl, hv, fun p' hp => fin_new o h hp fun G hG sm => .lst hG ((rv.slice l u).mono sm)⟩
  · split at h
    · rename_i xs _
      obtain ⟨p, vs, rfl, hv, rv⟩ := tupV_ok (ds := xs) o r rfl
      refine .inr ⟨p, vs, rfl, hv, fun hw => ?_, fun _ p' hp => fin_new o h hp fun G hG sm => .tup (.inl hG) ((rv.slice l u).mono sm)⟩
      have e : cutD xs l u = xs := by
        unfold cutD
        rw [← rv.length, hw.1, hw.2, List.drop_zero, Nat.sub_zero, rv.length, List.take_length]
      rw [e] at h
      exact fin_vl o h r
    · exact h.elim
theorem se_sl (ha : SE X Wx a ma) (hl : SO X Wx lo ml) (hh : SO X Wx hi mh) : SE X Wx (.Subscript a (.Slice lo hi none p2) pos) (eSl ma ml mh) :=
  PE.imp (pe_slice (sl_list.or sl_tupA) ha hl hh) fun σ H Q h => lift1 h fun x H1 v W st ev o e r h1 => by
    have h2 := lift2 (rel := relI) (ma := ml) (f := fun l => (mh ev).bind fun u => M.of (gSl v l u)) (R := fun l H2 => Lift (cn X) relI Wx mh σ H2 fun u H3 => rSlL X.K x l u H3 Q ∨ rSlA X.K x l u H3 Q) o e h1
      fun l H2 l' W' st' le o' rl h2 => by
        have rl' : l = l' := rl
        subst rl'
        refine lift2 (rel := relI) (ma := mh) (f := fun u => M.of (gSl v l u)) o' (e.mono le) h2 fun u H3 u' W2 st2 le2 o2 ru h3 => ?_
        have ru' : u = u' := ru
        subst ru'
        exact rsl_ok o2 ((r.mono le).mono le2) (fin_of h3)
    exact h2
end
end Sim
end

section
/-! Sim 4: defs, their promise (the guards of repr are clear), calls. -/
namespace Sim
open PySem PySem.Spec PyProof.Rows L2

/-- no repr runs around -/
abbrev Clr (A : Around) : Prop := A.guards = some []
theorem Clr.deeper {A : Around} (h : Clr A) (env : Env) : Clr (A.deeper env) := h
theorem Clr.make {A : Around} (h : Clr A) (C : Addr) (us : List Value) (kw : List (Str × Value)) : Clr (A.under (.builtin "type.__call__" ⟨.ref C :: us, kw⟩)) := by
  have e : (Code.builtin "type.__call__" ⟨.ref C :: us, kw⟩).guards = [] := by
    show (if (Code.builtin "type.__call__" ⟨.ref C :: us, kw⟩).isGuard = true then _ else []) = []
    rw [if_neg (by simp [Code.isGuard, guardIds])]
  show pushGuards (Code.builtin "type.__call__" ⟨.ref C :: us, kw⟩).guards A.guards = some []
  rw [e]
  exact h

/-- THE PROMISE of a def, where no repr runs around; what it lets out lies as HandS's CX says -/
structure FnG (P : Program) (w : World) (K : PySem.W.Frag) (mg : Str → Option Value) (base : Heap) (k : Nat) (f : Addr) (fd : FuncData) (ps : List Str) (sp : Sp) : Prop where
  len : ∀ vs H Q E, sp vs H Q E → vs.length = ps.length
  run : ∀ (A : Around) (outer : List Env) (s : Shared) (H : Hp) (args : Args) (us : List Value) (vs : List V) (Q : VK) (E : XK), Clr A → Room k A → Env0 P w K mg base A outer s H →
    BindsTo s fd args (ps.zip us) → Vals vs us → sp vs H Q E → codeAny (model P w) A (.call (.ref f) args) (CR (L2.CX P w) outer P w H s Q E) s
section
variable {P : Program} {w : World} {K : PySem.W.Frag} {mg : Str → Option Value} {base : Heap} {k : Nat} {f : Addr} {fd : FuncData} {ps N : List Str} {sp : Sp}
theorem FnG.mono {j : Nat} (F : FnG P w K mg base j f fd ps sp) (h : j ≤ k) : FnG P w K mg base k f fd ps sp :=
  ⟨F.len, fun A outer s H args us vs Q E c hr => F.run A outer s H args us vs Q E c (hr.mono h)⟩
theorem FnG.imp {sp' : Sp} (F : FnG P w K mg base k f fd ps sp) (h : ∀ vs H Q E, sp' vs H Q E → sp vs H Q E) : FnG P w K mg base k f fd ps sp' :=
  ⟨fun vs H Q E q => F.len vs H Q E (h _ _ _ _ q), fun A outer s H args us vs Q E c hr e b r q => F.run A outer s H args us vs Q E c hr e b r (h _ _ _ _ q)⟩
/-- a def by its body -/
theorem fnG_body {x qual : Str} {params : Arguments} {body : List Stmt} {scope : Scope} {dvs : List V} {kws : List (Str × V)} (F : FunD K x qual params body scope dvs kws f fd) (S : FnScope N ps scope) (len : ∀ vs H Q E, sp vs H Q E → vs.length = ps.length)
    (hbody : ∀ (cdv : Value) (A : Around) (outer : List Env) (s : Shared) (H : Hp) (vs : List V) (Q : VK) (E : XK), Clr A → Room k (A.deeper (envOfC qual scope s.heap.objs.size f cdv)) → sp vs H Q E →
      ∃ t, PSs (cxOf (L2.CX P w) P w K mg base N qual scope f cdv A outer s H E) body t ∧ t { nx := fun _ H' => Q .non H', rt := Q } (L2.start N vs) H) : FnG P w K mg base (k + 1) f fd ps sp := by
  obtain ⟨oc, od, dV, kV, doc, pm, an, cdv, ct, osl, rfl, lk, hcd, _, _⟩ := F.ex
  refine ⟨len, fun A outer s H args us vs Q E hc room e0 bnd rel asked => ?_⟩
  have n1 := len _ _ _ _ asked
  have kin : K.In s.heap := e0.mod.kin.keeps fun b o e => (e0.bs b o e).1
  have own : ∀ q ∈ ps.zip us, scope.names.lookup q.1 = some .local ∨ (scope.names.lookup q.1 = some .cell ∧ ((cellsFrom (s.heap.objs.size + 1) scope.names []).lookup q.1).isSome = true) := by
    rintro ⟨n, v⟩ hq
    rcases S.par n (List.of_mem_zip hq).1 with z | z
    · exact Or.inl z
    · exact Or.inr ⟨z, PySem.W.cellsFrom_some _ _ _ (Or.inl z)⟩
  refine codeAny_call_function room.depth (kin _ _ lk) rfl S.co S.gen rfl (PySem.W.codeRec_of kin hcd) (bnd _ _ _ _ (wpAny_newFunctionEnv_cells S.kind own fun env heq s1 made => ?_))
  subst heq
  obtain ⟨t, der, rd⟩ := hbody cdv A outer s H vs Q E hc (room.deeper _) asked
  have J : Inv (cxOf (L2.CX P w) P w K mg base N qual scope f cdv A outer s H E) [] (L2.start N vs) H s1 := inv_start S room.hd e0 n1 rel made
  refine ⟨(e0.mod.nolimit.keeps fun b o e => (e0.bs b o e).1).keeps made.toInCall.keep, codeAny_func (wpAny_mono (der.run [] s1 (L2.start N vs) H _ J rd) (fun fl s' z => ?_) fun _ _ z => z)⟩
  have close : ∀ {σ' : Sg} {H' : Hp} {v : V} {u : Value}, Inv (cxOf (L2.CX P w) P w K mg base N qual scope f cdv A outer s H E) [] σ' H' s' → RelV v u → Q v H' → CE outer P w H s Q u s' :=
    fun {_ H' v _} I' r' q' => ⟨v, H', I'.os, I'.bare, I'.base, I'.hok, r', q'⟩
  cases fl with
  | next => obtain ⟨σ', H', I', q'⟩ := z; exact close (v := .non) I' rfl q'
  | ret u => obtain ⟨v, σ', H', I', r', q'⟩ := z; exact close I' r' q'
  | brk => obtain ⟨_, _, _, q'⟩ := z; exact q'.elim
  | cont => obtain ⟨_, _, _, q'⟩ := z; exact q'.elim
end

/-! ### the mirror's own promise -/
section
variable (C : Cn)
def FinD (W : Wd) (E : XK) (Q : VK) : Res D → Prop
  | .ok a st' => ∀ x H' W', W.le W' → WOk C W' H' st' → RelD C W' x a → Q x H'
  | .exn e st' => ∀ cls d H' W', W.le W' → WOk C W' H' st' → ExnR C W' e cls d → E cls d H'
  | .stuck => False
/-- a def does what m does -/
def spM (n : Nat) (m : List D → M D) : Sp := fun vs H Q E => ∃ W as st, as.length = n ∧ WOk C W H st ∧ RelDs C W vs as ∧ FinD C W E Q (m as st)
end
open Classical in
/-- the def's end: what is handed back is frozen as far as it is new, the store cut back -/
noncomputable def exitV (st : Store) (v : D) (st' : Store) : Res D := match frzV st.length v st' with
  | some (d, st1) => if D.low st.length d = true ∧ CutOk st.length st st1 then .ok d (st1.take st.length) else .stuck
  | none => .stuck
open Classical in
/-- the same, but so many new cells stay -/
noncomputable def exitK (m : Nat) (st : Store) (v : D) (st' : Store) : Res D := if D.low (st.length + m) v = true ∧ CutOk (st.length + m) st st' then .ok v (st'.take (st.length + m)) else .stuck
noncomputable abbrev exitC := exitK 1
open Classical in
/-- .. of all ways to end -/
noncomputable def exitR (ex : Store → D → Store → Res D) (st : Store) : RS → Res D
  | .rt v st' => ex st v st'
  | .nx _ st' => ex st .non st'
  | .ex e _ st' => if D.lowF st.length e.fs = true ∧ CutOk st.length st st' then .exn e (st'.take st.length) else .stuck
  | _ => .stuck
noncomputable def mFunWith (ex : Store → D → Store → Res D) (n N : Nat) (body : MS) : List D → M D := fun as st =>
  exitR ex st (body (as.map some ++ List.replicate (N - n) none) st)
noncomputable abbrev mFun := mFunWith exitV
mutual
theorem D.low_mono {n m : Nat} (h : n ≤ m) : ∀ {d : D}, D.low n d = true → D.low m d = true
  | .cl k, q => by simp only [D.low, decide_eq_true_eq] at q ⊢; omega
  | .lst xs, q => by simp only [D.low] at q ⊢; exact D.lows_mono h q
  | .rl xs, q => by simp only [D.low] at q ⊢; exact D.lows_mono h q
  | .tup xs, q => by simp only [D.low] at q ⊢; exact D.lows_mono h q
  | .ins _ xs, q => by simp only [D.low] at q ⊢; exact D.lowF_mono h q
  | .dic xs, q => by simp only [D.low] at q ⊢; exact D.lowK_mono h q
  | .non, _ => by simp only [D.low]
  | .bl _, _ => by simp only [D.low]
  | .int _, _ => by simp only [D.low]
  | .str _, _ => by simp only [D.low]
  | .ty _, _ => by simp only [D.low]
  | .glob _, _ => by simp only [D.low]
theorem D.lows_mono {n m : Nat} (h : n ≤ m) : ∀ {d : List D}, D.lows n d = true → D.lows m d = true
  | [], _ => by simp only [D.lows]
  | d :: r, q => by simp only [D.lows, Bool.and_eq_true] at q ⊢; exact ⟨D.low_mono h q.1, D.lows_mono h q.2⟩
theorem D.lowF_mono {n m : Nat} (h : n ≤ m) : ∀ {d : List (Str × D)}, D.lowF n d = true → D.lowF m d = true
  | [], _ => by simp only [D.lowF]
  | (_, d) :: r, q => by simp only [D.lowF, Bool.and_eq_true] at q ⊢; exact ⟨D.low_mono h q.1, D.lowF_mono h q.2⟩
theorem D.lowK_mono {n m : Nat} (h : n ≤ m) : ∀ {d : List (Key × D)}, D.lowK n d = true → D.lowK m d = true
  | [], _ => by simp only [D.lowK]
  | (_, d) :: r, q => by simp only [D.lowK, Bool.and_eq_true] at q ⊢; exact ⟨D.low_mono h q.1, D.lowK_mono h q.2⟩
end
theorem Cell.low_mono {n m : Nat} (h : n ≤ m) : ∀ {c : Cell}, c.low n = true → c.low m = true
  | .dead, _ => rfl
  | .lst _, q => D.lows_mono h q
  | .ins _ _, q => D.lowF_mono h q
  | .dic _, q => D.lowK_mono h q
section
variable {C : Cn} {W0 W : Wd} {H0 H : Hp} {st0 st : Store}
theorem WOk.cutTo' (o0 : WOk C W0 H0 st0) (m : Nat) (l : W0.le W) (o : WOk C W H st) (hc : CutOk (st0.length + m) st0 st) : W0.le (W.cut (st0.length + m)) ∧ WOk C (W.cut (st0.length + m)) H (st.take (st0.length + m)) := by
  refine ⟨⟨l.g, ?_⟩, o.cut _ fun k hk c e => ?_⟩
  · obtain ⟨t, q⟩ := l.a
    refine ⟨t.take m, ?_⟩
    show W.al.take (st0.length + m) = W0.al ++ t.take m
    rw [q, ← o0.len, List.take_length_add_append]
  · rcases hc k hk c e with h | h
    · exact Cell.low_mono (Nat.le_add_right _ _) (o0.low h)
    · exact h
theorem exitV_ok {v d : D} {st2 : Store} (o0 : WOk C W0 H0 st0) (l : W0.le W) (o : WOk C W H st) {x : V} (r : RelD C W x v) (e : exitV st0 v st = .ok d st2) : ∃ W2, W0.le W2 ∧ WOk C W2 H st2 ∧ RelD C W2 x d := by
  unfold exitV at e
  cases q : frzV st0.length v st with
  | none => rw [q] at e; cases e
  | some z =>
    obtain ⟨d1, st2⟩ := z
    simp only [q] at e
    obtain ⟨W2, l2, o2, r2⟩ := frzV_ok _ _ _ _ _ _ o r q
    split at e
    · rename_i hc
      cases e
      obtain ⟨l3, o3⟩ := o0.cutTo (l.trans l2) o2 hc.2
      exact ⟨_, l3, o3, r2.cut hc.1⟩
    · cases e
theorem exitK_ok {v d : D} {st2 : Store} {m : Nat} (o0 : WOk C W0 H0 st0) (l : W0.le W) (o : WOk C W H st) {x : V} (r : RelD C W x v) (e : exitK m st0 v st = .ok d st2) : ∃ W2, W0.le W2 ∧ WOk C W2 H st2 ∧ RelD C W2 x d := by
  unfold exitK at e
  split at e
  · rename_i hc
    cases e
    obtain ⟨l3, o3⟩ := o0.cutTo' m l o hc.2
    exact ⟨_, l3, o3, r.cut hc.1⟩
  · cases e
theorem exitV_low {v : D} (h : D.low st0.length v = true) (hc : CutOk st0.length st0 st) : exitV st0 v st = .ok v (st.take st0.length) := by
  unfold exitV
  rw [frzV_low h]
  simp only [if_pos (And.intro h hc)]
theorem exitV_new {k : Nat} {ds : List D} (hk : st0.length ≤ k) (e : st[k]? = some (.lst ds)) (h : D.lows st0.length ds = true) (hc : CutOk st0.length st0 st) : exitV st0 (.cl k) st = .ok (.lst ds) (st.take st0.length) := by
  unfold exitV
  rw [frzV_new hk e h]
  have hl : D.low st0.length (.lst ds) = true := by simp only [D.low]; exact h
  have hc2 : CutOk st0.length st0 (st.set k .dead) := fun j hj c q => hc j hj c (by rw [List.getElem?_set_ne (by omega)] at q; exact q)
  simp only [if_pos (And.intro hl hc2)]
  rw [List.take_set_of_le hk]
theorem fin_exit {E : XK} {Q : VK} {v : D} (o0 : WOk C W0 H0 st0) (l : W0.le W) (o : WOk C W H st) {x : V} (r : RelD C W x v) (h : FinD C W0 E Q (exitV st0 v st)) : Q x H := by
  cases q : exitV st0 v st with
  | ok d st2 =>
    rw [q] at h
    obtain ⟨W2, l2, o2, r2⟩ := exitV_ok o0 l o r q
    exact h x H W2 l2 o2 r2
  | stuck => rw [q] at h; exact h.elim
  | exn _ _ =>
    unfold exitV at q
    split at q
    · split at q <;> cases q
    · cases q
theorem fin_exitK {E : XK} {Q : VK} {v : D} (m : Nat) (o0 : WOk C W0 H0 st0) (l : W0.le W) (o : WOk C W H st) {x : V} (r : RelD C W x v) (h : FinD C W0 E Q (exitK m st0 v st)) : Q x H := by
  unfold exitK at h
  split at h
  · rename_i hc
    obtain ⟨l3, o3⟩ := o0.cutTo' m l o hc.2
    exact h x H _ l3 o3 (r.cut hc.1)
  · exact h.elim
end
theorem evR_start {C : Cn} {W : Wd} {vs : List V} {as : List D} {N : List Str} (r : RelDs C W vs as) : EvR C W (L2.start N vs) (as.map some ++ List.replicate (N.length - as.length) none) := by
  have hl := r.length
  unfold L2.start
  refine ⟨by simp [hl], fun i v e => ?_⟩
  by_cases hi : i < as.length
  · rw [List.getElem?_append_left (by simpa using hi), List.getElem?_map] at e
    cases q : as[i]? with
    | none => rw [q] at e; cases e
    | some a =>
      rw [q] at e
      cases e
      obtain ⟨x, h1, h2⟩ := r.get q
      exact ⟨x, by rw [List.getElem?_append_left (by rw [List.length_map, hl]; exact hi), List.getElem?_map, h1]; rfl, h2⟩
  · rw [List.getElem?_append_right (by simpa using hi), List.getElem?_replicate] at e
    split at e <;> cases e
section
variable {P : Program} {w : World} {K : PySem.W.Frag} {mg : Str → Option Value} {base : Heap} {k : Nat} {f : Addr} {fd : FuncData} {ps N : List Str}
/-- THE RULE: a def's body does what the combinators do; so the def does -/
theorem fnG_with {ex : Store → D → Store → Res D} (hex : ∀ {C : Cn} {W0 W : Wd} {H0 H : Hp} {st0 st : Store} {E : XK} {Q : VK} {v : D}, WOk C W0 H0 st0 → W0.le W → WOk C W H st → ∀ {x : V}, RelD C W x v → FinD C W0 E Q (ex st0 v st) → Q x H)
    {x qual : Str} {params : Arguments} {body : List Stmt} {scope : Scope} {dvs : List V} {kws : List (Str × V)} {m : MS} {n M : Nat} (F : FunD K x qual params body scope dvs kws f fd) (S : FnScope N ps scope) (hn : ps.length = n) (hM : N.length = M)
    (hbody : ∀ (X : Cx) (E : XK), (∃ (cdv : Value) (A : Around) (outer : List Env) (s : Shared) (H : Hp), X = cxOf (L2.CX P w) P w K mg base N qual scope f cdv A outer s H E) → Clr X.A → Room k X.A → Takes X (fun cls d _ H => E cls d H) →
      SSs X (fun cls d _ H => E cls d H) body m) : FnG P w K mg base (k + 1) f fd ps (spM ⟨K, mg⟩ n (mFunWith ex n M m)) := by
  subst hn hM
  refine fnG_body F S (fun vs H Q E ⟨W, as, st, hl, _, r, _⟩ => r.length.trans hl) fun cdv A outer s H vs Q E hc hr hsp => ?_
  refine ⟨_, hbody _ E ⟨cdv, A, outer, s, H, rfl⟩ hc hr (takes_of rfl rfl rfl rfl), ?_⟩
  obtain ⟨W, as, st, hl, o, r, h⟩ := hsp
  refine ⟨W, _, st, o, by have e := evR_start (N := N) r; rw [hl] at e; exact e, ?_⟩
  have h : FinD ⟨K, mg⟩ W E Q (exitR ex st (m (as.map some ++ List.replicate (N.length - ps.length) none) st)) := h
  cases q : m (as.map some ++ List.replicate (N.length - ps.length) none) st with
  | stuck => rw [q] at h; exact h
  | bk _ _ => rw [q] at h; exact h.elim
  | ct _ _ => rw [q] at h; exact h.elim
  | nx ev st' =>
    rw [q] at h
    intro σ' H' W' l o' _
    exact hex o l o' .non h
  | rt v st' =>
    rw [q] at h
    intro x H' W' l o' r'
    exact hex o l o' r' h
  | ex e ev st' =>
    rw [q] at h
    intro cls d σ' H' W' l o' _ ⟨A, dd, gs, h1, h2, h3, h4, h5⟩
    unfold exitR at h
    simp only [] at h
    split at h
    · rename_i hc
      obtain ⟨l3, o3⟩ := o.cutTo l o' hc.2
      exact h cls d H' _ l3 o3 ⟨A, dd, gs, h1, h2, h3, h4, h5.cut hc.1⟩
    · exact h.elim
theorem fnG {x qual : Str} {params : Arguments} {body : List Stmt} {scope : Scope} {dvs : List V} {kws : List (Str × V)} {m : MS} {n M : Nat} (F : FunD K x qual params body scope dvs kws f fd) (S : FnScope N ps scope) (hn : ps.length = n) (hM : N.length = M)
    (hbody : ∀ (X : Cx) (E : XK), (∃ (cdv : Value) (A : Around) (outer : List Env) (s : Shared) (H : Hp), X = cxOf (L2.CX P w) P w K mg base N qual scope f cdv A outer s H E) → Clr X.A → Room k X.A → Takes X (fun cls d _ H => E cls d H) →
      SSs X (fun cls d _ H => E cls d H) body m) : FnG P w K mg base (k + 1) f fd ps (spM ⟨K, mg⟩ n (mFun n M m)) :=
  fnG_with (fun o0 l o _ r h => fin_exit o0 l o r h) F S hn hM hbody
theorem fnGC {x qual : Str} {params : Arguments} {body : List Stmt} {scope : Scope} {dvs : List V} {kws : List (Str × V)} {m : MS} {n M : Nat} (F : FunD K x qual params body scope dvs kws f fd) (S : FnScope N ps scope) (hn : ps.length = n) (hM : N.length = M)
    (hbody : ∀ (X : Cx) (E : XK), (∃ (cdv : Value) (A : Around) (outer : List Env) (s : Shared) (H : Hp), X = cxOf (L2.CX P w) P w K mg base N qual scope f cdv A outer s H E) → Clr X.A → Room k X.A → Takes X (fun cls d _ H => E cls d H) →
      SSs X (fun cls d _ H => E cls d H) body m) : FnG P w K mg base (k + 1) f fd ps (spM ⟨K, mg⟩ n (mFunWith exitC n M m)) :=
  fnG_with (fun o0 l o _ r h => fin_exitK 1 o0 l o r h) F S hn hM hbody
end

/-! ### calls of defs -/
/-- the values of a call in the parameters' order: us by place, ws by keyword, its the defaults -/
def arrOf (perm : List Nat) {α : Type} (us its ws : List α) : List α := perm.filterMap fun i => (us ++ ws ++ its)[i]?
theorem Paired.app {α β : Type} {R : α → β → Prop} : ∀ {xs ys : List α} {us ws : List β}, Paired R xs us → Paired R ys ws → Paired R (xs ++ ys) (us ++ ws)
  | _, _, _, _, .nil, s => s
  | _, _, _, _, .cons r t, s => .cons r (Paired.app t s)
theorem Paired.at {α β : Type} {R : α → β → Prop} : ∀ {xs : List α} {us : List β}, Paired R xs us → ∀ i : Nat, (xs[i]? = none ∧ us[i]? = none) ∨ ∃ x u, xs[i]? = some x ∧ us[i]? = some u ∧ R x u
  | _, _, .nil, i => .inl ⟨by simp, by simp⟩
  | _, _, .cons r _, 0 => .inr ⟨_, _, rfl, rfl, r⟩
  | _, _, .cons _ t, i + 1 => by simpa using Paired.at t i
theorem arrOf_rel {α β : Type} {R : α → β → Prop} {vs ds zs : List α} {us its ws : List β} (h1 : Paired R vs us) (h2 : Paired R ds its) (h3 : Paired R zs ws) : ∀ perm : List Nat, Paired R (arrOf perm vs ds zs) (arrOf perm us its ws)
  | [] => .nil
  | i :: r => by
    have ih := arrOf_rel h1 h2 h3 r
    unfold arrOf at ih ⊢
    rw [List.filterMap_cons, List.filterMap_cons]
    rcases Paired.at (Paired.app (Paired.app h1 h3) h2) i with ⟨e1, e2⟩ | ⟨x, u, e1, e2, rr⟩
    · rw [e1, e2]; exact ih
    · rw [e1, e2]; exact .cons rr ih
/-- how the values of a call come to the parameters: n by place, keywords ks, then the defaults dvs -/
def Bd (K : PySem.W.Frag) (fd : FuncData) (ps : List Str) (n : Nat) (ks : List Str) (dvs : List V) (perm : List Nat) : Prop :=
  ∃ its : List Value, Vals dvs its ∧ ∀ (s : Shared) (us ws : List Value), K.In s.heap → us.length = n → ws.length = ks.length → BindsTo s fd ⟨us, ks.zip ws⟩ (ps.zip (arrOf perm us its ws))
section
variable {K : PySem.W.Frag} {x qual : Str} {params : Arguments} {body : List Stmt} {scope : Scope} {dvs : List V} {f : Addr} {fd : FuncData} {ps ks : List Str} {n : Nat} {perm : List Nat}
theorem bd_plain (F : FunD K x qual params body scope [] [] f fd)
    (h : ∀ (kV doc pm : Value) (an : Option Addr) (cdv ct : Value) (us ws : List Value), us.length = n → ws.length = ks.length → bindArgs (PySem.W.fnOf x qual params body scope .none kV doc pm an cdv ct) ⟨us, ks.zip ws⟩ = pure (ps.zip (arrOf perm us [] ws))) : Bd K fd ps n ks [] perm := by
  obtain ⟨oc, od, dV, kV, doc, pm, an, cdv, ct, osl, rfl, lk, hcd, hD, hK⟩ := F.ex
  rcases hD with ⟨_, rfl⟩ | ⟨e, _⟩
  · exact ⟨[], .nil, fun s us ws _ h1 h2 => .of_eq (h kV doc pm an cdv ct us ws h1 h2)⟩
  · exact absurd rfl e
theorem bd_dfl (F : FunD K x qual params body scope dvs [] f fd) (hd : dvs ≠ [])
    (h : ∀ (T : Addr) (kV doc pm : Value) (an : Option Addr) (cdv ct : Value) (us its ws : List Value), us.length = n → its.length = dvs.length → ws.length = ks.length →
      ∃ k, bindArgs (PySem.W.fnOf x qual params body scope (.ref T) kV doc pm an cdv ct) ⟨us, ks.zip ws⟩ = seqItems? (.ref T) >>= k ∧ k (some its.toArray) = pure (ps.zip (arrOf perm us its ws))) : Bd K fd ps n ks dvs perm := by
  obtain ⟨oc, od, dV, kV, doc, pm, an, cdv, ct, osl, rfl, lk, hcd, hD, hK⟩ := F.ex
  rcases hD with ⟨e, _⟩ | ⟨_, T, o, its, m, rfl, lT, oT, rT⟩
  · exact absurd e hd
  · refine ⟨its, rT, fun s us ws X h1 h2 => BindsTo.of_looks fun M => ?_⟩
    obtain ⟨k, e1, e2⟩ := h T kV doc pm an cdv ct us its ws h1 rT.length.symm h2
    rw [e1]
    exact looks_items X lT oT (.of_pure e2)
end
theorem RelDs.paired {C : Cn} {W : Wd} : ∀ {vs : List V} {as : List D}, RelDs C W vs as → Paired (RelD C W) vs as
  | _, _, .nil => .nil
  | _, _, .cons h r => .cons h (RelDs.paired r)
theorem RelDs.of {C : Cn} {W : Wd} : ∀ {vs : List V} {as : List D}, Paired (RelD C W) vs as → RelDs C W vs as
  | _, _, .nil => .nil
  | _, _, .cons h r => .cons h (RelDs.of r)
/-- a call: the positional values, the keywords' values, then the def -/
def eCall (n k N : Nat) (dfl : List D) (perm : List Nat) (m : List D → M D) (as ks : MA) : ME := fun ev => (as ev).bind fun vs => (ks ev).bind fun zs =>
  if vs.length = n ∧ zs.length = k ∧ (arrOf perm vs dfl zs).length = N then m (arrOf perm vs dfl zs) else fun _ => .stuck
abbrev SK (X : Cx) (Wx : WX) (kws : List Keyword) (m : MA) : Prop := PK X kws (LA (cn X) Wx m)
theorem PK.imp {X : Cx} {e : List Keyword} {t t' : TA} (h : PK X e t) (i : ∀ σ H Q, t' σ H Q → t σ H Q) : PK X e t' := ⟨fun pos pins s σ H Q I q => h.run pos pins s σ H Q I (i _ _ _ q)⟩
section
variable {X : Cx} {Wx : WX} {k n j N : Nat} {f : Addr} {fd : FuncData} {ps ks : List Str} {dvs : List V} {dfl : List D} {perm : List Nat} {m : List D → M D} {ma mk : MA} {x : Str} {p pos : Pos} {e : Expr} {es : List Expr} {kws : List Keyword} {nm : Option Str} {kpos : Pos} {me : ME}
theorem sk_nil : SK X Wx [] aNil := PK.imp pk_nil fun σ H Q ⟨W, ev, st, o, _, h⟩ => h [] H W (Wd.le.refl W) o .nil
theorem sk_cons (ha : SE X Wx e me) (hr : SK X Wx kws mk) : SK X Wx (⟨nm, e, kpos⟩ :: kws) (aCons me mk) :=
  PK.imp (pk_cons ha hr) fun σ H Q h => lift1 h fun x H1 a W st ev o e r h1 => lift2 (rel := RelDs (cn X)) o e h1 fun y H2 b W' st' l o' r' h2 => h2 _ H2 W' (Wd.le.refl W') o' (.cons (r.mono l) r')
/-- what is raised in a callee is wished for at the caller's slots -/
theorem pass_at (tk : Takes X Wx) {σ : Sg} : ∀ (pins : List (Addr × Obj)) (H : Hp) (s : Shared) (e : Value) (s' : Shared), Inv X pins σ H s → L2.CX X.prog X.w X.stack H s (fun cls d H' => Wx cls d σ H') e s' → X.xe e s' :=
  fun pins H s e s' I c => tk e s' (by
    have q := XE.of_call (W := fun cls d σ' H' => σ' = σ ∧ Wx cls d σ H') (E := fun cls d H' => Wx cls d σ H') I (fun cls d H' h => ⟨rfl, h⟩) c
    obtain ⟨a, B, sI, pins', σ', H', cls, d, e1, I', nb, up, sky, na, os, ag, rfl, wx⟩ := q
    exact ⟨a, B, sI, pins', σ', H', cls, d, e1, I', nb, up, sky, na, os, ag, wx⟩)
theorem run_g {sp : Sp} {pins : List (Addr × Obj)} {σ : Sg} {H : Hp} {s : Shared} {Q : VK} {args : Args} {us : List Value} {vs : List V} (F : FnG X.prog X.w X.K X.mg X.base k f fd ps sp) (hc : Clr X.A) (hr : Room k X.A) (tk : Takes X Wx)
    (I : Inv X pins σ H s) (hb : BindsTo s fd args (ps.zip us)) (r : Vals vs us) (h : sp vs H Q fun cls d H' => Wx cls d σ H') : wpAny (model X.prog X.w) X.A (call (.ref f) args.pos args.kw) (EP X pins σ Q) X.xe s := by
  refine wpAny_call (codeAny_mono (F.run X.A X.stack s H args us vs Q _ hc hr I.env0 hb r h) fun rs s' hq => ?_)
  match rs, hq with
  | .error e, hq => exact pass_at tk pins H s e s' I hq
  | .ok (.ret u), hq => exact I.after hq
  | .ok .next, hq => exact hq.elim
  | .ok .brk, hq => exact hq.elim
  | .ok .cont, hq => exact hq.elim
/-- what the mirror's result gives the caller -/
theorem fin_call {C : Cn} {W : Wd} {σ : Sg} {H : Hp} {st : Store} {Q : VK} {vs : List V} {as : List D} (hl : as.length = N) (o : WOk C W H st) (r : RelDs C W vs as) (h : Fin C (RelD C) W σ Wx Q (m as st)) : spM C N m vs H Q fun cls d H' => Wx cls d σ H' := by
  refine ⟨W, as, st, hl, o, r, ?_⟩
  cases q : m as st with
  | stuck => rw [q] at h; exact h
  | ok a st' => rw [q] at h; exact h
  | exn e st' => rw [q] at h; exact h
/-- behind the arguments -/
theorem call_core {pins : List (Addr × Obj)} {σ : Sg} {H : Hp} {s : Shared} {Q : VK} {us ws : List Value} {vs zs : List V} {as bs : List D} {W : Wd} {st : Store} (F : FnG X.prog X.w X.K X.mg X.base k f fd ps (spM (cn X) N m)) (hc : Clr X.A) (hr : Room k X.A) (tk : Takes X Wx)
    (hb : Bd X.K fd ps n ks dvs perm) (hd : ∀ W, RelDs (cn X) W dvs dfl) (I : Inv X pins σ H s) (r1 : Vals vs us) (r2 : Vals zs ws) (o : WOk (cn X) W H st) (q1 : RelDs (cn X) W vs as) (q2 : RelDs (cn X) W zs bs)
    (h : Fin (cn X) (RelD (cn X)) W σ Wx Q ((if as.length = n ∧ bs.length = ks.length ∧ (arrOf perm as dfl bs).length = N then m (arrOf perm as dfl bs) else fun _ => .stuck) st)) : wpAny (model X.prog X.w) X.A (call (.ref f) us (ks.zip ws)) (EP X pins σ Q) X.xe s := by
  obtain ⟨its, rd, bind⟩ := hb
  by_cases hl : as.length = n ∧ bs.length = ks.length ∧ (arrOf perm as dfl bs).length = N
  · rw [if_pos hl] at h
    have l1 : us.length = n := by rw [← r1.length, q1.length]; exact hl.1
    have l2 : ws.length = ks.length := by rw [← r2.length, q2.length]; exact hl.2.1
    exact run_g (args := ⟨us, ks.zip ws⟩) F hc hr tk I (bind s us ws I.kIn l1 l2) (arrOf_rel r1 rd r2 perm) (fin_call hl.2.2 o (.of (arrOf_rel q1.paired (hd W).paired q2.paired perm)) h)
  · rw [if_neg hl] at h; exact h.elim
theorem lift_all {C : Cn} {σ : Sg} {H : Hp} {ma mk : MA} {f : List D → List D → M D} {Q : VK} {R : List V → List V → Hp → Prop} (h : LE C Wx (fun ev => (ma ev).bind fun vs => (mk ev).bind fun zs => f vs zs) σ H Q)
    (k : ∀ vs zs H2 W st as bs, WOk C W H2 st → RelDs C W vs as → RelDs C W zs bs → Fin C (RelD C) W σ Wx Q (f as bs st) → R vs zs H2) : LA C Wx ma σ H fun vs H1 => LA C Wx mk σ H1 fun zs H2 => R vs zs H2 :=
  lift1 h fun vs H1 as W st ev o e r h1 => lift2 (rel := RelDs C) o e h1 fun zs H2 bs W' st' l o' r' h2 => k vs zs H2 W' st' as bs o' (r.mono l) r' h2
/-- f(e, .., k = v, ..) -/
theorem se_call (F : FnG X.prog X.w X.K X.mg X.base k f fd ps (spM (cn X) N m)) (hc : Clr X.A) (hr : Room k X.A) (tk : Takes X Wx) (hm : X.mg x = some (.ref f)) (hkp : PySem.W.keepIn X.K (.ref f) = true) (hb : Bd X.K fd ps n ks dvs perm) (hd : ∀ W, RelDs (cn X) W dvs dfl)
    (ha : SA X Wx (e :: es) ma) (hk : SK X Wx kws mk) (hkn : ks.length = j := by rfl) (hg : Gl X x := by rfl) (hall : (backToKw pos (keywordEach kws X.env)).all (·.1.isSome) = true := by rfl) (hks : (backToKw pos (keywordEach kws X.env)).filterMap (·.1) = ks := by rfl)
    (hdb : (x == ("__debug__" : Str)) = false := by decide) (he : starEach (e :: es) X.env = (false, eval e X.env) :: starEach es X.env := by rfl)
    (hpl : ((backTo pos (starEach (e :: es) X.env)).any (·.1) || (backToKw pos (keywordEach kws X.env)).any (·.1.isNone)) = false := by rfl) :
    SE X Wx (.Call (.Name x p) (e :: es) kws pos) (eCall n j N dfl perm m ma mk) := by
  subst hkn
  refine ⟨fun pins s σ H Q I h => ?_⟩
  refine wpAny_Call_Name_kw (ld_glob I hg hm (PySem.W.callWith_KW (h₀ := X.base) I.ok.mod.kin hkp hall ?_ hpl he) hdb)
  have h2 := lift_all (R := fun vs zs H2 => ∃ W st as bs, WOk (cn X) W H2 st ∧ RelDs (cn X) W vs as ∧ RelDs (cn X) W zs bs ∧ Fin (cn X) (RelD (cn X)) W σ Wx Q ((if as.length = n ∧ bs.length = ks.length ∧ (arrOf perm as dfl bs).length = N then m (arrOf perm as dfl bs) else fun _ => .stuck) st)) h
    fun vs zs H2 W st as bs o q1 q2 q => ⟨W, st, as, bs, o, q1, q2, q⟩
  refine thn (ha.run pos pins s σ H _ I h2) fun us s1 ⟨vs, H1, I1, r1, q1⟩ => ?_
  refine thn (hk.run pos pins s1 σ H1 _ I1 q1) fun ws s2 ⟨zs, H2, I2, r2, W, st, as, bs, o, a1, a2, q⟩ => ⟨I2.kIn, ?_⟩
  rw [hks]
  exact call_core F hc hr tk hb hd I2 r1 r2 o a1 a2 q
/-- f(k = v, ..) -/
theorem se_callk (F : FnG X.prog X.w X.K X.mg X.base k f fd ps (spM (cn X) N m)) (hc : Clr X.A) (hr : Room k X.A) (tk : Takes X Wx) (hm : X.mg x = some (.ref f)) (hkp : PySem.W.keepIn X.K (.ref f) = true) (hb : Bd X.K fd ps n ks dvs perm) (hd : ∀ W, RelDs (cn X) W dvs dfl)
    (hk : SK X Wx kws mk) (hkn : ks.length = j := by rfl) (hg : Gl X x := by rfl) (hall : (backToKw pos (keywordEach kws X.env)).all (·.1.isSome) = true := by rfl) (hks : (backToKw pos (keywordEach kws X.env)).filterMap (·.1) = ks := by rfl)
    (hdb : (x == ("__debug__" : Str)) = false := by decide) (hpl : ((backTo pos (starEach [] X.env)).any (·.1) || (backToKw pos (keywordEach kws X.env)).any (·.1.isNone)) = false := by rfl) :
    SE X Wx (.Call (.Name x p) [] kws pos) (eCall n j N dfl perm m aNil mk) := by
  subst hkn
  refine ⟨fun pins s σ H Q I h => ?_⟩
  refine wpAny_Call_Name_kw (ld_glob I hg hm (PySem.W.callWith_KW0 (h₀ := X.base) I.ok.mod.kin hkp hall ?_ hpl) hdb)
  have h2 := lift_all (R := fun vs zs H2 => ∃ W st as bs, WOk (cn X) W H2 st ∧ RelDs (cn X) W vs as ∧ RelDs (cn X) W zs bs ∧ Fin (cn X) (RelD (cn X)) W σ Wx Q ((if as.length = n ∧ bs.length = ks.length ∧ (arrOf perm as dfl bs).length = N then m (arrOf perm as dfl bs) else fun _ => .stuck) st)) h
    fun vs zs H2 W st as bs o q1 q2 q => ⟨W, st, as, bs, o, q1, q2, q⟩
  obtain ⟨W0, ev0, st0, o0, e0, h3⟩ := h2
  have h4 := h3 [] H W0 (Wd.le.refl W0) o0 .nil
  refine thn (hk.run pos pins s σ H _ I h4) fun ws s2 ⟨zs, H2, I2, r2, W, st, as, bs, o, a1, a2, q⟩ => ⟨I2.kIn, ?_⟩
  rw [hks]
  exact call_core F hc hr tk hb hd I2 .nil r2 o a1 a2 q
/-- f() -/
theorem se_call0 (F : FnG X.prog X.w X.K X.mg X.base k f fd ps (spM (cn X) N m)) (hc : Clr X.A) (hr : Room k X.A) (tk : Takes X Wx) (hm : X.mg x = some (.ref f)) (hkp : PySem.W.keepIn X.K (.ref f) = true) (hb : Bd X.K fd ps n [] dvs perm) (hd : ∀ W, RelDs (cn X) W dvs dfl) (hg : Gl X x := by rfl)
    (hdb : (x == ("__debug__" : Str)) = false := by decide) : SE X Wx (.Call (.Name x p) [] [] pos) (eCall n 0 N dfl perm m aNil aNil) := by
  refine ⟨fun pins s σ H Q I h => ?_⟩
  refine wpAny_Call_Name_kw (ld_glob I hg hm (PySem.W.callWith_K0 I.kIn hkp ?_) hdb)
  have h2 := lift_all (R := fun vs zs H2 => ∃ W st as bs, WOk (cn X) W H2 st ∧ RelDs (cn X) W vs as ∧ RelDs (cn X) W zs bs ∧ Fin (cn X) (RelD (cn X)) W σ Wx Q ((if as.length = n ∧ bs.length = 0 ∧ (arrOf perm as dfl bs).length = N then m (arrOf perm as dfl bs) else fun _ => .stuck) st)) h
    fun vs zs H2 W st as bs o q1 q2 q => ⟨W, st, as, bs, o, q1, q2, q⟩
  obtain ⟨W0, ev0, st0, o0, e0, h3⟩ := h2
  have h4 := h3 [] H W0 (Wd.le.refl W0) o0 .nil
  obtain ⟨W1, ev1, st1, o1, e1, h5⟩ := h4
  obtain ⟨W, st, as, bs, o, a1, a2, q⟩ := h5 [] H W1 (Wd.le.refl W1) o1 .nil
  exact call_core (us := []) (ws := []) F hc hr tk hb hd I .nil .nil o a1 a2 q
end
end Sim
end

section
/-! Sim 5: what a loop walks, targets, statements, comprehensions. -/
namespace Sim
open PySem PySem.Spec PyProof.Rows L2 RZ

/-! ### what is walked -/
inductive Src where
  | seq (v : D) | ints (lo : Int) (n : Nat) | zip (a b : D) | enum (v : D)
/-- the i-th item: none: no rule; some none: the end -/
def Src.item (i : Nat) (st : Store) : Src → Option (Option D)
  | .seq v => (seqV st v).map fun xs => xs[i]?
  | .ints lo n => some (if i < n then some (.int (lo + i)) else none)
  | .zip a b => match seqV st a, seqV st b with
    | some xs, some ys => if i ≤ xs.length ∧ i ≤ ys.length then some (match xs[i]?, ys[i]? with | some x, some y => some (.tup [x, y]) | _, _ => none) else none
    | _, _ => none
  | .enum v => (listV st v).map fun xs => (xs[i]?).map fun x => .tup [.int (i : Nat), x]
/-- the iterator J does what src tells, in every world from W on -/
def TurnR (C : Cn) (W' : Wd) (H : Hp) (st : Store) (J : It) (i : Nat) : Option (Option D) → Prop
  | none => True
  | some none => J.stop i H
  | some (some d) => J.go i H ∧ ∀ x H', J.yld i H x H' → ∃ W2, W'.le W2 ∧ WOk C W2 H' st ∧ RelD C W2 x d
def SrcR (C : Cn) (W : Wd) (J : It) (src : Src) : Prop := ∀ W' H st, W.le W' → WOk C W' H st → ∀ i, TurnR C W' H st J i (src.item i st)
theorem SrcR.mono {C : Cn} {W W' : Wd} {J : It} {src : Src} (l : W.le W') (h : SrcR C W J src) : SrcR C W' J src := fun W2 H st l2 => h W2 H st (l.trans l2)
section
variable {C : Cn} {W : Wd} {H : Hp} {st : Store}
theorem RelDs.none {vs : List V} {ds : List D} {i : Nat} (r : RelDs C W vs ds) (e : ds[i]? = none) : vs.length ≤ i := by
  rw [r.length]
  exact List.getElem?_eq_none_iff.mp e
theorem src_list {a : Addr} {v : D} (r : RelD C W (.ref a) v) (hl : ∃ xs, listV st v = some xs) (o : WOk C W H st) : SrcR C W (Itl C.K a) (.seq v) := by
  intro W' H' st' l o' i
  show TurnR _ _ _ _ _ _ ((seqV st' v).map fun xs => xs[i]?)
  cases q : listV st' v with
  | some xs =>
    have e : seqV st' v = some xs := by unfold seqV; rw [q]; rfl
    rw [e]
    obtain ⟨a', vs, ea, hv, rv⟩ := listV_ok o' (r.mono l) q
    cases ea
    show TurnR _ _ _ _ _ _ (some xs[i]?)
    cases z : xs[i]? with
    | none => exact ⟨vs, hv, rv.none z⟩
    | some d =>
      obtain ⟨x, hx, rx⟩ := rv.get z
      refine ⟨⟨vs, x, hv, hx⟩, fun y H2 ⟨e1, e2⟩ => ?_⟩
      subst e1
      have e3 := e2 vs hv
      rw [hx] at e3
      cases e3
      exact ⟨W', Wd.le.refl W', o', rx⟩
  | none =>
    have e : seqV st' v = none := by
      unfold seqV
      rw [q]
      cases v <;> first | rfl | (obtain ⟨xs, hx⟩ := hl; simp [listV] at hx)
    rw [e]
    trivial
theorem src_tup {a : Addr} {v : D} (r : RelD C W (.ref a) v) (hl : ∃ xs, tupV v = some xs) (o : WOk C W H st) : SrcR C W (Itt C.K a) (.seq v) := by
  intro W' H' st' l o' i
  obtain ⟨xs, hx⟩ := hl
  cases v <;> simp only [tupV] at hx <;> cases hx
  obtain ⟨a', vs, ea, hv, rv⟩ := tupV_ok (ds := xs) o' (r.mono l) rfl
  cases ea
  show TurnR _ _ _ _ _ _ (some xs[i]?)
  cases z : xs[i]? with
  | none => exact ⟨vs, hv, rv.none z⟩
  | some d =>
    obtain ⟨x, hx, rx⟩ := rv.get z
    refine ⟨⟨vs, x, hv, hx⟩, fun y H2 ⟨e1, e2⟩ => ?_⟩
    subst e1
    have e3 := e2 vs hv
    rw [hx] at e3
    cases e3
    exact ⟨W', Wd.le.refl W', o', rx⟩
theorem src_ints {W : Wd} (lo : Int) (n : Nat) : SrcR C W (Itr lo n) (.ints lo n) := by
  intro W' H' st' l o' i
  show TurnR _ _ _ _ _ _ (some (if i < n then some (D.int (lo + i)) else none))
  by_cases hi : i < n
  · rw [if_pos hi]
    refine ⟨hi, fun x H2 ⟨e1, e2⟩ => ?_⟩
    subst e1 e2
    exact ⟨W', Wd.le.refl W', o', .int _⟩
  · rw [if_neg hi]
    exact Nat.le_of_not_lt hi
theorem src_enum {a : Addr} {v : D} (r : RelD C W (.ref a) v) : SrcR C W (Ite C.K a) (.enum v) := by
  intro W' H' st' l o' i
  show TurnR _ _ _ _ _ _ ((listV st' v).map fun xs => (xs[i]?).map fun x => D.tup [.int (i : Nat), x])
  cases q : listV st' v with
  | none => trivial
  | some xs =>
    obtain ⟨a', vs, ea, hv, rv⟩ := listV_ok o' (r.mono l) q
    cases ea
    show TurnR _ _ _ _ _ _ (some ((xs[i]?).map fun x => D.tup [.int (i : Nat), x]))
    cases z : xs[i]? with
    | none => exact ⟨vs, hv, rv.none z⟩
    | some d =>
      obtain ⟨x, hx, rx⟩ := rv.get z
      refine ⟨⟨vs, x, hv, hx⟩, fun y H2 ⟨T, u, e0, hT, e1, e2⟩ => ?_⟩
      subst e0 e1
      have e3 := e2 vs hv
      rw [hx] at e3
      cases e3
      obtain ⟨l2, o2⟩ := o'.grow (u := .tup [.int (i : Nat), x]) hT
      exact ⟨_, l2, o2, .tup (.inl upd_same) (.cons (.int _) (.cons (rx.mono l2) .nil))⟩
end
abbrev MI := Ev → M Src
abbrev relS (C : Cn) : Wd → It → Src → Prop := fun W J s => SrcR C W J s
abbrev SI (X : Cx) (Wx : WX) (tg e : Expr) (m : MI) : Prop := PI X tg e (Lift (cn X) (relS (cn X)) Wx m)
theorem PI.imp {X : Cx} {tg e : Expr} {t t' : TI} (h : PI X tg e t) (i : ∀ σ H Q, t' σ H Q → t σ H Q) : PI X tg e t' := ⟨fun pins s σ H Q I q => h.run pins s σ H Q I (i _ _ _ q)⟩
end Sim
end

section
/-! Sim 6: walked things in the text, targets, statements, loops, comprehensions. -/
namespace Sim
open PySem PySem.Spec PyProof.Rows L2 RZ

def iSeq (m : ME) : MI := fun ev => (m ev).bind fun v st => match seqV st v with
  | some _ => .ok (.seq v) st
  | none => .stuck
def srcR1 (vs : List D) : M Src := fun st => match vs with
  | [(.int j)] => if -(2 ^ 62) ≤ j ∧ j < 2 ^ 62 then .ok (.ints 0 j.toNat) st else .stuck
  | _ => .stuck
def iRng1 (m : MA) : MI := fun ev => (m ev).bind srcR1
def srcR2 (vs : List D) : M Src := fun st => match vs with
  | [(.int i), (.int j)] => if -(2 ^ 62) ≤ i ∧ i < 2 ^ 62 ∧ -(2 ^ 62) ≤ j ∧ j < 2 ^ 62 then .ok (.ints i (j - i).toNat) st else .stuck
  | _ => .stuck
def iRng2 (m : MA) : MI := fun ev => (m ev).bind srcR2
def srcE (vs : List D) : M Src := fun st => match vs with
  | [v] => (match listV st v with | some _ => .ok (.enum v) st | none => .stuck)
  | _ => .stuck
def iEnum (m : MA) : MI := fun ev => (m ev).bind srcE
def srcZ (vs : List D) : M Src := fun st => match vs with
  | [v, u] => (match seqV st v, seqV st u with
    | some _, some _ => .ok (.zip v u) st
    | _, _ => .stuck)
  | _ => .stuck
def iZip (m : MA) : MI := fun ev => (m ev).bind srcZ
theorem listV_tup {st : Store} {v : D} {xs : List D} (h : listV st v = some xs) : tupV v = none := by
  cases v <;> first | rfl | cases h
section
variable {X : Cx} {Wx : WX} {tg e e2 : Expr} {m : ME} {ma : MA} {p pos tpos : Pos} {elts : List Expr} {kk : Nat}
theorem si_seq (he : SE X Wx e m) : SI X Wx tg e (iSeq m) := by
  refine ⟨fun pins s σ H R I h => ?_⟩
  have h2 : LE (cn X) Wx m σ H fun x H1 => ∃ a, x = .ref a ∧ ((∃ xs, SqL X.K H1 a xs) ∧ R (Itl X.K a) H1 ∨ (∃ xs, SqT X.K H1 a xs) ∧ R (Itt X.K a) H1) := lift1 h fun x H1 v W st ev o ee r q => by
    have q : Fin (cn X) (relS (cn X)) W σ Wx R (match seqV st v with | some _ => .ok (.seq v) st | none => .stuck) := q
    cases z : seqV st v with
    | none => rw [z] at q; exact q.elim
    | some xs =>
      rw [z] at q
      cases z1 : listV st v with
      | some ys =>
        obtain ⟨a, vs, rfl, hv, rv⟩ := listV_ok o r z1
        exact ⟨a, rfl, .inl ⟨⟨vs, hv⟩, q _ H1 W (Wd.le.refl W) o (src_list r ⟨ys, z1⟩ o)⟩⟩
      | none =>
        have z2 : tupV v = some xs := by unfold seqV at z; rw [z1] at z; simpa using z
        obtain ⟨a, vs, rfl, hv, rv⟩ := tupV_ok o r z2
        exact ⟨a, rfl, .inr ⟨⟨vs, hv⟩, q _ H1 W (Wd.le.refl W) o (src_tup r ⟨xs, z2⟩ o)⟩⟩
  refine thn (he.run pins s σ H _ I h2) fun u s1 ⟨x, H1, I1, r1, a, ea, q⟩ => ?_
  subst ea
  cases r1
  have fresh : ∀ b ∈ [s1.heap.objs.size], FpOk X pins H1 b := fun b hb => by
    have eb : b = s1.heap.objs.size := by simpa using hb
    rw [eb]
    exact I1.fpOk (Nat.le_refl _) (I1.hok.fresh (Nat.le_refl _))
  rcases q with ⟨⟨xs, hq⟩, q⟩ | ⟨⟨xs, hq⟩, q⟩
  · obtain ⟨its, rv, pl, _⟩ := I1.list hq
    exact wpAny_pyIter_list pl.isList ⟨_, [s1.heap.objs.size], _, _, H1, rfl, I1.kept (t' := s1.toks) fun b o z => Heap.get?_push_of_some _ z, turn_list a _, ⟨_, Heap.get?_push_size _ rfl, rfl, rfl⟩, fresh, q⟩
  · obtain ⟨its, rv, pl, _⟩ := I1.tuple hq
    exact wpAny_pyIter_tuple (show s1.heap.IsTuple a its.toArray from pl) ⟨_, [s1.heap.objs.size], _, _, H1, rfl, I1.kept (t' := s1.toks) fun b o z => Heap.get?_push_of_some _ z, turn_tuple a _, ⟨_, Heap.get?_push_size _ rfl, rfl, rfl⟩, fresh, q⟩
theorem rel1 {C : Cn} {W : Wd} {xs : List V} {v : D} (r : RelDs C W xs [v]) : ∃ x, xs = [x] ∧ RelD C W x v := by
  cases r with
  | cons h r => cases r; exact ⟨_, rfl, h⟩
theorem rel2 {C : Cn} {W : Wd} {xs : List V} {v u : D} (r : RelDs C W xs [v, u]) : ∃ x y, xs = [x, y] ∧ RelD C W x v ∧ RelD C W y u := by
  cases r with
  | cons h r => obtain ⟨y, rfl, h2⟩ := rel1 r; exact ⟨_, _, rfl, h, h2⟩
theorem si_range1 (hm : X.mg "range" = none) (ha : SA X Wx [e] ma) (hg : Gl X "range" := by rfl) (hs : starEach [e] X.env = [(false, eval e X.env)] := by rfl) : SI X Wx tg (.Call (.Name "range" p) [e] [] pos) (iRng1 ma) :=
  PI.imp (pi_range1 hg hm ha hs) fun σ H R h => lift1 h fun xs H1 vs W st ev o ee r q => by
    replace q : Fin (cn X) (relS (cn X)) W σ Wx R (srcR1 vs st) := q
    unfold srcR1 at q
    split at q
    · rename_i j
      obtain ⟨x, rfl, h1⟩ := rel1 r
      cases rel_int h1
      split at q
      · rename_i hj
        exact ⟨j, rfl, hj.1, hj.2, q _ H1 W (Wd.le.refl W) o (src_ints _ _)⟩
      · exact q.elim
    · exact q.elim
theorem si_range2 (hm : X.mg "range" = none) (ha : SA X Wx [e, e2] ma) (hg : Gl X "range" := by rfl) (hs : starEach [e, e2] X.env = [(false, eval e X.env), (false, eval e2 X.env)] := by rfl) (hs2 : starEach [e2] X.env = [(false, eval e2 X.env)] := by rfl) : SI X Wx tg (.Call (.Name "range" p) [e, e2] [] pos) (iRng2 ma) :=
  PI.imp (pi_range2 hg hm ha hs hs2) fun σ H R h => lift1 h fun xs H1 vs W st ev o ee r q => by
    replace q : Fin (cn X) (relS (cn X)) W σ Wx R (srcR2 vs st) := q
    unfold srcR2 at q
    split at q
    · rename_i i j
      obtain ⟨x, y, rfl, h1, h2⟩ := rel2 r
      cases rel_int h1
      cases rel_int h2
      split at q
      · rename_i hj
        exact ⟨i, j, rfl, hj, q _ H1 W (Wd.le.refl W) o (src_ints _ _)⟩
      · exact q.elim
    · exact q.elim
theorem si_enum (hm : X.mg "enumerate" = none) (ha : SA X Wx [e] ma) (hg : Gl X "enumerate" := by rfl) (hs : starEach [e] X.env = [(false, eval e X.env)] := by rfl) : SI X Wx (.Tuple elts kk tpos) (.Call (.Name "enumerate" p) [e] [] pos) (iEnum ma) :=
  PI.imp (pi_enum hg hm ha hs) fun σ H R h => lift1 h fun xs H1 vs W st ev o ee r q => by
    replace q : Fin (cn X) (relS (cn X)) W σ Wx R (srcE vs st) := q
    unfold srcE at q
    split at q
    · rename_i v
      obtain ⟨x, rfl, h1⟩ := rel1 r
      split at q
      · rename_i ys z
        obtain ⟨a, ws, rfl, hv, rv⟩ := listV_ok o h1 z
        exact ⟨a, ws, rfl, hv, q _ H1 W (Wd.le.refl W) o (src_enum h1)⟩
      · exact q.elim
    · exact q.elim
end

/-! ### targets -/
inductive Tgt where
  | nm (i : Nat) | tp (ts : List Tgt)
mutual
def Tgt.put : Tgt → D → Ev → Option Ev
  | .nm i, d, ev => some (ev.set i (some (d)))
  | .tp ts, d, ev => match d with
    | .tup ds => Tgt.puts ts ds ev
    | _ => none
def Tgt.puts : List Tgt → List D → Ev → Option Ev
  | [], [], ev => some ev
  | t :: ts, d :: ds, ev => match Tgt.put t d ev with
    | some ev1 => Tgt.puts ts ds ev1
    | none => none
  | _, _, _ => none
end
mutual
def gOf (K : PySem.W.Frag) : Tgt → TG
  | .nm i => gName i
  | .tp ts => L2.gTup K ts.length (gsOf K ts)
def gsOf (K : PySem.W.Frag) : List Tgt → TGs
  | [] => gNil
  | t :: ts => gCons (gOf K t) (gsOf K ts)
end
mutual
def Tgt.ixs : Tgt → List Nat
  | .nm i => [i]
  | .tp ts => Tgt.ixss ts
def Tgt.ixss : List Tgt → List Nat
  | [] => []
  | t :: ts => Tgt.ixs t ++ Tgt.ixss ts
end
theorem wipe_set_out {σ : Sg} {i : Nat} {x : Option V} : ∀ {vs : List Nat}, i ∉ vs → wipe (σ.set i x) vs = (wipe σ vs).set i x
  | [], _ => rfl
  | v :: vs, h => by
    have h1 : i ≠ v := fun e => h (e ▸ List.mem_cons_self)
    show (wipe (σ.set i x) vs).set v none = ((wipe σ vs).set v none).set i x
    rw [wipe_set_out fun z => h (List.mem_cons_of_mem _ z), List.set_comm _ _ h1]
theorem wipe_set_in {σ : Sg} {i : Nat} {x : Option V} : ∀ {vs : List Nat}, i ∈ vs → wipe (σ.set i x) vs = wipe σ vs
  | [], h => by cases h
  | v :: vs, h => by
    show (wipe (σ.set i x) vs).set v none = (wipe σ vs).set v none
    by_cases hi : i ∈ vs
    · rw [wipe_set_in hi]
    · have e : i = v := (List.mem_cons.mp h).resolve_right hi
      subst e
      rw [wipe_set_out hi, List.set_set]
mutual
theorem gOf_ok {C : Cn} {W : Wd} {H : Hp} {st : Store} (o : WOk C W H st) : ∀ {t : Tgt} {v : V} {d : D} {σ : Sg} {ev ev' : Ev} {Q : Sg → Hp → Prop}, EvR C W σ ev → RelD C W v d → t.put d ev = some ev' →
    (∀ σ', EvR C W σ' ev' → (∀ vs, (∀ i ∈ t.ixs, i ∈ vs) → wipe σ' vs = wipe σ vs) → Q σ' H) → gOf C.K t v σ H Q
  | .nm i, v, d, σ, ev, ev', Q, e, r, h, k => by
    simp only [Tgt.put] at h
    cases h
    simp only [gOf]
    exact k _ (e.set (r)) fun vs hv => wipe_set_in (hv i (by simp [Tgt.ixs]))
  | .tp ts, v, d, σ, ev, ev', Q, e, r, h, k => by
    cases d with
    | tup ds =>
      cases r with
      | tup ht rd =>
        rename_i a us
        simp only [Tgt.put] at h
        simp only [gOf]
        have hl : ∀ {ts : List Tgt} {ds : List D} {ev ev' : Ev}, Tgt.puts ts ds ev = some ev' → ds.length = ts.length := by
          intro ts
          induction ts with
          | nil => intro ds ev ev' h; cases ds with
            | nil => rfl
            | cons _ _ => simp [Tgt.puts] at h
          | cons t ts ih => intro ds ev ev' h; cases ds with
            | nil => simp [Tgt.puts] at h
            | cons d ds =>
              simp only [Tgt.puts] at h
              split at h
              · exact congrArg (· + 1) (ih h)
              · cases h
        exact ⟨a, us, rfl, (ht.mono o.same).sq, by rw [rd.length, hl h], gsOf_ok o e rd h fun σ' e' w => k σ' e' fun vs hv => w vs (by simpa [Tgt.ixs] using hv)⟩
    | _ => simp [Tgt.put] at h
theorem gsOf_ok {C : Cn} {W : Wd} {H : Hp} {st : Store} (o : WOk C W H st) : ∀ {ts : List Tgt} {us : List V} {ds : List D} {σ : Sg} {ev ev' : Ev} {Q : Sg → Hp → Prop}, EvR C W σ ev → RelDs C W us ds → Tgt.puts ts ds ev = some ev' →
    (∀ σ', EvR C W σ' ev' → (∀ vs, (∀ i ∈ Tgt.ixss ts, i ∈ vs) → wipe σ' vs = wipe σ vs) → Q σ' H) → gsOf C.K ts us σ H Q
  | [], us, ds, σ, ev, ev', Q, e, r, h, k => by
    cases ds with
    | cons _ _ => simp [Tgt.puts] at h
    | nil =>
      cases r
      simp only [Tgt.puts] at h
      cases h
      simp only [gsOf]
      exact ⟨rfl, k σ e fun _ _ => rfl⟩
  | t :: ts, us, ds, σ, ev, ev', Q, e, r, h, k => by
    cases ds with
    | nil => simp [Tgt.puts] at h
    | cons d ds =>
      cases r with
      | cons r1 r2 =>
        simp only [Tgt.puts] at h
        split at h
        · rename_i ev1 h1
          simp only [gsOf]
          exact ⟨_, _, rfl, gOf_ok o e r1 h1 fun σ1 e1 w1 => gsOf_ok o e1 r2 h fun σ2 e2 w2 => k σ2 e2 fun vs hv => (w2 vs fun i hi => hv i (by simp only [Tgt.ixss]; exact List.mem_append_right _ hi)).trans (w1 vs fun i hi => hv i (by simp only [Tgt.ixss]; exact List.mem_append_left _ hi))⟩
        · cases h
end
abbrev SG (X : Cx) (tg : Expr) (t : Tgt) : Prop := PG X tg (gOf X.K t)
abbrev SGs (X : Cx) (tg : List Expr) (t : List Tgt) : Prop := PGs X tg (gsOf X.K t)
section
variable {X : Cx} {pos : Pos}
theorem sg_nm (i : Nat) {x : Str} (hN : X.N.Nodup) (hi : X.N[i]? = some x := by rfl) (hx : Loc X.env.scope x := by first | exact Or.inl rfl | exact Or.inr rfl) (hf : X.fn x = true ∨ X.env.scope.names.lookup x = some .local := by first | exact .inl rfl | exact .inr rfl | assumption) : SG X (.Name x pos) (.nm i) := by
  show PG X _ (gOf X.K (.nm i))
  simp only [gOf]
  exact pg_name hN hi hx hf
theorem sgs_nil : SGs X [] [] := by
  show PGs X [] (gsOf X.K [])
  simp only [gsOf]
  exact pgs_nil
theorem sgs_cons {e : Expr} {es : List Expr} {t : Tgt} {ts : List Tgt} (h1 : SG X e t) (h2 : SGs X es ts) (hs : (assignEach (e :: es) X.env).map (·.2) = assign e X.env :: (assignEach es X.env).map (·.2) := by rfl) : SGs X (e :: es) (t :: ts) := by
  show PGs X (e :: es) (gsOf X.K (t :: ts))
  simp only [gsOf]
  exact pgs_cons h1 h2 hs
theorem sg_tp {es : List Expr} {k : Nat} {ts : List Tgt} (hc : X.calm = true) (h : SGs X es ts) (hn : (assignEach es X.env).length = ts.length := by rfl) (hst : (assignEach es X.env).findIdx? (·.1) = none := by rfl) : SG X (.Tuple es k pos) (.tp ts) := by
  show PG X _ (gOf X.K (.tp ts))
  simp only [gOf]
  exact pg_tup hc h hn hst
end

/-! ### statements -/
@[irreducible] def FU : Nat := 1099511627776
theorem FU_big : 1099511627776 ≤ FU := by unfold FU; exact Nat.le_refl _
def sBind {α : Type} (m : Ev → M α) (f : α → MS) : MS := fun ev st => match m ev st with
  | .ok a st' => f a ev st'
  | .exn e st' => .ex e ev st'
  | .stuck => .stuck
def sPass : MS := fun ev st => .nx ev st
def sBk : MS := fun ev st => .bk ev st
def sCt : MS := fun ev st => .ct ev st
def sSeq (a b : MS) : MS := fun ev st => match a ev st with
  | .nx ev' st' => b ev' st'
  | r => r
def sAsg (i : Nat) (m : ME) : MS := sBind m fun v ev st => .nx (ev.set i (some v)) st
def sPar (i j : Nat) (m : MA) : MS := sBind m fun vs ev st => match vs with
  | [v, u] => .nx ((ev.set i (some v)).set j (some u)) st
  | _ => .stuck
def sPar3 (i j l : Nat) (m : MA) : MS := sBind m fun vs ev st => match vs with
  | [v, u, w] => .nx (((ev.set i (some v)).set j (some u)).set l (some w)) st
  | _ => .stuck
/-- a tuple unpacked -/
def sAsgT (t : Tgt) (m : ME) : MS := sBind m fun v ev st => match t.put v ev with | some ev' => .nx ev' st | none => .stuck
def sIf (t : MT) (a b : MS) : MS := sBind t fun k => if k = true then a else b
def sRet (m : ME) : MS := sBind m fun v _ st => .rt v st
def sRetN : MS := fun _ st => .rt (.non) st
def sExpr (m : ME) : MS := sBind m fun _ ev st => .nx ev st
/-- o[i] = e -/
def gSet (o i v : D) : O Unit := fun st => match o, i with
  | .cl k, .int j => (match st[k]? with
    | some (.lst xs) => (match ixN xs.length j with
      | some n => some ((), st.set k (.lst (xs.set n v)))
      | none => none)
    | _ => none)
  | _, _ => none
def sSet (mo mi mv : ME) : MS := sBind mv fun v => sBind mo fun o => sBind mi fun i => sBind (fun _ => M.of (gSet o i v)) fun _ => sPass
section
variable {X : Cx} {Wx : WX} {e : Expr} {m : ME} {ma : MA} {t : MT} {a b : MS} {st : Stmt} {rest sa sb : List Stmt} {pos pos' : Pos}
theorem ls_bind {α β : Type} {rel : Wd → β → α → Prop} {C : Cn} {ma : Ev → M α} {f : α → MS} {D : Ends} {σ : Sg} {H : Hp} {R : β → Hp → Prop} (h : LS C Wx (sBind ma f) D σ H)
    (k : ∀ b H1 a W st ev, WOk C W H1 st → EvR C W σ ev → rel W b a → FinS C W Wx D (f a ev st) → R b H1) : Lift C rel Wx ma σ H R := by
  obtain ⟨W, ev, st, o, e, h⟩ := lift_bindS (rel := rel) h
  exact ⟨W, ev, st, o, e, h.imp fun b H1 ⟨a, W1, st1, ev1, o1, e1, r1, q⟩ => k b H1 a W1 st1 ev1 o1 e1 r1 q⟩
theorem ls_bind2 {α β : Type} {rel : Wd → β → α → Prop} {C : Cn} {ma : Ev → M α} {f : α → MS} {D : Ends} {σ : Sg} {H : Hp} {R : β → Hp → Prop} {W : Wd} {st : Store} {ev : Ev} (o : WOk C W H st) (e : EvR C W σ ev) (h : FinS C W Wx D (sBind ma f ev st))
    (k : ∀ b H1 a W' st', W.le W' → WOk C W' H1 st' → rel W' b a → FinS C W' Wx D (f a ev st') → R b H1) : Lift C rel Wx ma σ H R := by
  refine ⟨W, ev, st, o, e, ?_⟩
  have h : FinS C W Wx D (match ma ev st with | .ok a st' => f a ev st' | .exn e st' => .ex e ev st' | .stuck => .stuck) := h
  cases q : ma ev st with
  | stuck => rw [q] at h; exact h
  | ok x st' => rw [q] at h; exact fun b H' W' l o' r => k b H' x W' st' l o' r (FinS.mono l h)
  | exn x st' => rw [q] at h; exact fun cls d H' W' l o' r => h cls d σ H' W' l o' (e.mono l) r
theorem ss_pass : SS X Wx (.Pass pos) sPass := PS.imp ps_pass fun D σ H ⟨W, ev, st, o, e, h⟩ => h σ H W (Wd.le.refl W) o e
theorem ss_break : SS X Wx (.Break pos) sBk := PS.imp ps_break fun D σ H ⟨W, ev, st, o, e, h⟩ => h σ H W (Wd.le.refl W) o e
theorem ss_continue : SS X Wx (.Continue pos) sCt := PS.imp ps_continue fun D σ H ⟨W, ev, st, o, e, h⟩ => h σ H W (Wd.le.refl W) o e
theorem ss_doc {x j pos pos'} : SS X Wx (.Expr (.Constant (.str x) j pos) pos') sPass := PS.imp ps_doc fun D σ H ⟨W, ev, st, o, e, h⟩ => h σ H W (Wd.le.refl W) o e
theorem sss_nil : SSs X Wx [] sPass := PSs.imp pss_nil fun D σ H ⟨W, ev, st, o, e, h⟩ => h σ H W (Wd.le.refl W) o e
theorem sss_one (h : SS X Wx st a) : SSs X Wx [st] a := pss_one h
theorem sss_cons (h1 : SS X Wx st a) (h2 : SSs X Wx rest b) : SSs X Wx (st :: rest) (sSeq a b) :=
  PSs.imp (pss_cons h1 h2) fun D σ H ⟨W, ev, st, o, e, h⟩ => by
    refine ⟨W, ev, st, o, e, ?_⟩
    have h : FinS (cn X) W Wx D (match a ev st with | .nx ev' st' => b ev' st' | r => r) := h
    cases q : a ev st with
    | nx ev' st' => rw [q] at h; exact fun σ' H' W' l o' e' => ⟨W', ev', st', o', e', FinS.mono l h⟩
    | stuck => rw [q] at h; exact h
    | rt _ _ => rw [q] at h; exact h
    | bk _ _ => rw [q] at h; exact h
    | ct _ _ => rw [q] at h; exact h
    | ex _ _ _ => rw [q] at h; exact h
theorem ss_set (i : Nat) {x : Str} (hN : X.N.Nodup) (he : SE X Wx e m) (hi : X.N[i]? = some x := by rfl) (hx : Loc X.env.scope x := by first | exact Or.inl rfl | exact Or.inr rfl) (hs : swapsWith e (some (.Name x pos')) pos.line X.env = pure false := by rfl) (hf : X.fn x = true ∨ X.env.scope.names.lookup x = some .local := by first | exact .inl rfl | exact .inr rfl | assumption) :
    SS X Wx (.Assign [.Name x pos'] e pos) (sAsg i m) :=
  PS.imp (ps_set hN hi hx he hs hf) fun D σ H h => ls_bind h fun x H1 v W st ev o ee r q => q _ H1 W (Wd.le.refl W) o (ee.set r)
theorem ss_ret (he : SE X Wx e m) : SS X Wx (.Return (some e) pos) (sRet m) := PS.imp (ps_ret he) fun D σ H h => ls_bind h fun x H1 v W st ev o ee r q => q x H1 W (Wd.le.refl W) o r
theorem ss_retN : SS X Wx (.Return none pos) sRetN := PS.imp ps_retN fun D σ H ⟨W, ev, st, o, e, h⟩ => h .non H W (Wd.le.refl W) o (.non)
theorem ss_expr (he : SE X Wx e m) (hs : swapsWith e none pos.line X.env = pure false := by rfl) : SS X Wx (.Expr e pos) (sExpr m) := PS.imp (ps_expr he hs) fun D σ H h => ls_bind h fun x H1 v W st ev o ee r q => q σ H1 W (Wd.le.refl W) o ee
theorem ss_if {c : Expr} (hc : STt X Wx c t) (ha : SSs X Wx sa a) (hb : SSs X Wx sb b) : SS X Wx (.If c sa sb pos) (sIf t a b) :=
  PS.imp (ps_if hc ha hb) fun D σ H h => ls_bind h fun x H1 v W st ev o ee r q => by
    have r' : x = v := r
    subst r'
    cases x with
    | true => exact iteT ⟨W, ev, st, o, ee, q⟩
    | false => exact iteF ⟨W, ev, st, o, ee, q⟩
theorem ss_par (i j : Nat) {x y : Str} {ea eb : Expr} {px py pt : Pos} {kt k2 pt2} (hc : X.calm = true) (hN : X.N.Nodup) (ha : SA X Wx [ea, eb] ma) (hij : i ≠ j := by decide) (hi : X.N[i]? = some x := by rfl) (hj : X.N[j]? = some y := by rfl)
    (hx : X.env.scope.names.lookup x = some .local := by rfl) (hy : X.env.scope.names.lookup y = some .local := by rfl) (hw : swappedStores [.Tuple [.Name x px, .Name y py] kt pt] (.Tuple [ea, eb] k2 pt2) X.env = pure (some [x, y]) := by rfl)
    (hs : swapsWithSole [.Tuple [.Name x px, .Name y py] kt pt] (.Tuple [ea, eb] k2 pt2) pos.line X.env = pure false := by rfl) : SS X Wx (.Assign [.Tuple [.Name x px, .Name y py] kt pt] (.Tuple [ea, eb] k2 pt2) pos) (sPar i j ma) :=
  PS.imp (ps_par hc hN hi hj hij hx hy ha hw hs) fun D σ H h => ls_bind h fun xs H1 vs W st ev o ee r q => by
    match vs, r, q with
    | [v, u], r, q =>
      obtain ⟨x, y, rfl, h1, h2⟩ := rel2 r
      exact ⟨x, y, rfl, q _ H1 W (Wd.le.refl W) o ((ee.set h1).set h2)⟩
    | [], _, q => exact q.elim
    | [_], _, q => exact q.elim
    | _ :: _ :: _ :: _, _, q => exact q.elim
theorem ss_par3 (i j l : Nat) {x y z : Str} {ea eb ec : Expr} {px py pz pt : Pos} {kt k2 pt2} (hc : X.calm = true) (hN : X.N.Nodup) (ha : SA X Wx [ea, eb, ec] ma) (hij : i ≠ j := by decide) (hil : i ≠ l := by decide) (hjl : j ≠ l := by decide) (hi : X.N[i]? = some x := by rfl) (hj : X.N[j]? = some y := by rfl) (hl : X.N[l]? = some z := by rfl)
    (hx : X.env.scope.names.lookup x = some .local := by rfl) (hy : X.env.scope.names.lookup y = some .local := by rfl) (hz : X.env.scope.names.lookup z = some .local := by rfl) (hw : swappedStores [.Tuple [.Name x px, .Name y py, .Name z pz] kt pt] (.Tuple [ea, eb, ec] k2 pt2) X.env = pure (some [x, y, z]) := by rfl)
    (hs : swapsWithSole [.Tuple [.Name x px, .Name y py, .Name z pz] kt pt] (.Tuple [ea, eb, ec] k2 pt2) pos.line X.env = pure false := by rfl) : SS X Wx (.Assign [.Tuple [.Name x px, .Name y py, .Name z pz] kt pt] (.Tuple [ea, eb, ec] k2 pt2) pos) (sPar3 i j l ma) :=
  PS.imp (ps_par3 hc hN hi hj hl hij hil hjl hx hy hz ha hw hs) fun D σ H h => ls_bind h fun xs H1 vs W st ev o ee r q => by
    match vs, r, q with
    | [v, u, w], r, q =>
      cases r with
      | cons h0 r =>
        obtain ⟨x, y, rfl, h1, h2⟩ := rel2 r
        exact ⟨_, x, y, rfl, q _ H1 W (Wd.le.refl W) o (((ee.set h0).set h1).set h2)⟩
    | [], _, q => exact q.elim
    | [_], _, q => exact q.elim
    | [_, _], _, q => exact q.elim
    | _ :: _ :: _ :: _ :: _, _, q => exact q.elim
theorem ss_asgT {tg : Expr} {t : Tgt} (he : SE X Wx e m) (hg : SG X tg t) (hs : swapsWithSole [tg] e pos.line X.env = pure false := by rfl) (hw : swappedStores [tg] e X.env = pure none := by rfl)
    (h1 : (assignEach [tg] X.env).map (·.2) = [assign tg X.env] := by rfl) : SS X Wx (.Assign [tg] e pos) (sAsgT t m) :=
  PS.imp (ps_asg he hg hs hw h1) fun D σ H h => ls_bind h fun x H1 v W st ev o ee r q => by
    have q : FinS (cn X) W Wx D (match t.put v ev with | some ev' => .nx ev' st | none => .stuck) := q
    cases z : t.put v ev with
    | none => rw [z] at q; exact q.elim
    | some ev' =>
      rw [z] at q
      exact gOf_ok o ee r z fun σ' e' _ => q σ' H1 W (Wd.le.refl W) o e'
theorem gSet_ok {C : Cn} {W : Wd} {H : Hp} {st : Store} {o i v : D} {x y z : V} (ok : WOk C W H st) (ro : RelD C W x o) (ri : RelD C W y i) (rv : RelD C W z v) {Q : Hp → Prop} (h : FinO C (fun _ (_ : Unit) (_ : Unit) => True) W (fun _ H' => Q H') (gSet o i v st)) : rSetL x y z H Q := by
  unfold gSet at h
  split at h
  · rename_i k j
    cases rel_int ri
    split at h
    · rename_i xs hc
      split at h
      · rename_i n hn
        obtain ⟨a, rfl, ha, hg, vs, hv, rr⟩ := cell_of ok ro hc
        refine ⟨a, vs, j, n, rfl, rfl, hv, by rw [rr.length]; exact hn, ?_⟩
        exact h () _ W (Wd.le.refl W) (ok.write ha hg ⟨hg, _, upd_same, rr.set rv n⟩) trivial
      · exact h.elim
    · exact h.elim
  · exact h.elim
theorem ss_setI {eo ei ev : Expr} {mo mi mv : ME} {sp : Pos} (ho : SE X Wx eo mo) (hi : SE X Wx ei mi) (hv : SE X Wx ev mv) (hs : swapsWithSole [.Subscript eo ei sp] ev pos.line X.env = pure false := by rfl) (hw : swappedStores [.Subscript eo ei sp] ev X.env = pure none := by rfl)
    (h1 : (assignEach [.Subscript eo ei sp] X.env).map (·.2) = [assign (.Subscript eo ei sp) X.env] := by rfl)
    (ha : ∀ v, assign (.Subscript eo ei sp) X.env v = (do
      let ov ← holding [v] (eval eo X.env)
      let iv ← holding [v, ov] (eval ei X.env)
      standAt sp
      holding [v, ov, iv] (setItem ov iv v)
      release [v, ov, iv] []) := by intro _; rfl) : SS X Wx (.Assign [.Subscript eo ei sp] ev pos) (sSet mo mi mv) :=
  PS.imp (ps_asg hv (pg_sub ho hi set_list ha) hs hw h1) fun D σ H h => ls_bind h fun z H1 v W st en o ee r q =>
    ls_bind2 (rel := RelD (cn X)) o ee q fun x H2 vo W2 st2 l2 o2 r2 q2 => ls_bind2 (rel := RelD (cn X)) o2 (ee.mono l2) q2 fun y H3 vi W3 st3 l3 o3 r3 q3 => by
      refine gSet_ok o3 (r2.mono l3) r3 ((r.mono l2).mono l3) ?_
      cases zz : gSet vo vi v st3 with
      | none => simp only [sBind, M.of, zz] at q3; exact q3
      | some u =>
        obtain ⟨_, st4⟩ := u
        simp only [sBind, M.of, zz] at q3
        exact fun _ H' W' l' o' _ => q3 σ H' W' l' o' (((ee.mono l2).mono l3).mono l')
end

/-! ### loops -/
def forN (src : Src) (t : Tgt) (body : MS) : Nat → Nat → Ev → Store → RS
  | 0, _, _, _ => .stuck
  | f + 1, i, ev, st => match src.item i st with
    | none => .stuck
    | some none => .nx ev st
    | some (some d) => match t.put d ev with
      | none => .stuck
      | some ev1 => match body ev1 st with
        | .nx ev2 st2 => forN src t body f (i + 1) ev2 st2
        | .ct ev2 st2 => forN src t body f (i + 1) ev2 st2
        | .bk ev2 st2 => .nx ev2 st2
        | r => r
def sFor (mi : MI) (t : Tgt) (body : MS) : MS := sBind mi fun src ev st => forN src t body FU 0 ev st
def whN (c : MT) (body : MS) : Nat → Ev → Store → RS
  | 0, _, _ => .stuck
  | f + 1, ev, st => match c ev st with
    | .ok true st1 => (match body ev st1 with
      | .nx ev2 st2 => whN c body f ev2 st2
      | .ct ev2 st2 => whN c body f ev2 st2
      | .bk ev2 st2 => .nx ev2 st2
      | r => r)
    | .ok false st1 => .nx ev st1
    | .exn e st1 => .ex e ev st1
    | .stuck => .stuck
def sWhile (c : MT) (body : MS) : MS := fun ev st => whN c body FU ev st
section
variable {X : Cx} {Wx : WX} {iter tg c : Expr} {mi : MI} {t : Tgt} {body : MS} {mc : MT} {sb : List Stmt} {pos : Pos}
theorem ss_for (hp : PassesOwn (model X.prog X.w) X.A X.env X.xe) (hc : X.calm = true) (hi : SI X Wx tg iter mi) (hg : SG X tg t) (hb : SSs X Wx sb body) (hs : ∀ x, foldedSetIterable iter X.env x = pure x := by intro _; rfl) : SS X Wx (.For tg iter sb [] pos) (sFor mi t body) :=
  PS.imp (ps_for hp hc hi hg hb hs) fun D σ H h => ls_bind h fun J H1 src W0 st ev o ee r q => by
    refine ⟨fun i m σ H => ∃ W ev st, W0.le W ∧ WOk (cn X) W H st ∧ EvR (cn X) W σ ev ∧ FinS (cn X) W Wx D (forN src t body m i ev st), ⟨FU, W0, ev, st, Wd.le.refl W0, o, ee, q⟩, ?_⟩
    rintro i m σ H ⟨W, ev, st, l, o, ee, q⟩
    have sr := r W H st l o i
    cases m with
    | zero => exact q.elim
    | succ f =>
      have q : FinS (cn X) W Wx D (match src.item i st with
        | none => .stuck
        | some none => .nx ev st
        | some (some d) => match t.put d ev with
          | none => .stuck
          | some ev1 => match body ev1 st with
            | .nx ev2 st2 => forN src t body f (i + 1) ev2 st2
            | .ct ev2 st2 => forN src t body f (i + 1) ev2 st2
            | .bk ev2 st2 => .nx ev2 st2
            | r => r) := q
      cases z : src.item i st with
      | none => rw [z] at q; exact q.elim
      | some u =>
        cases u with
        | none =>
          rw [z] at q sr
          exact .inl ⟨sr, q σ H W (Wd.le.refl W) o ee⟩
        | some d =>
          rw [z] at q sr
          obtain ⟨go, yl⟩ := sr
          refine .inr ⟨go, fun σ H => ∃ W ev st, W0.le W ∧ WOk (cn X) W H st ∧ EvR (cn X) W σ ev ∧ FinS (cn X) W Wx D (forN src t body f (i + 1) ev st), fun σ' H' n => ⟨f, Nat.lt_succ_self f, n⟩, fun x H' y => ?_⟩
          obtain ⟨W2, l2, o2, rx⟩ := yl x H' y
          cases z2 : t.put d ev with
          | none => simp only [z2] at q; exact q.elim
          | some ev1 =>
            simp only [z2] at q
            refine gOf_ok o2 (ee.mono l2) rx z2 fun σ' e' _ => ⟨W2, ev1, st, o2, e', ?_⟩
            cases z3 : body ev1 st with
            | nx ev2 st2 => rw [z3] at q; exact fun σ'' H'' W' l' o' e'' => ⟨W', ev2, st2, (l.trans l2).trans l', o', e'', FinS.mono (l2.trans l') q⟩
            | ct ev2 st2 => rw [z3] at q; exact fun σ'' H'' W' l' o' e'' => ⟨W', ev2, st2, (l.trans l2).trans l', o', e'', FinS.mono (l2.trans l') q⟩
            | bk ev2 st2 => rw [z3] at q; exact fun σ'' H'' W' l' o' e'' => q σ'' H'' W' (l2.trans l') o' e''
            | stuck => rw [z3] at q; exact q.elim
            | rt v st2 => rw [z3] at q; exact fun x' H'' W' l' o' r' => q x' H'' W' (l2.trans l') o' r'
            | ex x' ev2 st2 => rw [z3] at q; exact fun cls d' σ'' H'' W' l' o' e'' r' => q cls d' σ'' H'' W' (l2.trans l') o' e'' r'
theorem ss_while (hp : PassesOwn (model X.prog X.w) X.A X.env X.xe) (hc : STt X Wx c mc) (hb : SSs X Wx sb body) : SS X Wx (.While c sb [] pos) (sWhile mc body) :=
  PS.imp (ps_while hp hc hb) fun D σ H ⟨W0, ev, st, o, ee, q⟩ => by
    refine ⟨fun m σ H => ∃ W ev st, WOk (cn X) W H st ∧ EvR (cn X) W σ ev ∧ FinS (cn X) W Wx D (whN mc body m ev st), ⟨FU, W0, ev, st, o, ee, q⟩, ?_⟩
    rintro m σ H ⟨W, ev, st, o, ee, q⟩
    cases m with
    | zero => exact q.elim
    | succ f =>
      refine ⟨W, ev, st, o, ee, ?_⟩
      have q : FinS (cn X) W Wx D (match mc ev st with
        | .ok true st1 => (match body ev st1 with
          | .nx ev2 st2 => whN mc body f ev2 st2
          | .ct ev2 st2 => whN mc body f ev2 st2
          | .bk ev2 st2 => .nx ev2 st2
          | r => r)
        | .ok false st1 => .nx ev st1
        | .exn e st1 => .ex e ev st1
        | .stuck => .stuck) := q
      cases z : mc ev st with
      | stuck => rw [z] at q; exact q
      | exn x st1 => rw [z] at q; exact fun cls d H' W' l o' r => q cls d σ H' W' l o' (ee.mono l) r
      | ok k st1 =>
        rw [z] at q
        intro b H1 W1 l1 o1 rb
        have rb' : b = k := rb
        subst rb'
        cases b with
        | false => exact iteF (q σ H1 W1 l1 o1 (ee.mono l1))
        | true =>
          refine iteT ⟨fun σ H => ∃ W ev st, WOk (cn X) W H st ∧ EvR (cn X) W σ ev ∧ FinS (cn X) W Wx D (whN mc body f ev st), fun σ' H' n => ⟨f, Nat.lt_succ_self f, n⟩, W1, ev, st1, o1, ee.mono l1, ?_⟩
          simp only at q
          cases z3 : body ev st1 with
          | nx ev2 st2 => rw [z3] at q; exact fun σ'' H'' W' l' o' e'' => ⟨W', ev2, st2, o', e'', FinS.mono (l1.trans l') q⟩
          | ct ev2 st2 => rw [z3] at q; exact fun σ'' H'' W' l' o' e'' => ⟨W', ev2, st2, o', e'', FinS.mono (l1.trans l') q⟩
          | bk ev2 st2 => rw [z3] at q; exact fun σ'' H'' W' l' o' e'' => q σ'' H'' W' (l1.trans l') o' e''
          | stuck => rw [z3] at q; exact q.elim
          | rt v st2 => rw [z3] at q; exact fun x' H'' W' l' o' r' => q x' H'' W' (l1.trans l') o' r'
          | ex x' ev2 st2 => rw [z3] at q; exact fun cls d' σ'' H'' W' l' o' e'' r' => q cls d' σ'' H'' W' (l1.trans l') o' e'' r'
end
end Sim
end

section
/-! Sim 7: comprehensions, built-in functions, methods of built-in types. -/
namespace Sim
open PySem PySem.Spec PyProof.Rows L2 RZ

/-! ### comprehensions -/
def wipeE (ev : Ev) : List Nat → Ev
  | [] => ev
  | v :: vs => (wipeE ev vs).set v none
theorem EvR.forget {C : Cn} {W : Wd} {σ : Sg} {ev : Ev} {i : Nat} (h : EvR C W σ ev) : EvR C W (σ.set i none) (ev.set i none) := by
  refine ⟨by simp [h.1], fun j u e => ?_⟩
  rw [List.getElem?_set] at e
  by_cases q : i = j
  · rw [if_pos q] at e
    split at e <;> cases e
  · rw [if_neg q] at e
    obtain ⟨x, h1, h2⟩ := h.2 j u e
    exact ⟨x, by rw [List.getElem?_set_ne q]; exact h1, h2⟩
theorem EvR.wipe {C : Cn} {W : Wd} {σ : Sg} {ev : Ev} (h : EvR C W σ ev) : ∀ vs : List Nat, EvR C W (L2.wipe σ vs) (wipeE ev vs)
  | [] => h
  | v :: vs => (EvR.wipe h vs).forget
/-- what is laid behind the item v at the list that cell k holds -/
def pushC (k : Nat) (v : D) : O Unit := fun st => match st[k]? with
  | some (.lst acc) => if acc.length < 16777216 then some ((), st.set k (.lst (acc ++ [v]))) else none
  | _ => none
def compN (src : Src) (t : Tgt) (c : MT) (m : ME) (k : Nat) (ev : Ev) : Nat → Nat → Store → Option Store
  | 0, _, _ => none
  | f + 1, i, st => match src.item i st with
    | none => none
    | some none => some st
    | some (some d) => match t.put d ev with
      | none => none
      | some ev1 => match c ev1 st with
        | .ok true st1 => (match m ev1 st1 with
          | .ok v st2 => (match pushC k v st2 with
            | some (_, st3) => compN src t c m k ev f (i + 1) st3
            | none => none)
          | _ => none)
        | .ok false st1 => compN src t c m k ev f (i + 1) st1
        | _ => none
noncomputable def compG (ex : Store → D → Store → Res D) (mi : MI) (t : Tgt) (c : MT) (m : ME) (vs : List Nat) : ME := fun ev => (mi ev).bind fun src st =>
  match compN src t c m st.length (wipeE ev vs) FU 0 (st ++ [.lst []]) with
  | none => .stuck
  | some st' => match ex st (.cl st.length) st' with
    | .ok v st2 => .ok v st2
    | _ => .stuck
/-- the list as data, its cell dropped -/
noncomputable abbrev eComp := compG exitV
/-- the list as a cell -/
noncomputable abbrev eCompM := compG exitC
abbrev Wx0 : WX := fun _ _ _ _ => False
def tYesM : MT := fun _ st => .ok true st
abbrev SPt (X : Cx) (Wx : WX) (ifs : List Expr) (c : MT) : Prop := PTs X ifs (LT (cn X) Wx c)
theorem PTs.imp {X : Cx} {e : List Expr} {t t' : TT} (h : PTs X e t) (i : ∀ σ H Q, t' σ H Q → t σ H Q) : PTs X e t' := ⟨fun pins s σ H Q I q => h.run pins s σ H Q I (i _ _ _ q)⟩
theorem spt_nil {X : Cx} {Wx : WX} : SPt X Wx [] tYesM := PTs.imp pts_nil fun σ H Q ⟨W, ev, st, o, e, h⟩ => h true H W (Wd.le.refl W) o rfl
theorem spt_one {X : Cx} {Wx : WX} {c : Expr} {t : MT} (h : STt X Wx c t) : SPt X Wx [c] t := pts_one h
def ExOk (ex : Store → D → Store → Res D) : Prop := ∀ {C : Cn} {W0 W : Wd} {H0 H : Hp} {st0 st st2 : Store} {v d : D} {x : V}, WOk C W0 H0 st0 → W0.le W → WOk C W H st → RelD C W x v → ex st0 v st = .ok d st2 → ∃ W2, W0.le W2 ∧ WOk C W2 H st2 ∧ RelD C W2 x d
theorem exD_ok : ExOk exitV := fun o0 l o r e => exitV_ok o0 l o r e
theorem exM_ok : ExOk exitC := fun o0 l o r e => exitK_ok o0 l o r e
section
variable {X : Cx} {Wx : WX} {elt tg iter : Expr} {ifs : List Expr} {scope : Scope} {own : List (Str × Nat)} {pos : Pos} {mi : MI} {t : Tgt} {c : MT} {m : ME} {ex : Store → D → Store → Res D}
theorem pushC_ok {C : Cn} {W : Wd} {H : Hp} {st st3 : Store} {k : Nat} {v : D} {y : V} {u : Unit} {L : Addr} (o : WOk C W H st) (hL : W.al[k]? = some L) (r : RelD C W y v) (e : pushC k v st = some (u, st3)) :
    ∃ acc W', W.le W' ∧ H L = some (.lst acc) ∧ acc.length < sizeLine ∧ WOk C W' (upd H L (.lst (acc ++ [y]))) st3 := by
  unfold pushC at e
  split at e
  · rename_i acc hc
    split at e
    · rename_i hz
      cases e
      obtain ⟨hg, vs, hv, rv⟩ := o.cel k L _ hL hc
      exact ⟨vs, W, Wd.le.refl W, hv, by rw [rv.length, szl]; exact hz, o.write hL hg ⟨hg, _, upd_same, rv.append (.cons r .nil)⟩⟩
    · cases e
  · cases e
theorem lc_ok {C : Cn} {σ : Sg} {H : Hp} {Q : VK} (hex : ExOk ex) (ht : ∀ i ∈ t.ixs, i ∈ own.map (·.2)) (h : LE C Wx (compG ex mi t c m (own.map (·.2))) σ H Q) :
    tLc (Lift C (relS C) Wx mi) (gOf C.K t) (LT C Wx0 c) (LE C Wx0 m) (own.map (·.2)) σ H Q :=
  lift1 h fun J H1 src W0 st0 ev o0 ee r q => by
    intro L hL
    generalize hvs : own.map (·.2) = vs at *
    obtain ⟨l1, o1⟩ := o0.newCell (u := .lst []) (c := .lst []) hL ⟨o0.same.free hL, [], upd_same, .nil⟩
    have hk : (W0.al ++ [L])[st0.length]? = some L := by rw [← o0.len, List.getElem?_append_right (Nat.le_refl _)]; simp
    let Fn : Option Store → Prop := fun z => Fin C (RelD C) W0 σ Wx Q (match z with
      | none => .stuck
      | some st' => match ex st0 (.cl st0.length) st' with
        | .ok v st2 => .ok v st2
        | _ => .stuck)
    have q : Fn (compN src t c m st0.length (wipeE ev vs) FU 0 (st0 ++ [.lst []])) := q
    refine ⟨fun i f H => ∃ W st, W0.le W ∧ W.al[st0.length]? = some L ∧ WOk C W H st ∧ Fn (compN src t c m st0.length (wipeE ev vs) f i st), ⟨FU, _, _, l1, hk, o1, q⟩, ?_⟩
    rintro i f H ⟨W, st, l, hk, o, q⟩
    have sr := r W H st l o i
    cases f with
    | zero => exact q.elim
    | succ f =>
      have q : Fn (match src.item i st with
        | none => none
        | some none => some st
        | some (some d) => match t.put d (wipeE ev vs) with
          | none => none
          | some ev1 => match c ev1 st with
            | .ok true st1 => (match m ev1 st1 with
              | .ok v st2 => (match pushC st0.length v st2 with
                | some (_, st3) => compN src t c m st0.length (wipeE ev vs) f (i + 1) st3
                | none => none)
              | _ => none)
            | .ok false st1 => compN src t c m st0.length (wipeE ev vs) f (i + 1) st1
            | _ => none) := q
      cases z : src.item i st with
      | none => rw [z] at q; exact q.elim
      | some u =>
        cases u with
        | none =>
          rw [z] at q sr
          refine .inl ⟨sr, ?_⟩
          have q : Fin C (RelD C) W0 σ Wx Q (match ex st0 (.cl st0.length) st with | .ok v st2 => .ok v st2 | _ => .stuck) := q
          split at q
          · rename_i v st2 he
            obtain ⟨W2, l2, o2, r2⟩ := hex o0 l o (.cl hk) he
            exact q _ H W2 l2 o2 r2
          · exact q.elim
        | some d =>
          rw [z] at q sr
          obtain ⟨go, yl⟩ := sr
          refine .inr ⟨go, fun H => ∃ W st, W0.le W ∧ W.al[st0.length]? = some L ∧ WOk C W H st ∧ Fn (compN src t c m st0.length (wipeE ev vs) f (i + 1) st), fun H' n => ⟨f, Nat.lt_succ_self f, n⟩, fun x H' y => ?_⟩
          obtain ⟨W2, l2, o2, rx⟩ := yl x H' y
          cases z2 : t.put d (wipeE ev vs) with
          | none => simp only [z2] at q; exact q.elim
          | some ev1 =>
            simp only [z2] at q
            refine gOf_ok o2 ((ee.mono (l.trans l2)).wipe vs) rx z2 fun σ' e' wp => ⟨?_, ?_⟩
            · rw [wp vs ht]
              have ww : ∀ us : List Nat, (∀ i ∈ us, i ∈ vs) → wipe (wipe σ us) vs = wipe σ vs := by
                intro us
                induction us with
                | nil => intro _; rfl
                | cons u us ih => intro hu; show wipe ((wipe σ us).set u none) vs = _; rw [wipe_set_in (hu u List.mem_cons_self)]; exact ih fun i hi => hu i (List.mem_cons_of_mem _ hi)
              exact ww vs fun i hi => hi
            · refine ⟨W2, ev1, st, o2, e', ?_⟩
              cases z3 : c ev1 st with
              | stuck => simp only [z3] at q; exact q.elim
              | exn _ _ => simp only [z3] at q; exact q.elim
              | ok b st1 =>
                simp only [z3] at q
                intro b' H3 W3 l3 o3 rb
                have rb' : b' = b := rb
                subst rb'
                cases b' with
                | false => exact iteF ⟨W3, st1, (l.trans l2).trans l3, (l2.trans l3).at hk, o3, q⟩
                | true =>
                  simp only at q
                  refine iteT ⟨W3, ev1, st1, o3, e'.mono l3, ?_⟩
                  cases z4 : m ev1 st1 with
                  | stuck => simp only [z4] at q; exact q.elim
                  | exn _ _ => simp only [z4] at q; exact q.elim
                  | ok v st2 =>
                    simp only [z4] at q
                    intro yv H4 W4 l4 o4 rv
                    cases z5 : pushC st0.length v st2 with
                    | none => simp only [z5] at q; exact q.elim
                    | some w =>
                      obtain ⟨uu, st3⟩ := w
                      simp only [z5] at q
                      have hk4 := ((l2.trans l3).trans l4).at hk
                      obtain ⟨acc, W5, l5, hv, hz, o5⟩ := pushC_ok o4 hk4 rv z5
                      exact ⟨acc, hv, hz, W5, st3, (((l.trans l2).trans l3).trans l4).trans l5, l5.at hk4, o5, q⟩
theorem se_lc (hex : ExOk ex) (hc : X.calm = true) (hN : X.N.Nodup) (ok : blkC X.N X.env.scope scope own = true) (ht : ∀ i ∈ t.ixs, i ∈ own.map (·.2)) (hi : SI X Wx tg iter mi)
    (hg : ∀ (s : Shared) (H : Hp) (C : Addr) (cl : List (Str × Addr)) (fp : List Addr), SG (X.blk s H scope (compEnvC scope cl C X.env) fp) tg t) (hif : ∀ (s : Shared) (H : Hp) (C : Addr) (cl : List (Str × Addr)) (fp : List Addr), SPt (X.blk s H scope (compEnvC scope cl C X.env) fp) Wx0 ifs c)
    (he : ∀ (s : Shared) (H : Hp) (C : Addr) (cl : List (Str × Addr)) (fp : List Addr), SE (X.blk s H scope (compEnvC scope cl C X.env) fp) Wx0 elt m) (hs : ∀ x, foldedSetIterable iter X.env x = pure x := by intro _; rfl) :
    SE X Wx (.ListComp elt [⟨tg, iter, ifs, 0⟩] scope pos) (compG ex mi t c m (own.map (·.2))) :=
  PE.imp (pe_lc hc hN hi (blkOk_by ok) hg hif he hs) fun σ H Q h => lc_ok hex ht h
theorem ss_setLc (i : Nat) (hex : ExOk ex) {y : Str} {py spos : Pos} (hc : X.calm = true) (hN : X.N.Nodup) (ok : blkC X.N X.env.scope scope own = true) (ht : ∀ i ∈ t.ixs, i ∈ own.map (·.2)) (hi : SI X Wx tg iter mi)
    (hg : ∀ (s : Shared) (H : Hp) (C : Addr) (cl : List (Str × Addr)) (fp : List Addr), SG (X.blk s H scope (compEnvC scope cl C X.env) fp) tg t) (hif : ∀ (s : Shared) (H : Hp) (C : Addr) (cl : List (Str × Addr)) (fp : List Addr), SPt (X.blk s H scope (compEnvC scope cl C X.env) fp) Wx0 ifs c)
    (he : ∀ (s : Shared) (H : Hp) (C : Addr) (cl : List (Str × Addr)) (fp : List Addr), SE (X.blk s H scope (compEnvC scope cl C X.env) fp) Wx0 elt m) (hy : X.N[i]? = some y := by rfl) (hyl : X.env.scope.names.lookup y = some .local := by rfl)
    (hk : X.env.scope.kind = .function := by rfl) (hli : (py.line == pos.line) = true := by rfl) (hnn : (scope.names.any fun (n, k) => n == y && (k == .local || k == .cell)) = false := by rfl) (hs : ∀ x, foldedSetIterable iter X.env x = pure x := by intro _; rfl) :
    SS X Wx (.Assign [.Name y py] (.ListComp elt [⟨tg, iter, ifs, 0⟩] scope pos) spos) (sAsg i (compG ex mi t c m (own.map (·.2)))) :=
  PS.imp (ps_setLc hc hN hy hyl (sw_true hk hyl hli hnn) hi (blkOk_by ok) hg hif he hs) fun D σ H h => by
    have h2 : LE (cn X) Wx (compG ex mi t c m (own.map (·.2))) σ H fun x H1 => gName i x σ H1 D.nx := ls_bind h fun x H1 v W st ev o ee r q => q _ H1 W (Wd.le.refl W) o (ee.set r)
    exact lc_ok hex ht h2
end
end Sim
end

section
/-! Sim 8: built-in functions, methods of built-in types. -/
namespace Sim
open PySem PySem.Spec PyProof.Rows L2 RZ

/-! ### calls of built-ins -/
section
variable {X : Cx} {Wx : WX} {x : Str} {p pos : Pos} {e : Expr} {es : List Expr} {ma : MA} {id T : String} {g : List D → O D}
theorem le_ncall {C : Cn} {σ : Sg} {H : Hp} {Q : VK} (h : LE C Wx (eA g ma) σ H Q) : tCB (Rnof C g) (LA C Wx ma) σ H Q :=
  lift1 h fun xs H1 vs W st ev o ee r q => ⟨W, st, vs, o, r, fin_of q⟩
theorem se_b (hc : CallR X (.builtin id) (Rnof (cn X) g)) (hm : X.mg x = none) (hv : bootBuiltins x = some (.builtin id)) (ha : SA X Wx (e :: es) ma) (hg : Gl X x := by rfl) (hn : x ≠ "__name__" := by decide) (hdb : (x == ("__debug__" : Str)) = false := by decide)
    (he : starEach (e :: es) X.env = (false, eval e X.env) :: starEach es X.env := by rfl) (hpl : (backTo pos (starEach es X.env)).any (·.1) = false := by rfl) : SE X Wx (.Call (.Name x p) (e :: es) [] pos) (eA g ma) :=
  PE.imp (pe_callB hc hg hm hv ha hn hdb he hpl) fun _ _ _ => le_ncall
theorem se_t (hc : CallR X (.type T) (Rnof (cn X) g)) (hm : X.mg x = none) (hv : bootBuiltins x = some (.type T)) (ha : SA X Wx (e :: es) ma) (hg : Gl X x := by rfl) (hn : x ≠ "__name__" := by decide) (hdb : (x == ("__debug__" : Str)) = false := by decide)
    (he : starEach (e :: es) X.env = (false, eval e X.env) :: starEach es X.env := by rfl) (hpl : (backTo pos (starEach es X.env)).any (·.1) = false := by rfl) : SE X Wx (.Call (.Name x p) (e :: es) [] pos) (eA g ma) :=
  PE.imp (pe_callTy hc hg hm hv ha hn hdb he hpl) fun _ _ _ => le_ncall
end
section
variable {X : Cx}
def gLen (vs : List D) : O D := fun st => match vs with
  | [v] => (match seqV st v with
    | some xs => some ((.int xs.length), st)
    | none => match v with
      | (.str z) => if z.length ≤ 16777216 then some ((.int z.length), st) else none
      | _ => none)
  | _ => none
theorem cg_len : CallR X (.builtin "len") (Rnof (cn X) gLen) := by
  intro pins s σ H xs us Q I r h
  obtain ⟨W, st, as, o, ra, h⟩ := h
  unfold gLen at h
  split at h
  · rename_i v
    obtain ⟨y, rfl, r1⟩ := rel1 ra
    split at h
    · rename_i ds e
      obtain ⟨a, vs, rfl, hv, rv⟩ := seqV_ok o r1 e
      refine call_len_seq pins s σ H _ us Q I r ⟨a, vs, rfl, hv, ?_⟩
      rw [rv.length]
      exact fin_val o h (.int _)
    · split at h
      · rename_i z _
        cases rel_str r1
        split at h
        · exact call_len_str pins s σ H _ us Q I r ⟨z, rfl, by rw [szl]; assumption, fin_val o h (.int _)⟩
        · exact h.elim
      · exact h.elim
  · exact h.elim
def gAbs (vs : List D) : O D := fun st => match vs with
  | [(.int i)] => some ((.int (if i < 0 then -i else i)), st)
  | _ => none
theorem cg_abs : CallR X (.builtin "abs") (Rnof (cn X) gAbs) := by
  intro pins s σ H xs us Q I r h
  obtain ⟨W, st, as, o, ra, h⟩ := h
  unfold gAbs at h
  split at h
  · rename_i i
    obtain ⟨y, rfl, r1⟩ := rel1 ra
    cases rel_int r1
    exact call_abs pins s σ H _ us Q I r ⟨i, rfl, fin_val o h (.int _)⟩
  · exact h.elim
def gMax2 (vs : List D) : O D := fun st => match vs with
  | [(.int i), (.int j)] => some ((.int (if j > i then j else i)), st)
  | _ => none
def gMin2 (vs : List D) : O D := fun st => match vs with
  | [(.int i), (.int j)] => some ((.int (if j < i then j else i)), st)
  | _ => none
theorem cg_max2 (hc : X.calm = true) : CallR X (.builtin "max") (Rnof (cn X) gMax2) := by
  intro pins s σ H xs us Q I r h
  obtain ⟨W, st, as, o, ra, h⟩ := h
  unfold gMax2 at h
  split at h
  · rename_i i j
    obtain ⟨y, z, rfl, r1, r2⟩ := rel2 ra
    cases rel_int r1
    cases rel_int r2
    exact call_max2 hc pins s σ H _ us Q I r ⟨i, j, rfl, fin_val o h (.int _)⟩
  · exact h.elim
theorem cg_min2 (hc : X.calm = true) : CallR X (.builtin "min") (Rnof (cn X) gMin2) := by
  intro pins s σ H xs us Q I r h
  obtain ⟨W, st, as, o, ra, h⟩ := h
  unfold gMin2 at h
  split at h
  · rename_i i j
    obtain ⟨y, z, rfl, r1, r2⟩ := rel2 ra
    cases rel_int r1
    cases rel_int r2
    exact call_min2 hc pins s σ H _ us Q I r ⟨i, j, rfl, fin_val o h (.int _)⟩
  · exact h.elim
def gInt (vs : List D) : O D := fun st => match vs with
  | [(.int i)] => some ((.int i), st)
  | [(.bl b)] => some ((.int (if b then 1 else 0)), st)
  | _ => none
theorem cg_int : CallR X (.type "int") (Rnof (cn X) gInt) := by
  intro pins s σ H xs us Q I r h
  obtain ⟨W, st, as, o, ra, h⟩ := h
  unfold gInt at h
  split at h
  · rename_i i
    obtain ⟨y, rfl, r1⟩ := rel1 ra
    cases rel_int r1
    exact call_int1 pins s σ H _ us Q I r (.inl ⟨i, rfl, fin_val o h (.int _)⟩)
  · rename_i b
    obtain ⟨y, rfl, r1⟩ := rel1 ra
    cases rel_bl r1
    exact call_int1 pins s σ H _ us Q I r (.inr ⟨b, rfl, fin_val o h (.int _)⟩)
  · exact h.elim
def gBool (vs : List D) : O D := fun st => match vs with
  | [(.int i)] => some ((.bl (i != 0)), st)
  | [(.bl b)] => some ((.bl b), st)
  | _ => none
theorem cg_bool : CallR X (.type "bool") (Rnof (cn X) gBool) := by
  intro pins s σ H xs us Q I r h
  obtain ⟨W, st, as, o, ra, h⟩ := h
  unfold gBool at h
  split at h
  · rename_i i
    obtain ⟨y, rfl, r1⟩ := rel1 ra
    cases rel_int r1
    exact call_bool1 pins s σ H _ us Q I r (.inl ⟨i, rfl, fin_val o h (.bl _)⟩)
  · rename_i b
    obtain ⟨y, rfl, r1⟩ := rel1 ra
    cases rel_bl r1
    exact call_bool1 pins s σ H _ us Q I r (.inr ⟨b, rfl, fin_val o h (.bl _)⟩)
  · exact h.elim
def gStr (vs : List D) : O D := fun st => match vs with
  | [(.int i)] => if i.natAbs.log2 < 1920 then some ((.str (toString i)), st) else none
  | [(.str z)] => some ((.str z), st)
  | _ => none
theorem cg_str : CallR X (.type "str") (Rnof (cn X) gStr) := by
  intro pins s σ H xs us Q I r h
  obtain ⟨W, st, as, o, ra, h⟩ := h
  unfold gStr at h
  split at h
  · rename_i i
    obtain ⟨y, rfl, r1⟩ := rel1 ra
    cases rel_int r1
    split at h
    · exact call_str_int pins s σ H _ us Q I r ⟨i, rfl, by assumption, fin_val o h (.str _)⟩
    · exact h.elim
  · rename_i z
    obtain ⟨y, rfl, r1⟩ := rel1 ra
    cases rel_str r1
    exact SkE.call_str_str pins s σ H _ us Q I r ⟨z, rfl, fin_val o h (.str _)⟩
  · exact h.elim
def gList (vs : List D) : O D := fun st => match vs with
  | [v] => (seqV st v).map fun xs => ((.lst xs), st)
  | _ => none
theorem cg_list : CallR X (.type "list") (Rnof (cn X) gList) := by
  intro pins s σ H xs us Q I r h
  obtain ⟨W, st, as, o, ra, h⟩ := h
  unfold gList at h
  split at h
  · rename_i v
    obtain ⟨y, rfl, r1⟩ := rel1 ra
    cases e : seqV st v with
    | none => rw [e] at h; exact h.elim
    | some ds =>
      rw [e] at h
      obtain ⟨a, vs, rfl, hv, rv⟩ := seqV_ok o r1 e
      exact call_list_of pins s σ H _ us Q I r ⟨a, vs, rfl, hv, fun l hl => fin_new o h hl fun G hG sm => .lst hG (rv.mono sm)⟩
  · exact h.elim
/-- list(..) as a cell -/
def gListM (vs : List D) : O D := fun st => match vs with
  | [v] => (seqV st v).map fun xs => (.cl st.length, st ++ [.lst xs])
  | _ => none
theorem cg_listM : CallR X (.type "list") (Rnof (cn X) gListM) := by
  intro pins s σ H xs us Q I r h
  obtain ⟨W, st, as, o, ra, h⟩ := h
  unfold gListM at h
  split at h
  · rename_i v
    obtain ⟨y, rfl, r1⟩ := rel1 ra
    cases e : seqV st v with
    | none => rw [e] at h; exact h.elim
    | some ds =>
      rw [e] at h
      obtain ⟨a, vs, rfl, hv, rv⟩ := seqV_ok o r1 e
      refine call_list_of pins s σ H _ us Q I r ⟨a, vs, rfl, hv, fun l hl => ?_⟩
      obtain ⟨l2, o2⟩ := o.newCell (u := .lst vs) (c := .lst ds) hl ⟨o.same.free hl, vs, upd_same, RelDs.mono (W := W) (W' := ⟨W.G, W.al ++ [l]⟩) ⟨Same.refl _, [l], rfl⟩ rv⟩
      exact h _ _ _ l2 o2 (.cl (by show (W.al ++ [l])[st.length]? = some l; rw [← o.len, List.getElem?_append_right (Nat.le_refl _)]; simp))
  · exact h.elim
def gTuple (vs : List D) : O D := fun st => match vs with
  | [v] => (seqV st v).map fun xs => ((.tup xs), st)
  | _ => none
theorem cg_tuple : CallR X (.type "tuple") (Rnof (cn X) gTuple) := by
  intro pins s σ H xs us Q I r h
  obtain ⟨W, st, as, o, ra, h⟩ := h
  unfold gTuple at h
  split at h
  · rename_i v
    obtain ⟨y, rfl, r1⟩ := rel1 ra
    cases e : seqV st v with
    | none => rw [e] at h; exact h.elim
    | some ds =>
      rw [e] at h
      cases z : listV st v with
      | some zs =>
        have ez : zs = ds := by unfold seqV at e; rw [z] at e; exact Option.some.inj e
        subst ez
        obtain ⟨a, vs, rfl, hv, rv⟩ := listV_ok o r1 z
        exact call_tuple_of pins s σ H _ us Q I r ⟨a, vs, rfl, .inl ⟨hv, fun l hl => fin_new o h hl fun G hG sm => .tup (.inl hG) (rv.mono sm)⟩⟩
      | none =>
        have z2 : tupV v = some ds := by unfold seqV at e; rw [z] at e; simpa using e
        have ev : v = (.tup ds) := by
          cases v <;> simp only [tupV] at z2 <;> cases z2 <;> rfl
        subst ev
        obtain ⟨a, vs, rfl, hv, rv⟩ := tupV_ok o r1 z2
        exact call_tuple_of pins s σ H _ us Q I r ⟨a, vs, rfl, .inr ⟨hv, fin_vl o h r1⟩⟩
  · exact h.elim
/-- a list of truths -/
def asBls : List D → Option (List Bool)
  | [] => some []
  | .bl b :: r => (asBls r).map (b :: ·)
  | _ => none
theorem asBls_eq : ∀ {ds : List D} {bs : List Bool}, asBls ds = some bs → ds = bs.map D.bl
  | [], bs, h => by cases h; rfl
  | d :: ds, bs, h => by
    cases d <;> simp only [asBls] at h <;> try cases h
    cases q : asBls ds with
    | none => rw [q] at h; cases h
    | some cs => rw [q] at h; cases h; rw [asBls_eq q]; rfl
def gAll (vs : List D) : O D := fun st => match vs with
  | [v] => ((listV st v).bind asBls).map fun bs => ((.bl (bs.all id)), st)
  | _ => none
def gAny (vs : List D) : O D := fun st => match vs with
  | [v] => ((listV st v).bind asBls).map fun bs => ((.bl (bs.any id)), st)
  | _ => none
theorem cg_all (hc : X.calm = true) : CallR X (.builtin "all") (Rnof (cn X) gAll) := by
  intro pins s σ H xs us Q I r h
  obtain ⟨W, st, as, o, ra, h⟩ := h
  unfold gAll at h
  split at h
  · rename_i v
    obtain ⟨y, rfl, r1⟩ := rel1 ra
    cases e : (listV st v).bind asBls with
    | none => rw [e] at h; exact h.elim
    | some bs =>
      rw [e] at h
      obtain ⟨ds, e1, e2⟩ := Option.bind_eq_some_iff.mp e
      obtain ⟨a, vs, rfl, hv, rv⟩ := listV_ok o r1 e1
      rw [asBls_eq e2] at rv
      have ev := RelDs.bls rv
      subst ev
      exact cr_all hc pins s σ H _ us Q I r ⟨a, bs, rfl, hv, fin_val o h (.bl _)⟩
  · exact h.elim
theorem cg_any (hc : X.calm = true) : CallR X (.builtin "any") (Rnof (cn X) gAny) := by
  intro pins s σ H xs us Q I r h
  obtain ⟨W, st, as, o, ra, h⟩ := h
  unfold gAny at h
  split at h
  · rename_i v
    obtain ⟨y, rfl, r1⟩ := rel1 ra
    cases e : (listV st v).bind asBls with
    | none => rw [e] at h; exact h.elim
    | some bs =>
      rw [e] at h
      obtain ⟨ds, e1, e2⟩ := Option.bind_eq_some_iff.mp e
      obtain ⟨a, vs, rfl, hv, rv⟩ := listV_ok o r1 e1
      rw [asBls_eq e2] at rv
      have ev := RelDs.bls rv
      subst ev
      exact cr_any hc pins s σ H _ us Q I r ⟨a, bs, rfl, hv, fin_val o h (.bl _)⟩
  · exact h.elim
/-- a list of ints -/
def asInts : List D → Option (List Int)
  | [] => some []
  | .int b :: r => (asInts r).map (b :: ·)
  | _ => none
theorem asInts_eq : ∀ {ds : List D} {bs : List Int}, asInts ds = some bs → ds = bs.map D.int
  | [], bs, h => by cases h; rfl
  | d :: ds, bs, h => by
    cases d <;> simp only [asInts] at h <;> try cases h
    cases q : asInts ds with
    | none => rw [q] at h; cases h
    | some cs => rw [q] at h; cases h; rw [asInts_eq q]; rfl
theorem asInts_map : ∀ ns : List Int, asInts (ns.map D.int) = some ns
  | [] => rfl
  | n :: r => by show (asInts (r.map D.int)).map (n :: ·) = _; rw [asInts_map r]; rfl
theorem asBls_map : ∀ ns : List Bool, asBls (ns.map D.bl) = some ns
  | [] => rfl
  | n :: r => by show (asBls (r.map D.bl)).map (n :: ·) = _; rw [asBls_map r]; rfl
def gSum (vs : List D) : O D := fun st => match vs with
  | [v] => ((listV st v).bind asInts).map fun bs => ((.int bs.sum), st)
  | _ => none
theorem cg_sum (hc : X.calm = true) : CallR X (.builtin "sum") (Rnof (cn X) gSum) := by
  intro pins s σ H xs us Q I r h
  obtain ⟨W, st, as, o, ra, h⟩ := h
  unfold gSum at h
  split at h
  · rename_i v
    obtain ⟨y, rfl, r1⟩ := rel1 ra
    cases e : (listV st v).bind asInts with
    | none => rw [e] at h; exact h.elim
    | some bs =>
      rw [e] at h
      obtain ⟨ds, e1, e2⟩ := Option.bind_eq_some_iff.mp e
      obtain ⟨a, vs, rfl, hv, rv⟩ := listV_ok o r1 e1
      rw [asInts_eq e2] at rv
      have ev := RelDs.ints rv
      subst ev
      exact cr_sum hc pins s σ H _ us Q I r ⟨a, bs, rfl, hv, fin_val o h (.int _)⟩
  · exact h.elim
/-! repr -/
def gRepr (vs : List D) : O D := fun st => match vs with
  | [v] => (match pyV st v with
    | some e => if e.showable = true ∧ e.hasDict = false ∧ e.depth ≤ 60 ∧ e.shown.length ≤ 16777216 then some ((.str e.shown), st) else none
    | none => none)
  | _ => none
theorem cg_repr (hc : Clr X.A) (hu : X.A.units + 64 < cLine) : CallR X (.builtin "repr") (Rnof (cn X) gRepr) := by
  intro pins s σ H xs us Q I r h
  obtain ⟨W, st, as, o, ra, h⟩ := h
  unfold gRepr at h
  split at h
  · rename_i v
    obtain ⟨y, rfl, r1⟩ := rel1 ra
    split at h
    · rename_i e he
      split at h
      · rename_i hs
        obtain ⟨u, rfl, ru⟩ := vals1 r
        have dp := vl_dp o r1 he
        have q : Q (.str e.shown) H := fin_val o h (.str _)
        have sz := szl
        cases dp with
        | non => cases ru; exact PySem.P.repr_of_none ⟨.str _, H, I.tok _, ⟨_, rfl⟩, by simpa [PyData.shown] using q⟩
        | bl b => cases ru; exact PySem.P.repr_of_bool ⟨.str _, H, I.tok _, ⟨_, rfl⟩, by simpa [PyData.shown] using q⟩
        | int i =>
          obtain ⟨t, rfl⟩ := ru
          exact PySem.P.repr_of_int (by simpa [PyData.showable] using hs.1) ⟨.str _, H, I.tok _, ⟨_, rfl⟩, by simpa [PyData.shown] using q⟩
        | str z =>
          obtain ⟨t, rfl⟩ := ru
          exact PySem.P.repr_of_str (hsz := by have := hs.2.2.2; simp only [PyData.shown] at this; omega) ⟨.str _, H, I.tok _, ⟨_, rfl⟩, by simpa [PyData.shown] using q⟩
        | @lst a vs ds h1 h2 =>
          obtain ⟨as, rd⟩ := Dp.reads I _ _ _ (Dp.lst h1 h2) ru
          cases ru
          exact repr_of_reads' rd hs.1 (fun z => by rw [hs.2.1] at z; cases z) hc (by have := hs.2.2.1; omega) (fun _ _ z => z) (fun h' u tk hk => ⟨.str _, H, I.kept hk, ⟨u, rfl⟩, q⟩) (by rw [sz]; exact hs.2.2.2)
        | @tup a vs ds h1 h2 =>
          obtain ⟨as, rd⟩ := Dp.reads I _ _ _ (Dp.tup h1 h2) ru
          cases ru
          exact repr_of_reads' rd hs.1 (fun z => by rw [hs.2.1] at z; cases z) hc (by have := hs.2.2.1; omega) (fun _ _ z => z) (fun h' u tk hk => ⟨.str _, H, I.kept hk, ⟨u, rfl⟩, q⟩) (by rw [sz]; exact hs.2.2.2)
      · exact h.elim
    · exact h.elim
  · exact h.elim

/-! isinstance of data that is no instance -/
def tyN : D → Option String
  | .non => some "NoneType"
  | .bl _ => some "bool"
  | .int _ => some "int"
  | .str _ => some "str"
  | .lst _ => some "list"
  | .rl _ => some "list"
  | .tup _ => some "tuple"
  | .dic _ => some "dict"
  | _ => none
def tyV (st : Store) (v : D) : Option String := match v with
  | .cl k => (match st[k]? with | some (.lst _) => some "list" | some (.dic _) => some "dict" | _ => none)
  | d => tyN d
def knownT : List String := ["int", "bool", "str", "list", "tuple", "dict"]
def isSub (a b : String) : Option Bool := if knownT.contains b = true then some (a == b || (a == "bool" && b == "int")) else none
def srcT : List String := ["NoneType", "bool", "int", "str", "list", "tuple", "dict"]
theorem isSub_all : (srcT.all fun a => knownT.all fun b => kitB a b == some (a == b || (a == "bool" && b == "int"))) = true := by decide +kernel
theorem isSub_ok {a b : String} {k : Bool} (ha : a ∈ srcT) (h : isSub a b = some k) : kitB a b = some k := by
  unfold isSub at h
  split at h
  · rename_i hb
    cases h
    have q := List.all_eq_true.mp (List.all_eq_true.mp isSub_all a ha) b (List.contains_iff_mem.mp hb)
    exact eq_of_beq q
  · cases h
theorem tyN_src {d : D} {a : String} (h : Sim.tyN d = some a) : a ∈ srcT := by
  cases d <;> simp only [Sim.tyN] at h <;> cases h <;> simp [srcT]
theorem tyX_of {C : Cn} {W : Wd} {H : Hp} {st : Store} {v : D} {x : V} {a : String} (o : WOk C W H st) (r : RelD C W x v) (h : tyV st v = some a) : a ∈ srcT ∧ TyX C.K H x (.type a) := by
  cases r with
  | cl hk =>
    simp only [tyV] at h
    split at h
    · rename_i xs hc
      cases h
      obtain ⟨p, e', ha, hg, vs, hv, rv⟩ := cell_of o (.cl hk) hc
      cases e'
      exact ⟨by simp [srcT], .base (.lst hv)⟩
    · rename_i xs hc
      cases h
      obtain ⟨p, e', ha, hg, vs, hv, rv⟩ := cell_of o (.cl hk) hc
      cases e'
      exact ⟨by simp [srcT], .base (.dK hv)⟩
    · cases h
  | non => cases h; exact ⟨by simp [srcT], .base .non⟩
  | bl b => cases h; exact ⟨by simp [srcT], .base (.bl b)⟩
  | int i => cases h; exact ⟨by simp [srcT], .base (.int i)⟩
  | str z => cases h; exact ⟨by simp [srcT], .base (.str z)⟩
  | lst h1 _ => cases h; exact ⟨by simp [srcT], .base (.lst (o.same _ _ h1))⟩
  | rl h1 _ =>
    cases h
    refine ⟨by simp [srcT], ?_⟩
    rcases h1 with (h1 | ⟨ob, h1⟩) | ⟨ob, its, n, h1, h2, _⟩
    · exact .base (.lst (o.same _ _ h1))
    · exact .base (.frz (o.same _ _ h1))
    · exact .kList h1 h2
  | tup h1 _ =>
    cases h
    refine ⟨by simp [srcT], ?_⟩
    rcases h1 with h1 | ⟨ob, its, n, h1, h2, _⟩
    · exact .base (.tup (o.same _ _ h1))
    · exact .kTuple h1 h2
  | dic h1 _ => cases h; exact ⟨by simp [srcT], .base (.dK (o.same _ _ h1))⟩
  | ty _ => cases h
  | glob _ => cases h
  | ins _ _ _ => cases h
def asTys : List D → Option (List String)
  | [] => some []
  | .ty b :: r => (asTys r).map (b :: ·)
  | _ => none
theorem asTys_eq : ∀ {ds : List D} {bs : List String}, asTys ds = some bs → ds = bs.map D.ty
  | [], bs, h => by cases h; rfl
  | d :: ds, bs, h => by
    cases d <;> simp only [asTys] at h <;> try cases h
    cases q : asTys ds with
    | none => rw [q] at h; cases h
    | some cs => rw [q] at h; cases h; rw [asTys_eq q]; rfl
/-- of any of some types -/
def isAny (a : String) : List String → Option Bool
  | [] => some false
  | b :: r => match isSub a b with
    | some true => some true
    | some false => isAny a r
    | none => none
theorem isAny_ok {K : PySem.W.Frag} {a : String} (ha : a ∈ srcT) : ∀ {bs : List String} {k : Bool}, isAny a bs = some k → PySem.W.kitAny K (.type a) (bs.map Value.type) = some k
  | [], k, h => by cases h; rfl
  | b :: bs, k, h => by
    simp only [isAny] at h
    split at h
    · rename_i e
      cases h
      exact kitAny_cons (b := true) (kit_ty (isSub_ok ha e)) (fun z => by cases z) fun _ => rfl
    · rename_i e
      exact kitAny_cons (b := false) (kit_ty (isSub_ok ha e)) (fun _ => isAny_ok ha h) fun z => by cases z
    · cases h
def gIsi (vs : List D) : O D := fun st => match vs with
  | [v, (.ty b)] => (match tyV st v with | some a => (isSub a b).map fun k => ((.bl k), st) | none => none)
  | [v, (.tup ts)] => (match tyV st v, asTys ts with | some a, some bs => (isAny a bs).map fun k => ((.bl k), st) | _, _ => none)
  | _ => none
theorem tys_rel {C : Cn} {W : Wd} : ∀ {bs : List String} {cs : List V}, RelDs C W cs (bs.map D.ty) → cs = bs.map V.ty
  | [], cs, h => by cases h; rfl
  | b :: bs, cs, h => by
    cases h with
    | cons h r => cases h; rw [tys_rel r]; rfl
theorem tys_cls : ∀ bs : List String, Paired ClsV (bs.map V.ty) (bs.map Value.type)
  | [] => .nil
  | b :: bs => .cons (.ty b) (tys_cls bs)
theorem tys_vals : ∀ {bs : List String} {us : List Value}, Vals (bs.map V.ty) us → us = bs.map Value.type
  | [], us, h => by cases h; rfl
  | b :: bs, us, h => by
    cases h with
    | cons h r => rw [tys_vals r]; cases (show _ = Value.type b from h); rfl
theorem cg_isi : CallR X (.builtin "isinstance") (Rnof (cn X) gIsi) := by
  intro pins s σ H xs us Q I r h
  obtain ⟨W, st, as, o, ra, h⟩ := h
  unfold gIsi at h
  split at h
  · rename_i v b
    obtain ⟨x, y, rfl, r1, r2⟩ := rel2 ra
    split at h
    · rename_i a ha
      obtain ⟨hs, tx⟩ := tyX_of o r1 ha
      cases e : isSub a b with
      | none => rw [e] at h; exact h.elim
      | some k =>
        rw [e] at h
        cases r2
        exact call_isi pins s σ H _ us Q I r ⟨x, .ty b, .type a, .type b, k, rfl, .ty b, tx, kit_ty (isSub_ok hs e), fin_val o h (.bl _)⟩
    · exact h.elim
  · rename_i v ts
    obtain ⟨x, y, rfl, r1, r2⟩ := rel2 ra
    split at h
    · rename_i a bs ha hb
      obtain ⟨hs, tx⟩ := tyX_of o r1 ha
      cases e : isAny a bs with
      | none => rw [e] at h; exact h.elim
      | some k =>
        rw [e] at h
        rw [asTys_eq hb] at r2
        cases r2 with
        | tup h1 rd =>
          have ec := tys_rel rd
          subst ec
          rcases h1 with h1 | ⟨ob, its, n, h1, h2, h3, _, h5⟩
          · exact call_isiT pins s σ H _ us Q I r ⟨x, _, _, .type a, bs.map Value.type, k, rfl, o.same _ _ h1, tys_cls bs, tx, isAny_ok hs e, fin_val o h (.bl _)⟩
          · obtain ⟨oc, od, dt, sl⟩ := ob
            simp only at h2 h3
            subst h2 h3
            have e5 : its.toList = bs.map Value.type := tys_vals h5
            refine call_isiK pins s σ H _ us Q I r ⟨x, _, od, bs.map Value.type, n, sl, .type a, k, rfl, ?_, tx, isAny_ok hs e, fin_val o h (.bl _)⟩
            rw [← e5]
            simpa using h1
    · exact h.elim
  · exact h.elim
end

/-! ### methods of lists -/
def eMtL (g : D → List D → O D) (mo : ME) (ma : MA) : ME := fun ev => (mo ev).bind fun x => fun st => if (listV st x).isSome = true then (((ma ev).bind fun vs => M.of (g x vs)) st) else .stuck
def gAppend (x : D) (vs : List D) : O D := fun st => match x, vs with
  | .cl k, [v] => (pushC k v st).map fun (_, st') => (.non, st')
  | _, _ => none
section
variable {X : Cx} {Wx : WX} {o e : Expr} {mo me : ME} {apos cpos : Pos}
theorem se_append (ho : SE X Wx o mo) (he : SE X Wx e me) (hbase : attributeBase o "append" X.env (eval o X.env) = eval o X.env := by rfl)
    (hfew : ((backTo cpos (starEach (e :: []) X.env)).all (fun x => !x.1) && (backToKw cpos (keywordEach [] X.env)).all (fun x => x.1.isSome)
      && decide ((e :: []).length + ([] : List Keyword).length + (if ([] : List Keyword).isEmpty then 0 else 1) < 30)) = true := by rfl)
    (hline : (apos.endLine == cpos.line) = true := by rfl) (hs : starEach (e :: []) X.env = (false, eval e X.env) :: starEach [] X.env := by rfl) (hplain : (backTo cpos (starEach [] X.env)).any (·.1) = false := by rfl) :
    SE X Wx (.Call (.Attribute o "append" apos) [e] [] cpos) (eMtL gAppend mo (aCons me aNil)) :=
  PE.imp (pe_bm PySem.F.plainAttrs_list PySem.F.slot_list_append PySem.F.type_list_append mt_append ho (sa_cons he sa_nil hs) hbase hfew hline hs hplain) fun σ H Q h => lift1 h fun x H1 v W st ev ok ee r q => by
    replace q : Fin (cn X) (RelD (cn X)) W σ Wx Q (if (listV st v).isSome = true then (((aCons me aNil ev).bind fun vs => M.of (gAppend v vs)) st) else .stuck) := q
    split at q
    · rename_i hty
      refine ⟨?_, lift2 (rel := RelDs (cn X)) ok ee q fun xs H2 vs W' st' l o' r' h2 => ?_⟩
      · obtain ⟨ds, hd⟩ := Option.isSome_iff_exists.mp hty
        obtain ⟨p, us, rfl, hv, rv⟩ := listV_ok ok r hd
        exact .inl ⟨rfl, _, hv⟩
      · replace h2 := fin_of h2
        unfold gAppend at h2
        split at h2
        · rename_i k y
          obtain ⟨z, rfl, r1⟩ := rel1 r'
          cases e2 : pushC k y st' with
          | none => rw [e2] at h2; exact h2.elim
          | some w =>
            obtain ⟨uu, st3⟩ := w
            rw [e2] at h2
            cases r with
            | cl ha =>
              obtain ⟨acc, W5, l5, hv, hz, o5⟩ := pushC_ok o' (l.at ha) r1 e2
              exact ⟨_, acc, z, rfl, rfl, hv, hz, h2 _ _ W5 l5 o5 (.non)⟩
        · exact h2.elim
    · exact q.elim
end
end Sim
end

section
/-! Sim 9: dict displays, a text so many times, the law's end. -/
namespace Sim
open PySem PySem.Spec PyProof.Rows L2 RZ

/-! ### a text so many times -/
def gStrRep (a b : D) : O D := fun st => match a, b with
  | (.str x), (.int n) => if 0 ≤ n ∧ n ≤ 16777216 ∧ x.length * n.toNat ≤ 16777216 then some ((.str (Txt.mul x n)), st) else none
  | _, _ => none
theorem og_strRep {X : Cx} : OpR X (binaryOp .Mult) (R2of (cn X) gStrRep) := by
  intro pins s σ H x y v u Q I rx ry h
  obtain ⟨W, st, a, b, o, ra, rb, h⟩ := h
  unfold gStrRep at h
  split at h
  · rename_i z n
    cases rel_str ra
    cases rel_int rb
    split at h
    · rename_i hk
      obtain ⟨t, rfl⟩ := rx
      obtain ⟨t', rfl⟩ := ry
      exact SB.mul (mulOk_of z.length n.toNat (Nat.le_refl _) (by omega) (by omega) (by omega) hk.2.2) fun t2 k => ⟨.str _, H, I.tok k, ⟨t2, rfl⟩, fin_val o h (.str _)⟩
    · exact h.elim
  · exact h.elim
def gMulS : D → D → O D := eitherG gMul gStrRep
theorem og_mulS {X : Cx} : OpR X (binaryOp .Mult) (R2of (cn X) gMulS) := OpR.either og_mul og_strRep

/-! ### dict displays -/
def asKey : D → Option Key
  | .int i => some (.inl i)
  | .str x => some (.inr x)
  | _ => none
def putD (kvs : List (Key × D)) (k : Key) (v : D) : List (Key × D) :=
  if (kvs.any fun kv => decide (kv.1 = k)) = true then kvs.map (fun kv => if kv.1 = k then (kv.1, v) else kv) else kvs ++ [(k, v)]
def mergeD (kvs more : List (Key × D)) : List (Key × D) := more.foldl (fun acc kv => putD acc kv.1 kv.2) kvs
section
variable {C : Cn} {W : Wd}
theorem RelKs.any (k : Key) : ∀ {gs : List (Key × V)} {fs : List (Key × D)}, RelKs C W gs fs → (gs.any fun kv => decide (kv.1 = k)) = fs.any fun kv => decide (kv.1 = k)
  | _, _, .nil => rfl
  | _, _, .cons _ r => by rw [List.any_cons, List.any_cons, RelKs.any k r]
theorem RelKs.map (k : Key) {v : V} {d : D} (h : RelD C W v d) : ∀ {gs : List (Key × V)} {fs : List (Key × D)}, RelKs C W gs fs → RelKs C W (gs.map fun kv => if kv.1 = k then (kv.1, v) else kv) (fs.map fun kv => if kv.1 = k then (kv.1, d) else kv)
  | _, _, .nil => .nil
  | _, _, .cons (f := f) h1 r => by
    rw [List.map_cons, List.map_cons]
    by_cases e : f = k
    · rw [if_pos e, if_pos e]; exact .cons h (RelKs.map k h r)
    · rw [if_neg e, if_neg e]; exact .cons h1 (RelKs.map k h r)
theorem RelKs.snoc {k : Key} {v : V} {d : D} (h : RelD C W v d) : ∀ {gs : List (Key × V)} {fs : List (Key × D)}, RelKs C W gs fs → RelKs C W (gs ++ [(k, v)]) (fs ++ [(k, d)])
  | _, _, .nil => .cons h .nil
  | _, _, .cons h1 r => .cons h1 (RelKs.snoc h r)
theorem RelKs.put {k : Key} {v : V} {d : D} (h : RelD C W v d) {gs : List (Key × V)} {fs : List (Key × D)} (r : RelKs C W gs fs) : RelKs C W (putK gs k v) (putD fs k d) := by
  unfold putK putD
  rw [r.any k]
  split
  · exact r.map k h
  · exact r.snoc h
theorem RelKs.merge : ∀ {more : List (Key × V)} {mored : List (Key × D)}, RelKs C W more mored → ∀ {gs : List (Key × V)} {fs : List (Key × D)}, RelKs C W gs fs → RelKs C W (mergeK gs more) (mergeD fs mored)
  | _, _, .nil, _, _, r => r
  | _, _, .cons h q, _, _, r => RelKs.merge q (r.put h)
theorem RelKs.length : ∀ {gs : List (Key × V)} {fs : List (Key × D)}, RelKs C W gs fs → gs.length = fs.length
  | _, _, .nil => rfl
  | _, _, .cons _ r => congrArg (· + 1) (RelKs.length r)
theorem asKey_ok {v : V} {d : D} {k : Key} (r : RelD C W v d) (e : asKey d = some k) : v = kV k := by
  cases d <;> simp only [asKey] at e <;> cases e <;> cases r <;> rfl
end
/-- the pairs of a display, from the left -/
def pairsM : List (ME × ME) → Ev → M (List (Key × D))
  | [], _ => fun st => .ok [] st
  | (mk, mv) :: r, ev => (mk ev).bind fun kd => (mv ev).bind fun vd => fun st => match asKey kd with
    | some k => ((pairsM r ev).bind fun ps st2 => .ok ((k, vd) :: ps) st2) st
    | none => .stuck
/-- nothing is cut -/
def exitAll (_ : Store) (v : D) (st' : Store) : Res D := .ok v st'
theorem exitAll_ok : ExOk exitAll := fun o0 l o r e => by cases e; exact ⟨_, l, o, r⟩
open Classical in
noncomputable def eDictG (ex : Store → D → Store → Res D) (ps : List (ME × ME)) : ME := fun ev st => match pairsM ps ev (st ++ [.dic []]) with
  | .ok kvs st' => (match st'[st.length]? with
    | some (.dic []) => if kvs.length ≤ 15 then (match ex st (.cl st.length) (st'.set st.length (.dic (mergeD [] kvs))) with | .ok v st2 => .ok v st2 | _ => .stuck) else .stuck
    | _ => .stuck)
  | .exn e st' => if D.lowF st.length e.fs = true ∧ CutOk st.length st st' then .exn e (st'.take st.length) else .stuck
  | .stuck => .stuck
noncomputable abbrev eDict := eDictG exitV
def eDict0 : ME := fun _ st => .ok ((.dic [])) st
section
variable {X : Cx} {Wx : WX} {pos : Pos}
theorem se_dict0 : SE X Wx (.Dict [] [] pos) eDict0 := PE.imp pe_dnewK fun σ H Q ⟨W, ev, st, o, e, h⟩ => by
  intro p hp
  obtain ⟨l, o'⟩ := o.grow (u := .dK []) hp
  exact h _ _ _ l o' ((.dic upd_same .nil))
inductive SPs (X : Cx) (Wx : WX) (pos : Pos) : List (Option Expr) → List Expr → List (ME × ME) → Prop
  | nil : SPs X Wx pos [] [] []
  | cons {k v : Expr} {ks : List (Option Expr)} {vs : List Expr} {mk mv : ME} {r : List (ME × ME)} : SE X Wx k mk → SE X Wx v mv → SPs X Wx pos ks vs r → SPs X Wx pos (some k :: ks) (v :: vs) ((mk, mv) :: r)
theorem SPs.pps {ks : List (Option Expr)} {vs : List Expr} {ps : List (ME × ME)} (h : SPs X Wx pos ks vs ps) : PPs X pos ks vs (ps.map fun p => (LE (cn X) Wx p.1, LE (cn X) Wx p.2)) := by
  induction h with
  | nil => exact pps_nil
  | cons h1 h2 _ ih => exact pps_cons h1 h2 ih
theorem pairs_ok {C : Cn} {σ : Sg} {ev : Ev} : ∀ {ps : List (ME × ME)} {W : Wd} {H : Hp} {st : Store} {R : List (V × V) → Hp → Prop}, WOk C W H st → EvR C W σ ev →
    Fin C (fun W' (qs : List (V × V)) (ds : List (Key × D)) => ∃ gs : List (Key × V), qs = gs.map (fun kv => (kV kv.1, kv.2)) ∧ RelKs C W' gs ds) W σ Wx R (pairsM ps ev st) → tPairs (ps.map fun p => (LE C Wx p.1, LE C Wx p.2)) σ H R
  | [], W, H, st, R, o, e, h => h [] H W (Wd.le.refl W) o ⟨[], rfl, .nil⟩
  | (mk, mv) :: r, W, H, st, R, o, e, h => lift2 (rel := RelD C) o e h fun x H1 kd W1 st1 l1 o1 r1 h1 => lift2 (rel := RelD C) o1 (e.mono l1) h1 fun y H2 vd W2 st2 l2 o2 r2 h2 => by
    cases ek : asKey kd with
    | none => rw [ek] at h2; exact h2.elim
    | some k =>
      rw [ek] at h2
      simp only at h2
      have h3 := fin_bind (rel := fun W' (qs : List (V × V)) (ds : List (Key × D)) => ∃ gs : List (Key × V), qs = gs.map (fun kv => (kV kv.1, kv.2)) ∧ RelKs C W' gs ds) h2
      refine pairs_ok (ps := r) o2 ((e.mono l1).mono l2) (h3.imp fun qs H4 ⟨ds, W4, st4, l4, o4, ⟨gs, eq, rg⟩, h4⟩ => ?_)
      have ex : x = kV k := asKey_ok r1 ek
      exact h4 _ H4 W4 (Wd.le.refl W4) o4 ⟨(k, y) :: gs, by rw [ex, eq]; rfl, .cons (r2.mono l4) rg⟩
theorem se_dict {ex : Store → D → Store → Res D} (hex : ExOk ex) {ks : List (Option Expr)} {vs : List Expr} {ps : List (ME × ME)} (h : SPs X Wx pos ks vs ps) (hall : ks.all (·.isSome) = true := by rfl) (hl : ks.length = vs.length := by rfl) (h0 : ks ≠ [] := by exact fun z => nomatch z) (h15 : ks.length ≤ 15 := by decide) : SE X Wx (.Dict ks vs pos) (eDictG ex ps) :=
  PE.imp (pe_disp h.pps hall hl h0 h15) fun σ H Q ⟨W, ev, st, o, e, q⟩ => by
    intro p hp
    obtain ⟨l1, o1⟩ := o.newCell (u := .dK []) (c := .dic []) hp ⟨o.same.free hp, [], upd_same, .nil⟩
    have hk : (W.al ++ [p])[st.length]? = some p := by rw [← o.len, List.getElem?_append_right (Nat.le_refl _)]; simp
    refine pairs_ok o1 (e.mono l1) ?_
    unfold eDictG at q
    cases z : pairsM ps ev (st ++ [.dic []]) with
    | stuck => simp only [z] at q; exact q.elim
    | exn x st' =>
      simp only [z] at q
      intro cls d H' W' l' o' ⟨A, dd, gs, h1, h2, h3, h4, h5⟩
      split at q
      · rename_i hc
        obtain ⟨l3, o3⟩ := o.cutTo (l1.trans l') o' hc.2
        exact q cls d H' _ l3 o3 ⟨A, dd, gs, h1, h2, h3, h4, h5.cut hc.1⟩
      · exact q.elim
    | ok kvs st' =>
      simp only [z] at q
      intro qs H' W' l' o' ⟨gs, eq, rg⟩
      have hk' := l'.at hk
      split at q
      · rename_i hc
        split at q
        · rename_i h15'
          obtain ⟨hg, hs, hv, rv⟩ := o'.cel st.length p _ hk' hc
          cases rv
          refine ⟨hv, gs, eq, by rw [rg.length]; exact h15', ?_⟩
          have rm := RelKs.merge rg (gs := []) (fs := []) .nil
          have o2 := o'.write (u := .dK (mergeK [] gs)) (c := .dic (mergeD [] kvs)) hk' hg ⟨hg, _, upd_same, rm⟩
          split at q
          · rename_i v st2 he
            obtain ⟨W2, l2, o2, r2⟩ := hex o (l1.trans l') o2 (.cl hk') he
            exact q _ _ W2 l2 o2 r2
          · exact q.elim
        · exact q.elim
      · exact q.elim
end

/-! ### the law's end -/
/-- the promise of the law's def: handed the script, it gives True -/
theorem law_goal {P : Program} {w : World} {K : PySem.W.Frag} {mg : Str → Option Value} {base : Heap} {k : Nat} {fa : Addr} {fd : FuncData} {x : Str} {m : List D → M D} (F : FnG P w K mg base k fa fd [x] (spM ⟨K, mg⟩ 1 m)) {a : Addr} {ns : List Int} {H : Hp}
    (hs : SqL K H a (ns.map V.int)) (hm : ∃ st', m [(.rl (ns.map D.int))] [] = .ok ((.bl true)) st') : spM ⟨K, mg⟩ 1 m [.ref a] H (fun v _ => v = .bl true) fun _ _ _ => False := by
  obtain ⟨st', e⟩ := hm
  refine ⟨⟨H, []⟩, _, [], rfl, ⟨Same.refl _, rfl, List.nodup_nil, fun k a c h => by simp at h⟩, .cons ((.rl hs (RelDs.of_ints ns))) .nil, ?_⟩
  rw [e]
  intro x H' W' l o r
  cases r; rfl
end Sim
end

section
/-! Sim 10: from the law's promise to the goal that the head leaves. -/
namespace Sim
open PySem PySem.Spec PyProof.Rows L2 RZ

theorem clr_caller : Clr callerA := rfl
section
variable {P : Program} {w : World} {K : PySem.W.Frag} {mg mb : Str → Option Value} {k : Nat} {fa a : Addr} {fd : FuncData} {x : Str} {m : List D → M D} {s1 : Shared} {vs : List Value} {ns : List Int}
/-- from a heap in which nothing but the script may be tracked -/
theorem law_from (kin : K.In s1.heap) (hg : s1.heap.Ns mainGlobals mg) (hb : s1.heap.Ns builtinsNs mb) (hbb : ∀ y : Str, y ≠ "__name__" → mb y = bootBuiltins y) (lim : s1.heap.NoLimit) (gen : s1.gens = #[])
    (ob : s1.heap.get? a = some { cls := .type "list", data := .seq vs.toArray }) (room : Room k callerA) (F : ∀ base : Heap, K.In base → base.Ns mainGlobals mg → FnG P w K mg base k fa fd [x] (spM ⟨K, mg⟩ 1 m))
    (bnd : ∀ (s : Shared) (u : Value), BindsTo s fd ⟨[u], []⟩ [(x, u)]) (hm : ∃ st', m [(.rl (ns.map D.int))] [] = .ok ((.bl true)) st') {H : Hp} (only : L2.Only H) (seq : SqL K H a (ns.map V.int)) (ok : HOk P w H s1.heap)
    (at_ : ∀ b, H b ≠ none → b = a) (noK : H a ≠ none → K.lookup a = none) :
    codeAny (model P w) callerA (.call (.ref fa) ⟨[.ref a], []⟩) (fun r s' => r = .ok (.ret (.bool true)) ∧ OldK s1.heap s'.heap ∧ s'.os = s1.os ∧ AllBare s'.gens) s1 := by
  have tracked : ∀ {b : Addr} {u : HO}, H b = some u → b = a := fun {b u} e => at_ b fun z => by rw [z] at e; cases e
  have under : ∀ {b : Addr} {o : Obj}, s1.heap.get? b = some o → H b = none → (hidT s1.heap H).get? b = some o := fun e n => hidT_get e n
  have undict : ∀ {b : Addr} {o : Obj} {es : Array DictEntry} {ep : Nat}, s1.heap.get? b = some o → o.data = .dict es ep → H b = none := fun {b o es ep} e d => by
    cases hq : H b with
    | none => rfl
    | some u =>
      have eb := tracked hq
      rw [eb, ob] at e
      injection e with e
      rw [← e] at d
      cases d
  have names : ∀ {b : Addr} {f : Str → Option Value}, s1.heap.Ns b f → (hidT s1.heap H).Ns b f := fun ⟨o, es, ep, e, d, r⟩ => ⟨o, es, ep, under e (undict e d), d, r⟩
  have kin' : K.In (hidT s1.heap H) := fun b o e => under (kin b o e) (by
    cases hq : H b with
    | none => rfl
    | some u =>
      have eb := tracked hq
      subst eb
      rw [noK (by rw [hq]; exact fun z => nomatch z)] at e
      cases e)
  have md : Mod K mg (hidT s1.heap H) := ⟨kin', names hg, ⟨mb, names hb, hbb⟩, by obtain ⟨mc, h1, h2⟩ := lim; exact ⟨mc, names h1, h2⟩⟩
  have nofr : ∀ b ∈ frs ([] : List Env), H b = none := fun b hb => by simp [frs] at hb
  have e0 : Env0 P w K mg (hidT s1.heap H) callerA [] s1 H := ⟨rfl, md, fun b o e => of_hidT e, Nat.le_of_eq (hidT_size _ _), trivial, nofr, ok, .of_eq gen⟩
  have run := (F _ kin' (names hg)).run callerA [] s1 H ⟨[.ref a], []⟩ [.ref a] [.ref a] (fun v _ => v = .bl true) (fun _ _ _ => False) clr_caller room e0 (bnd s1 (.ref a)) (.cons rfl .nil) (law_goal (F _ kin' (names hg)) seq hm)
  refine codeAny_mono run fun r s' h => ?_
  match r, h with
  | .error e, h =>
    obtain ⟨_, _, _, _, _, _, _, _, _, _, _, _, z⟩ := h
    exact z.elim
  | .ok .next, h => exact h.elim
  | .ok .brk, h => exact h.elim
  | .ok .cont, h => exact h.elim
  | .ok (.ret u), h =>
    obtain ⟨v, H', same, bare, un, ok', rv, e⟩ := h
    have e : v = .bl true := e
    rw [e] at rv
    have eu : u = Value.bool true := rv
    rw [eu]
    refine ⟨rfl, OldK.of_keep fun b o eb => ?_, same, bare⟩
    rcases only b with z | ⟨o2, xs, z⟩
    · exact un.keep b o eb z (by simp [frs]) (by simp)
    · obtain ⟨h1, _⟩ := ok b _ z
      obtain ⟨h2, _⟩ := ok' b _ (un.frzs b o2 _ z)
      rw [h1] at eb
      rw [← eb]
      exact h2
theorem law_runs (kin : K.In s1.heap) (hg : s1.heap.Ns mainGlobals mg) (hb : s1.heap.Ns builtinsNs mb) (hbb : ∀ y : Str, y ≠ "__name__" → mb y = bootBuiltins y) (lim : s1.heap.NoLimit) (gen : s1.gens = #[])
    (ob : s1.heap.get? a = some { cls := .type "list", data := .seq vs.toArray }) (isI : IntsAre vs ns) (few : ns.length ≤ sizeLine) (room : Room k callerA) (F : ∀ base : Heap, K.In base → base.Ns mainGlobals mg → FnG P w K mg base k fa fd [x] (spM ⟨K, mg⟩ 1 m))
    (bnd : ∀ (s : Shared) (u : Value), BindsTo s fd ⟨[u], []⟩ [(x, u)]) (hm : ∃ st', m [(.rl (ns.map D.int))] [] = .ok ((.bl true)) st') :
    codeAny (model P w) callerA (.call (.ref fa) ⟨[.ref a], []⟩) (fun r s' => r = .ok (.ret (.bool true)) ∧ OldK s1.heap s'.heap ∧ s'.os = s1.os ∧ AllBare s'.gens) s1 := by
  have rel := vals_ints isI
  cases hk : K.lookup a with
  | some o =>
    have e := kin a o hk
    rw [ob] at e
    injection e with e
    subst e
    refine law_from (H := fun _ => none) kin hg hb hbb lim gen ob room F bnd hm (fun _ => .inl rfl) (.inr ⟨_, vs.toArray, _, hk, rfl, rfl, rfl, ?_, ?_⟩) (fun b u z => nomatch z) (fun b z => absurd rfl z) fun z => absurd rfl z
    · rw [List.size_toArray, isI.length]; exact few
    · simpa using rel
  | none =>
    let S : HO := .frz { cls := .type "list", data := .seq vs.toArray } (.lst (ns.map V.int))
    have self : upd (fun _ => none) a S a = some S := upd_same
    refine law_from (H := upd (fun _ => none) a S) kin hg hb hbb lim gen ob room F bnd hm (fun b => ?_) (.inl (.inr ⟨_, self⟩)) (fun b u z => ?_) (fun b z => ?_) fun _ => hk
    · by_cases e : b = a
      · subst e; exact .inr ⟨_, _, self⟩
      · exact .inl (upd_ne e)
    · by_cases e : b = a
      · subst e
        rw [self] at z
        injection z with z
        subst z
        exact ⟨ob, by rw [List.length_map]; exact few, vs, _, rel, ob⟩
      · rw [upd_ne e] at z; cases z
    · by_cases e : b = a
      · exact e
      · exact absurd (upd_ne e) z
end
/-- the goal that k_head leaves, from the mirror of the law -/
theorem walkG {l : PySem.W.OpenLaw} {n k : Nat} {q : Program} {loose : List Str} {XP : (Str → Option Value) → Heap → Prop} {YP : World → Heap → Prop} {d : DefRec} {K : Params → PySem.W.Frag} {x : Str} {m : List D → M D}
    (most : l.most = some n) (few : n ≤ sizeLine) (nod : d.params.defaults = []) (room : Room k callerA) (kin : ∀ (w : World) (h : Heap), YP w h → (K w.params).In h)
    (F : ∀ (w : World) (mg : Str → Option Value) (fa : Addr) (h : Heap), (K w.params).In h → h.Ns mainGlobals mg → mg d.name = some (.ref fa) →
      ∃ fd : FuncData, (∀ (s : Shared) (u : Value), BindsTo s fd ⟨[u], []⟩ [(x, u)]) ∧ ∀ base : Heap, (K w.params).In base → base.Ns mainGlobals mg → FnG l.prog w (K w.params) mg base k fa fd [x] (spM ⟨K w.params, mg⟩ 1 m))
    (hm : ∀ ns : List Int, ns.length ≤ n → ∃ st', m [(.rl (ns.map D.int))] [] = .ok ((.bl true)) st') : PySem.W.WalkO q loose XP YP l.row.toRowW d [] (fun f vs => PySem.call f vs) :=
  Att.attach_call most nod fun w s0 s1 mg mb fa o pm cd doc a vs ns G Y ho hd hcd hmg hobj hints hlen hgen => by
    have k0 := kin w _ Y
    obtain ⟨fd, bnd, H⟩ := F w mg fa _ k0 G.T.g hmg
    exact law_runs k0 G.T.g G.T.b G.T.builtins G.T.nolimit hgen hobj hints (Nat.le_trans hlen few) room H bnd (hm ns hlen)
end Sim
namespace Sim
open PySem L2
theorem u65 {A : Around} {k : Nat} (hr : Room k A) : A.units + 65 < cLine := by have := hr.un; omega
end Sim
namespace Sim
open PySem PySem.Spec PyProof.Rows L2
theorem dfl_of {K : PySem.W.Frag} {t : Addr} {dvs : List V} (h : ∃ (od : Option Addr) (its : List Value) (n : Nat) (sl : Array (Option Value)), K.lookup t = some ⟨.type "tuple", od, .seq its.toArray n, sl⟩ ∧ Vals dvs its) (hd : dvs ≠ []) : DflV K (.ref t) dvs := by
  obtain ⟨od, its, n, sl, h1, h2⟩ := h
  exact .inr ⟨hd, t, _, its, n, rfl, h1, rfl, h2⟩
end Sim
end

section
/-! Sim 11: instances of own classes: fields, making, methods. -/
namespace Sim
open PySem PySem.Spec PyProof.Rows L2 RZ

/-- a statement, an expression that is never reached -/
def sStuck : MS := fun _ _ => .stuck
theorem ss_stuck {X : Cx} {Wx : WX} {s : Stmt} : SS X Wx s sStuck := ⟨fun pins s σ H D I ⟨W, ev, st, o, e, h⟩ => h.elim⟩
def eStuck : ME := fun _ _ => .stuck
theorem se_stuck {X : Cx} {Wx : WX} {e : Expr} : SE X Wx e eStuck := ⟨fun pins s σ H Q I ⟨W, ev, st, o, e, h⟩ => h.elim⟩

/-! ### the fields as pairs -/
def putFD (f : Str) (d : D) : List (Str × D) → List (Str × D)
  | [] => [(f, d)]
  | (g, x) :: r => if g = f then (g, d) :: r else (g, x) :: putFD f d r
section
variable {C : Cn} {W : Wd}
theorem RelFs.put {f : Str} {v : V} {d : D} (h : RelD C W v d) : ∀ {gs : List (Str × V)} {fs : List (Str × D)}, RelFs C W gs fs → RelFs C W (putF f v gs) (putFD f d fs)
  | _, _, .nil => .cons h .nil
  | _, _, .cons (f := g) h1 r => by
    unfold putF putFD
    by_cases e : g = f
    · rw [if_pos e, if_pos e]; exact .cons h r
    · rw [if_neg e, if_neg e]; exact .cons h1 (RelFs.put h r)
theorem RelFs.look {f : Str} {d : D} : ∀ {gs : List (Str × V)} {fs : List (Str × D)}, RelFs C W gs fs → fs.lookup f = some d → ∃ v, gs.lookup f = some v ∧ RelD C W v d
  | _, _, .nil, e => by cases e
  | _, _, .cons (f := g) (v := v) h1 r, e => by
    rw [List.lookup_cons] at e
    cases q : f == g with
    | true =>
      rw [q] at e
      cases e
      exact ⟨v, by rw [List.lookup_cons, q], h1⟩
    | false =>
      rw [q] at e
      obtain ⟨v', h2, h3⟩ := RelFs.look r e
      exact ⟨v', by rw [List.lookup_cons, q]; exact h2, h3⟩
theorem RelFs.lookN {f : Str} : ∀ {gs : List (Str × V)} {fs : List (Str × D)}, RelFs C W gs fs → fs.lookup f = none → gs.lookup f = none
  | _, _, .nil, _ => rfl
  | _, _, .cons (f := g) h1 r, e => by
    rw [List.lookup_cons] at e ⊢
    cases q : f == g with
    | true => rw [q] at e; cases e
    | false => rw [q] at e; exact RelFs.lookN r e
theorem RelFs.length : ∀ {gs : List (Str × V)} {fs : List (Str × D)}, RelFs C W gs fs → gs.length = fs.length
  | _, _, .nil => rfl
  | _, _, .cons _ r => congrArg (· + 1) (RelFs.length r)
end
/-- an instance: its class, its fields -/
def insV (st : Store) : D → Option (Str × List (Str × D))
  | .ins c fs => some (c, fs)
  | .cl k => match st[k]? with | some (.ins c fs) => some (c, fs) | _ => none
  | _ => none
theorem insV_ok {C : Cn} {W : Wd} {H : Hp} {st : Store} {v : D} {x : V} {c : Str} {fs : List (Str × D)} (o : WOk C W H st) (r : RelD C W x v) (e : insV st v = some (c, fs)) :
    ∃ a A dx gs, x = .ref a ∧ C.mg c = some (.ref A) ∧ H a = some (.ins A dx gs) ∧ RelFs C W gs fs := by
  cases r with
  | cl hk =>
    simp only [insV] at e
    split at e
    · rename_i c' fs' h
      cases e
      obtain ⟨a, e', ha, hg, A, dx, gs, hm, hv, rv⟩ := cell_of o (.cl hk) h
      exact ⟨a, A, dx, gs, e', hm, hv, rv⟩
    · cases e
  | ins hm h rv => cases e; exact ⟨_, _, _, _, rfl, hm, o.same _ _ h, rv⟩
  | _ => cases e
/-- which fields of which classes may be asked for -/
def FldT (K : PySem.W.Frag) (mg : Str → Option Value) (tb : List (Str × Str)) : Prop := ∀ c f, (c, f) ∈ tb → ∀ A, mg c = some (.ref A) → Cls K A ∧ NoAttr K A f
def gFld (tb : List (Str × Str)) (f : Str) (v : D) : O D := fun st => match insV st v with
  | some (c, fs) => if (c, f) ∈ tb then (fs.lookup f).map fun d => (d, st) else none
  | none => none
/-- o.f = v, o a cell -/
def gSetF (tb : List (Str × Str)) (f : Str) (o v : D) : O Unit := fun st => match o with
  | .cl k => (match st[k]? with
    | some (.ins c fs) => if (c, f) ∈ tb ∧ fs.length < 1000 then some ((), st.set k (.ins c (putFD f v fs))) else none
    | _ => none)
  | _ => none
def sSetF (tb : List (Str × Str)) (f : Str) (mo mv : ME) : MS := sBind mv fun v => sBind mo fun o => sBind (fun _ => M.of (gSetF tb f o v)) fun _ => sPass
section
variable {X : Cx} {Wx : WX} {tb : List (Str × Str)} {e eo ev : Expr} {f : Str} {pos pos' : Pos} {m mo mv : ME}
theorem se_fld (hT : FldT X.K X.mg tb) (ha : SE X Wx e m) (hb : attributeBase e f X.env (eval e X.env) = eval e X.env := by rfl) : SE X Wx (.Attribute e f pos) (eUn (gFld tb f) m) :=
  PE.imp (pe_fld ha hb) fun σ H Q h => lift1 h fun x H1 v W st ev o e r q => by
    have q := fin_of q
    unfold gFld at q
    cases z : insV st v with
    | none => rw [z] at q; exact q.elim
    | some w =>
      obtain ⟨c, fs⟩ := w
      rw [z] at q
      simp only at q
      split at q
      · rename_i hm
        obtain ⟨a, A, dx, gs, rfl, hA, hv, rv⟩ := insV_ok o r z
        obtain ⟨cl, na⟩ := hT c f hm A hA
        cases l : fs.lookup f with
        | none => rw [l] at q; exact q.elim
        | some d =>
          rw [l] at q
          obtain ⟨y, hy, ry⟩ := rv.look l
          exact ⟨a, A, dx, gs, y, rfl, hv, cl, na, hy, q y H1 W (Wd.le.refl W) o ry⟩
      · exact q.elim
theorem ss_setF (hT : FldT X.K X.mg tb) (ho : SE X Wx eo mo) (hv : SE X Wx ev mv) (hs : swapsWith ev (some (.Attribute eo f pos')) pos.line X.env = pure false := by rfl) : SS X Wx (.Assign [.Attribute eo f pos'] ev pos) (sSetF tb f mo mv) :=
  PS.imp (ps_fld ho hv hs) fun D σ H h => ls_bind h fun y H1 v W st en o ee r q =>
    ls_bind2 (rel := RelD (cn X)) o ee q fun x H2 vo W2 st2 l2 o2 r2 q2 => by
      cases zz : gSetF tb f vo v st2 with
      | none => simp only [sBind, M.of, zz] at q2; exact q2.elim
      | some u =>
        obtain ⟨_, st4⟩ := u
        simp only [sBind, M.of, zz] at q2
        unfold gSetF at zz
        split at zz
        · rename_i k
          split at zz
          · rename_i c fs hc
            split at zz
            · rename_i hm
              cases zz
              obtain ⟨a, rfl, ha, hg, A, dx, gs, hA, hv', rv⟩ := cell_of o2 r2 hc
              obtain ⟨cl, na⟩ := hT c f hm.1 A hA
              refine ⟨a, A, dx, gs, rfl, hv', cl, na, by rw [rv.length]; exact hm.2, ?_⟩
              exact q2 σ _ W2 (Wd.le.refl W2) (o2.write ha hg ⟨hg, A, dx, _, hA, upd_same, rv.put (r.mono l2)⟩) (ee.mono l2)
            · cases zz
          · cases zz
        · cases zz
end

/-! ### making -/
def makeM (c : Str) (n k N : Nat) (dfl : List D) (perm : List Nat) (m : List D → M D) (vs zs : List D) : M D := fun st =>
  if vs.length = n ∧ zs.length = k ∧ (arrOf perm (.cl st.length :: vs) dfl zs).length = N then
    (match m (arrOf perm (.cl st.length :: vs) dfl zs) (st ++ [.ins c []]) with
    | .ok .non st2 => .ok (.cl st.length) st2
    | .exn e st2 => .exn e st2
    | _ => .stuck)
  else .stuck
def eMake (c : Str) (n k N : Nat) (dfl : List D) (perm : List Nat) (m : List D → M D) (as ks : MA) : ME := fun ev => (as ev).bind fun vs => (ks ev).bind fun zs => makeM c n k N dfl perm m vs zs
section
variable {X : Cx} {Wx : WX} {k n j N : Nat} {f A : Addr} {c : Str} {fd : FuncData} {ps ks : List Str} {dvs : List V} {dfl : List D} {perm : List Nat} {m : List D → M D} {ma mk : MA} {p pos : Pos} {e : Expr} {es : List Expr} {kws : List Keyword}
theorem run_makeG {sp : Sp} {pins : List (Addr × Obj)} {σ : Sg} {H : Hp} {s : Shared} {Q : VK} {us : List Value} {kw : List (Str × Value)} {us' : List Value} {vs' : List V} (M : Mk X.K A f) (F : FnG X.prog X.w X.K X.mg X.base k f fd ps sp) (hc : Clr X.A) (hr : Room (k + 1) X.A) (tk : Takes X Wx)
    (I : Inv X pins σ H s) (hb : ∀ s', X.K.In s'.heap → BindsTo s' fd ⟨.ref (s.heap.objs.size + 1) :: us, kw⟩ (ps.zip us')) (r : Vals vs' us')
    (h : sp vs' (upd (upd H s.heap.objs.size (.own (s.heap.objs.size + 1))) (s.heap.objs.size + 1) (.ins A s.heap.objs.size [])) (fun v H2 => v = .non ∧ Q (.ref (s.heap.objs.size + 1)) H2) fun cls d H' => Wx cls d σ H') :
    wpAny (model X.prog X.w) X.A (call (.ref A) us kw) (EP X pins σ Q) X.xe s := by
  have I2 := Inv.made (C := A) I
  refine wpAny_call (make_map (f := f) I.kIn M.makes M.init (beq_iff_eq.mp M.fn) (codeAny_mono (F.run _ X.stack _ _ ⟨Value.ref (s.heap.objs.size + 1) :: us, kw⟩ us' vs' _ _ (hc.make A us kw) (hr.make A us kw) (I2.env0.make A us kw) (hb _ I2.kIn) r h) fun rs s' hq' => ?_))
  match rs, hq' with
  | .error e, hq' => exact pass_at tk pins _ _ e s' I2 hq'
  | .ok (.ret u), hq' =>
    obtain ⟨v, H', I3, rv, ev, q3⟩ := I2.after hq'
    subst ev
    exact ⟨rv, ⟨V.ref (s.heap.objs.size + 1), H', I3, rfl, q3⟩⟩
  | .ok .next, hq' => exact False.elim hq'
  | .ok .brk, hq' => exact False.elim hq'
  | .ok .cont, hq' => exact False.elim hq'
theorem make_core {pins : List (Addr × Obj)} {σ : Sg} {H : Hp} {s : Shared} {Q : VK} {us ws : List Value} {vs zs : List V} {as bs : List D} {W : Wd} {st : Store} (M : Mk X.K A f) (hA : X.mg c = some (.ref A)) (F : FnG X.prog X.w X.K X.mg X.base k f fd ps (spM (cn X) N m)) (hc : Clr X.A) (hr : Room (k + 1) X.A) (tk : Takes X Wx)
    (hb : Bd X.K fd ps (n + 1) ks dvs perm) (hd : ∀ W, RelDs (cn X) W dvs dfl) (I : Inv X pins σ H s) (r1 : Vals vs us) (r2 : Vals zs ws) (o : WOk (cn X) W H st) (q1 : RelDs (cn X) W vs as) (q2 : RelDs (cn X) W zs bs)
    (h : Fin (cn X) (RelD (cn X)) W σ Wx Q (makeM c n ks.length N dfl perm m as bs st)) : wpAny (model X.prog X.w) X.A (call (.ref A) us (ks.zip ws)) (EP X pins σ Q) X.xe s := by
  obtain ⟨its, rd, bind⟩ := hb
  unfold makeM at h
  split at h
  · rename_i hl
    have l1 : us.length = n := by rw [← r1.length, q1.length]; exact hl.1
    have l2 : ws.length = ks.length := by rw [← r2.length, q2.length]; exact hl.2.1
    have hx : H (s.heap.objs.size + 1) = none := I.hok.fresh (Nat.le_succ _)
    have hdx : H s.heap.objs.size = none := I.hok.fresh (Nat.le_refl _)
    have hne : s.heap.objs.size + 1 ≠ s.heap.objs.size := Nat.succ_ne_self _
    obtain ⟨l3, o3⟩ := o.grow (u := .own (s.heap.objs.size + 1)) hdx
    have hx' : upd H s.heap.objs.size (.own (s.heap.objs.size + 1)) (s.heap.objs.size + 1) = none := by rw [upd_ne hne]; exact hx
    obtain ⟨l4, o4⟩ := o3.newCell (u := .ins A s.heap.objs.size []) (c := .ins c []) hx' ⟨o3.same.free hx', A, s.heap.objs.size, [], hA, upd_same, .nil⟩
    have l34 := l3.trans l4
    have self : RelD (cn X) ⟨upd W.G s.heap.objs.size (.own (s.heap.objs.size + 1)), W.al ++ [s.heap.objs.size + 1]⟩ (.ref (s.heap.objs.size + 1)) (.cl st.length) := .cl (by
      show (W.al ++ [s.heap.objs.size + 1])[st.length]? = _
      rw [← o.len, List.getElem?_append_right (Nat.le_refl _)]; simp)
    refine run_makeG (us' := arrOf perm (.ref (s.heap.objs.size + 1) :: us) its ws) (vs' := arrOf perm (.ref (s.heap.objs.size + 1) :: vs) dvs zs) M F hc hr tk I (fun s' k' => bind s' (.ref (s.heap.objs.size + 1) :: us) ws k' (by rw [List.length_cons, l1]) l2) (arrOf_rel (.cons (show RelV (V.ref _) (Value.ref _) from rfl) r1) rd r2 perm) ?_
    refine ⟨_, arrOf perm (.cl st.length :: as) dfl bs, _, hl.2.2, o4, .of (arrOf_rel (RelDs.paired (.cons self (q1.mono l34))) (hd _).paired (q2.mono l34).paired perm), ?_⟩
    cases q : m (arrOf perm (.cl st.length :: as) dfl bs) (st ++ [.ins c []]) with
    | stuck => rw [q] at h; exact h.elim
    | exn e st2 =>
      rw [q] at h
      exact fun cls d H' W' l' o' r' => h cls d H' W' (l34.trans l') o' r'
    | ok v st2 =>
      rw [q] at h
      cases v with
      | non =>
        intro x H' W' l' o' r'
        cases r'
        exact ⟨rfl, h _ H' W' (l34.trans l') o' (self.mono l')⟩
      | _ => exact h.elim
  · exact h.elim
/-- C(e, .., k = v, ..) -/
theorem se_make (M : Mk X.K A f) (F : FnG X.prog X.w X.K X.mg X.base k f fd ps (spM (cn X) N m)) (hc : Clr X.A) (hr : Room (k + 1) X.A) (tk : Takes X Wx) (hm : X.mg c = some (.ref A)) (hb : Bd X.K fd ps (n + 1) ks dvs perm) (hd : ∀ W, RelDs (cn X) W dvs dfl)
    (ha : SA X Wx (e :: es) ma) (hk : SK X Wx kws mk) (hkn : ks.length = j := by rfl) (hg : Gl X c := by rfl) (hall : (backToKw pos (keywordEach kws X.env)).all (·.1.isSome) = true := by rfl) (hks : (backToKw pos (keywordEach kws X.env)).filterMap (·.1) = ks := by rfl)
    (hdb : (c == ("__debug__" : Str)) = false := by decide) (he : starEach (e :: es) X.env = (false, eval e X.env) :: starEach es X.env := by rfl)
    (hpl : ((backTo pos (starEach (e :: es) X.env)).any (·.1) || (backToKw pos (keywordEach kws X.env)).any (·.1.isNone)) = false := by rfl) :
    SE X Wx (.Call (.Name c p) (e :: es) kws pos) (eMake c n j N dfl perm m ma mk) := by
  subst hkn
  refine ⟨fun pins s σ H Q I h => ?_⟩
  refine wpAny_Call_Name_kw (ld_glob I hg hm (PySem.W.callWith_KW (h₀ := X.base) I.ok.mod.kin M.kp hall ?_ hpl he) hdb)
  have h2 := lift_all (R := fun vs zs H2 => ∃ W st as bs, WOk (cn X) W H2 st ∧ RelDs (cn X) W vs as ∧ RelDs (cn X) W zs bs ∧ Fin (cn X) (RelD (cn X)) W σ Wx Q (makeM c n ks.length N dfl perm m as bs st)) h
    fun vs zs H2 W st as bs o q1 q2 q => ⟨W, st, as, bs, o, q1, q2, q⟩
  refine thn (ha.run pos pins s σ H _ I h2) fun us s1 ⟨vs, H1, I1, r1, q1⟩ => ?_
  refine thn (hk.run pos pins s1 σ H1 _ I1 q1) fun ws s2 ⟨zs, H2, I2, r2, W, st, as, bs, o, a1, a2, q⟩ => ⟨I2.kIn, ?_⟩
  rw [hks]
  exact make_core M hm F hc hr tk hb hd I2 r1 r2 o a1 a2 q
/-- C(k = v, ..) -/
theorem se_makek (M : Mk X.K A f) (F : FnG X.prog X.w X.K X.mg X.base k f fd ps (spM (cn X) N m)) (hc : Clr X.A) (hr : Room (k + 1) X.A) (tk : Takes X Wx) (hm : X.mg c = some (.ref A)) (hb : Bd X.K fd ps (0 + 1) ks dvs perm) (hd : ∀ W, RelDs (cn X) W dvs dfl)
    (hk : SK X Wx kws mk) (hkn : ks.length = j := by rfl) (hg : Gl X c := by rfl) (hall : (backToKw pos (keywordEach kws X.env)).all (·.1.isSome) = true := by rfl) (hks : (backToKw pos (keywordEach kws X.env)).filterMap (·.1) = ks := by rfl)
    (hdb : (c == ("__debug__" : Str)) = false := by decide) (hpl : ((backTo pos (starEach [] X.env)).any (·.1) || (backToKw pos (keywordEach kws X.env)).any (·.1.isNone)) = false := by rfl) :
    SE X Wx (.Call (.Name c p) [] kws pos) (eMake c 0 j N dfl perm m aNil mk) := by
  subst hkn
  refine ⟨fun pins s σ H Q I h => ?_⟩
  refine wpAny_Call_Name_kw (ld_glob I hg hm (PySem.W.callWith_KW0 (h₀ := X.base) I.ok.mod.kin M.kp hall ?_ hpl) hdb)
  have h2 := lift_all (R := fun vs zs H2 => ∃ W st as bs, WOk (cn X) W H2 st ∧ RelDs (cn X) W vs as ∧ RelDs (cn X) W zs bs ∧ Fin (cn X) (RelD (cn X)) W σ Wx Q (makeM c 0 ks.length N dfl perm m as bs st)) h
    fun vs zs H2 W st as bs o q1 q2 q => ⟨W, st, as, bs, o, q1, q2, q⟩
  obtain ⟨W0, ev0, st0, o0, e0, h3⟩ := h2
  have h4 := h3 [] H W0 (Wd.le.refl W0) o0 .nil
  refine thn (hk.run pos pins s σ H _ I h4) fun ws s2 ⟨zs, H2, I2, r2, W, st, as, bs, o, a1, a2, q⟩ => ⟨I2.kIn, ?_⟩
  rw [hks]
  exact make_core M hm F hc hr tk hb hd I2 .nil r2 o a1 a2 q
end

/-! ### methods -/
/-- o.m(..), o an instance of c -/
def eMeth (c mn : Str) (n k N : Nat) (dfl : List D) (perm : List Nat) (m : List D → M D) (mo : ME) (as ks : MA) : ME := fun ev => (mo ev).bind fun x => fun st => match insV st x with
  | some (c', fs) => if c' = c ∧ fs.lookup mn = none then ((as ev).bind fun vs => (ks ev).bind fun zs =>
      if vs.length = n ∧ zs.length = k ∧ (arrOf perm (x :: vs) dfl zs).length = N then m (arrOf perm (x :: vs) dfl zs) else fun _ => .stuck) st else .stuck
  | none => .stuck
section
variable {X : Cx} {Wx : WX} {k n j N : Nat} {f A : Addr} {c mn : Str} {fd : FuncData} {ps ks : List Str} {dvs : List V} {dfl : List D} {perm : List Nat} {m : List D → M D} {mo : ME} {ma mk : MA} {apos pos : Pos} {o e : Expr} {es : List Expr} {kws : List Keyword}
theorem se_meth {pl : Sem Bool} (ho : SE X Wx o mo) (hA : X.mg c = some (.ref A)) (cl : Cls X.K A) (hm : Meth X.K A mn f) (F : FnG X.prog X.w X.K X.mg X.base k f fd ps (spM (cn X) N m)) (hc : Clr X.A) (hr : Room k X.A) (tk : Takes X Wx) (hb : Bd X.K fd ps (n + 1) ks dvs perm) (hd : ∀ W, RelDs (cn X) W dvs dfl)
    (ha : SA X Wx (e :: es) ma) (hk : SK X Wx kws mk) (hkn : ks.length = j := by rfl) (hall : (backToKw pos (keywordEach kws X.env)).all (·.1.isSome) = true := by rfl) (hks : (backToKw pos (keywordEach kws X.env)).filterMap (·.1) = ks := by rfl)
    (he : starEach (e :: es) X.env = (false, eval e X.env) :: starEach es X.env := by rfl)
    (hpl : ((backTo pos (starEach (e :: es) X.env)).any (·.1) || (backToKw pos (keywordEach kws X.env)).any (·.1.isNone)) = false := by rfl)
    (ht : eval (.Call (.Attribute o mn apos) (e :: es) kws pos) X.env = (do
      let ov ← eval o X.env
      standAt apos.atName
      let (f, first) ← holding [ov] (getMethod ov mn pl)
      callWith pos f first (backTo pos (starEach (e :: es) X.env)) (backToKw pos (keywordEach kws X.env))) := by rfl) :
    SE X Wx (.Call (.Attribute o mn apos) (e :: es) kws pos) (eMeth c mn n j N dfl perm m mo ma mk) := by
  subst hkn
  refine ⟨fun pins s σ H Q I h => ?_⟩
  have h1 : LE (cn X) Wx mo σ H fun x H1 => ∃ a dx gs, x = .ref a ∧ H1 a = some (.ins A dx gs) ∧ gs.lookup mn = none ∧ LA (cn X) Wx ma σ H1 fun vs H2 => LA (cn X) Wx mk σ H2 fun zs H3 =>
      ∃ W st xd as bs, WOk (cn X) W H3 st ∧ RelD (cn X) W x xd ∧ RelDs (cn X) W vs as ∧ RelDs (cn X) W zs bs ∧ Fin (cn X) (RelD (cn X)) W σ Wx Q ((if as.length = n ∧ bs.length = ks.length ∧ (arrOf perm (xd :: as) dfl bs).length = N then m (arrOf perm (xd :: as) dfl bs) else fun _ => .stuck) st) :=
    lift1 h fun x H1 v W st ev o ee r q => by
      replace q : Fin (cn X) (RelD (cn X)) W σ Wx Q (match insV st v with
        | some (c', fs) => if c' = c ∧ fs.lookup mn = none then ((ma ev).bind fun vs => (mk ev).bind fun zs => if vs.length = n ∧ zs.length = ks.length ∧ (arrOf perm (v :: vs) dfl zs).length = N then m (arrOf perm (v :: vs) dfl zs) else fun _ => .stuck) st else .stuck
        | none => .stuck) := q
      cases z : insV st v with
      | none => rw [z] at q; exact q.elim
      | some w =>
        obtain ⟨c', fs⟩ := w
        rw [z] at q
        simp only at q
        split at q
        · rename_i hcc
          obtain ⟨rfl, hl⟩ := hcc
          obtain ⟨a, A', dx, gs, rfl, hA', hv, rv⟩ := insV_ok o r z
          have eA : A' = A := by
            have q2 : X.mg c' = some (.ref A') := hA'
            rw [hA] at q2; cases q2; rfl
          subst eA
          refine ⟨a, dx, gs, rfl, hv, rv.lookN hl, lift2 (rel := RelDs (cn X)) o ee q fun vs H2 as W2 st2 l2 o2 r2 q2 => lift2 (rel := RelDs (cn X)) o2 (ee.mono l2) q2 fun zs H3 bs W3 st3 l3 o3 r3 q3 => ⟨W3, st3, v, as, bs, o3, (r.mono l2).mono l3, r2.mono l3, r3, q3⟩⟩
        · exact q.elim
  refine PySem.W.methodCall_KW (pl := pl) (thn (ho.run pins s σ H _ I h1) fun u s1 ⟨x, H1, I1, rx, a, dx, gs, ex, ea, l, q⟩ => ?_) ht
  subst ex
  obtain rfl : u = Value.ref a := rx
  refine getmeth_ok I1 ea cl hm l ?_
  refine PySem.W.callWith_KW (first := [.ref a]) (h₀ := X.base) I1.ok.mod.kin hm.kp hall ?_ hpl he
  refine thn (ha.run pos pins s1 σ H1 _ I1 q) fun us s2 ⟨vs, H2, I2, r1, q2⟩ => ?_
  refine thn (hk.run pos pins s2 σ H2 _ I2 q2) fun ws s3 ⟨zs, H3, I3, r2, W, st, xd, as, bs, o, rx, a1, a2, q⟩ => ⟨I3.kIn, ?_⟩
  rw [hks]
  have q : Fin (cn X) (RelD (cn X)) W σ Wx Q ((if (xd :: as).length = n + 1 ∧ bs.length = ks.length ∧ (arrOf perm (xd :: as) dfl bs).length = N then m (arrOf perm (xd :: as) dfl bs) else fun _ => .stuck) st) := by
    simpa only [List.length_cons, Nat.succ.injEq, Nat.add_right_cancel_iff] using q
  exact call_core (us := .ref a :: us) (vs := .ref a :: vs) F hc hr tk hb hd I3 (.cons rfl r1) r2 o (.cons rx a1) a2 q
end
end Sim
end

section
/-! Sim 12: chains of comparisons, isinstance of own classes, an own ==. -/
namespace Sim
open PySem PySem.Spec PyProof.Rows L2 RZ

/-! ### a op b op c -/
def eChain (g g' : D → D → O D) (ma mb mc : ME) : ME := fun ev => (ma ev).bind fun x => (mb ev).bind fun y => (M.of (g x y)).bind fun z => (asB z).bind fun k => if k = true then (mc ev).bind fun w => M.of (g' y w) else fun st => .ok (.bl false) st
section
variable {X : Cx} {Wx : WX} {e a b c : Expr} {pos : Pos} {ma mb mc : ME}
theorem le_chain {g g' : D → D → O D} {C : Cn} {σ : Sg} {H : Hp} {Q : VK} (h : LE C Wx (eChain g g' ma mb mc) σ H Q) : tChain (R2of C g) (R2of C g') (LE C Wx ma) (LE C Wx mb) (LE C Wx mc) σ H Q :=
  lift1 h fun x H1 a W st ev o e r h1 => lift2 (rel := RelD C) o e h1 fun y H2 b W' st' l o' r' h2 => by
    refine ⟨W', st', a, b, o', r.mono l, r', ?_⟩
    have h3 := fin_of (fin_bind (rel := RelD C) h2)
    cases q : g a b st' with
    | none => rw [q] at h3; exact h3.elim
    | some w =>
      obtain ⟨z, st2⟩ := w
      rw [q] at h3
      intro zv H3 W3 l3 o3 rz
      obtain ⟨z2, W4, st4, l4, o4, rz2, h4⟩ := h3 zv H3 W3 l3 o3 rz
      have h5 := fin_bind (rel := relB) h4
      obtain ⟨k, ek, bk, W5, st5, l5, o5, rb, h6⟩ := fin_asB o4 rz2 h5
      have rb' : k = bk := rb
      subst rb'
      refine ⟨k, ek, ?_⟩
      cases k with
      | false =>
        refine iteF ?_
        exact h6 _ H3 W5 (Wd.le.refl W5) o5 (.bl _)
      | true =>
        refine iteT ?_
        exact lift2 (rel := RelD C) o5 (((e.mono l).mono l4).mono l5) h6 fun w' H4 wd W6 st6 l6 o6 r6 h7 => ⟨W6, st6, b, wd, o6, ((r'.mono l4).mono l5).mono l6, r6, fin_of h7⟩
theorem se_chain {op op' : CmpOp} {g g' : D → D → O D} (ho : OpR X (compareOp op) (R2of (cn X) g)) (ho' : OpR X (compareOp op') (R2of (cn X) g')) (ha : SE X Wx a ma) (hb : SE X Wx b mb) (hc : SE X Wx c mc) (hm : lastMarks [op, op'] [b, c] = false := by with_unfolding_all rfl) :
    SE X Wx (.Compare a [op, op'] [b, c] pos) (eChain g g' ma mb mc) := PE.imp (pe_chain ho ho' ha hb hc hm) fun _ _ _ => le_chain
theorem st_chain {op op' : CmpOp} {g g' : D → D → O D} (ho : OpR X (compareOp op) (R2of (cn X) g)) (ho' : OpR X (compareOp op') (R2of (cn X) g')) (ha : SE X Wx a ma) (hb : SE X Wx b mb) (hc : SE X Wx c mc) (hm : lastMarks [op, op'] [b, c] = false := by with_unfolding_all rfl) :
    STt X Wx (.Compare a [op, op'] [b, c] pos) (tV (eChain g g' ma mb mc)) := by
  refine PT.imp (pt_chain ho ho' ha hb hc hm) fun σ H Q h => ?_
  have h : Lift (cn X) relB Wx (fun ev => (eChain g g' ma mb mc ev).bind asB) σ H Q := h
  have h2 : LE (cn X) Wx (eChain g g' ma mb mc) σ H (fun x H1 => ∃ k, x = .bl k ∧ Q k H1) := lift1 h fun x H1 v W st ev o e r q => fin_asB o r q
  exact le_chain h2
end

/-! ### isinstance of own classes -/
/-- a value's class: a built-in's name, or an own class -/
def clsV (st : Store) (v : D) : Option (String ⊕ Str) := match insV st v with
  | some (c, _) => some (.inr c)
  | none => (tyV st v).map .inl
/-- a class as a value -/
def clsD : D → Option (String ⊕ Str)
  | .ty n => some (.inl n)
  | .glob c => some (.inr c)
  | _ => none
def clsDs : List D → Option (List (String ⊕ Str))
  | [] => some []
  | d :: r => match clsD d, clsDs r with
    | some a, some b => some (a :: b)
    | _, _ => none
/-- the answers that are known: (class, class, answer) -/
abbrev KitTb := List ((String ⊕ Str) × (String ⊕ Str) × Bool)
def clsA (mg : Str → Option Value) : String ⊕ Str → Option Value
  | .inl n => some (.type n)
  | .inr c => mg c
/-- .. and true of the text -/
def KitOk (K : PySem.W.Frag) (mg : Str → Option Value) (tb : KitTb) : Prop := ∀ a b k, (a, b, k) ∈ tb → ∀ t u, clsA mg a = some t → clsA mg b = some u → PySem.W.kitOne K t u = some k
/-- what an own class must have that its instances may be asked -/
structure InsC (K : PySem.W.Frag) (A : Addr) : Prop where
  cl : Cls K A
  ha : PySem.W.findIn K (.ref A) "__class__" = some (some (.builtin "object.__class__"))
  hn : PySem.W.specialIn K (.builtin "object.__class__") "__get__" = some (some (.builtin "getset_descriptor.__get__"))
  ht : PySem.W.takesIn K (.builtin "object.__class__") = some true
  hm : PySem.W.mroIn K A (.type "object") = some true
def InsT (K : PySem.W.Frag) (mg : Str → Option Value) (cs : List Str) : Prop := ∀ c ∈ cs, ∀ A, mg c = some (.ref A) → InsC K A
def kitFind (tb : KitTb) (a b : String ⊕ Str) : Option Bool := (tb.find? fun x => decide (x.1 = a) && decide (x.2.1 = b)).map (·.2.2)
def kitFindAny (tb : KitTb) (a : String ⊕ Str) : List (String ⊕ Str) → Option Bool
  | [] => some false
  | b :: r => match kitFind tb a b with
    | some true => some true
    | some false => kitFindAny tb a r
    | none => none
theorem kitFind_mem {tb : KitTb} {a b : String ⊕ Str} {k : Bool} (h : kitFind tb a b = some k) : (a, b, k) ∈ tb := by
  unfold kitFind at h
  obtain ⟨x, hx, rfl⟩ := Option.map_eq_some_iff.mp h
  have hm := List.mem_of_find?_eq_some hx
  have hp := List.find?_some hx
  simp only [Bool.and_eq_true, decide_eq_true_eq] at hp
  obtain ⟨x1, x2, x3⟩ := x
  obtain ⟨rfl, rfl⟩ := hp
  exact hm
def okC (cs : List Str) : String ⊕ Str → Bool
  | .inr x => decide (x ∈ cs)
  | .inl _ => true
def gIsI (cs : List Str) (tb : KitTb) (vs : List D) : O D := fun st => match vs with
  | [v, c] => (match clsV st v with
    | some a => if okC cs a = true then (match clsD c with
      | some b => (kitFind tb a b).map fun k => (.bl k, st)
      | none => (match c with
        | .tup ts => (match clsDs ts with
          | some bs => (kitFindAny tb a bs).map fun k => (.bl k, st)
          | none => none)
        | _ => none)) else none
    | none => none)
  | _ => none
section
variable {C : Cn} {W : Wd} {H : Hp} {st : Store}
theorem clsV_ok {cs : List Str} {v : D} {x : V} {a : String ⊕ Str} (hI : InsT C.K C.mg cs) (o : WOk C W H st) (r : RelD C W x v) (h : clsV st v = some a) (hc : okC cs a = true) : ∃ t, clsA C.mg a = some t ∧ TyX C.K H x t := by
  unfold clsV at h
  cases z : insV st v with
  | some w =>
    obtain ⟨c, fs⟩ := w
    rw [z] at h
    cases h
    obtain ⟨p, A, dx, gs, rfl, hA, hv, rv⟩ := insV_ok o r z
    have q := hI c (by simpa [okC] using hc) A hA
    exact ⟨.ref A, hA, .base (.ins hv q.cl q.ha q.hn q.ht q.hm)⟩
  | none =>
    rw [z] at h
    obtain ⟨n, hn, rfl⟩ := Option.map_eq_some_iff.mp h
    exact ⟨.type n, rfl, (tyX_of o r hn).2⟩
theorem clsD_ok {c : D} {y : V} {b : String ⊕ Str} (r : RelD C W y c) (h : clsD c = some b) : ∃ u, clsA C.mg b = some u ∧ ClsV y u := by
  cases r with
  | ty n => cases h; exact ⟨_, rfl, .ty n⟩
  | glob hm => cases h; exact ⟨_, hm, .own _⟩
  | _ => cases h
theorem clsDs_ok : ∀ {ts : List D} {ys : List V} {bs : List (String ⊕ Str)}, RelDs C W ys ts → clsDs ts = some bs → ∃ us : List Value, Paired ClsV ys us ∧ bs.map (clsA C.mg) = us.map some
  | [], _, _, r, h => by cases r; cases h; exact ⟨[], .nil, rfl⟩
  | d :: ts, _, bs, r, h => by
    cases r with
    | cons r1 r2 =>
      simp only [clsDs] at h
      cases q1 : clsD d with
      | none => rw [q1] at h; cases h
      | some b =>
        cases q2 : clsDs ts with
        | none => rw [q1, q2] at h; cases h
        | some bs' =>
          rw [q1, q2] at h
          cases h
          obtain ⟨u, h1, h2⟩ := clsD_ok r1 q1
          obtain ⟨us, h3, h4⟩ := clsDs_ok r2 q2
          exact ⟨u :: us, .cons h2 h3, by rw [List.map_cons, List.map_cons, h1, h4]⟩
theorem kitAny_ok {tb : KitTb} {a : String ⊕ Str} {t : Value} (hk : KitOk C.K C.mg tb) (ha : clsA C.mg a = some t) : ∀ {bs : List (String ⊕ Str)} {us : List Value} {k : Bool}, bs.map (clsA C.mg) = us.map some → kitFindAny tb a bs = some k → PySem.W.kitAny C.K t us = some k
  | [], [], k, _, h => by cases h; exact kitAny_nil
  | [], _ :: _, _, e, _ => by cases e
  | _ :: _, [], _, e, _ => by cases e
  | b :: bs, u :: us, k, e, h => by
    rw [List.map_cons, List.map_cons] at e
    obtain ⟨e1, e2⟩ := List.cons.inj e
    simp only [kitFindAny] at h
    split at h
    · rename_i q
      cases h
      exact kitAny_cons (b := true) (hk a b true (kitFind_mem q) t u ha e1) (fun z => by cases z) fun _ => rfl
    · rename_i q
      exact kitAny_cons (b := false) (hk a b false (kitFind_mem q) t u ha e1) (fun _ => kitAny_ok hk ha e2 h) fun z => by cases z
    · cases h
end
theorem cg_isI {X : Cx} {cs : List Str} {tb : KitTb} (hI : InsT X.K X.mg cs) (hk : KitOk X.K X.mg tb) : CallR X (.builtin "isinstance") (Rnof (cn X) (gIsI cs tb)) := by
  intro pins s σ H xs us Q I r h
  obtain ⟨W, st, as, o, ra, h⟩ := h
  unfold gIsI at h
  split at h
  · rename_i v c
    obtain ⟨x, y, rfl, r1, r2⟩ := rel2 ra
    split at h
    · rename_i a ha
      split at h
      · rename_i hc
        obtain ⟨t, h1, h2⟩ := clsV_ok (C := cn X) hI o r1 ha hc
        split at h
        · rename_i b hb
          obtain ⟨u, h3, h4⟩ := clsD_ok r2 hb
          cases e : kitFind tb a b with
          | none => rw [e] at h; exact h.elim
          | some k =>
            rw [e] at h
            exact call_isi pins s σ H _ us Q I r ⟨x, y, t, u, k, rfl, h4, h2, hk a b k (kitFind_mem e) t u h1 h3, fin_val o h (.bl _)⟩
        · split at h
          · rename_i ts _
            split at h
            · rename_i bs hb
              cases e : kitFindAny tb a bs with
              | none => rw [e] at h; exact h.elim
              | some k =>
                rw [e] at h
                cases r2 with
                | tup h5 rd =>
                  obtain ⟨ws, h6, h7⟩ := clsDs_ok rd hb
                  have hq := kitAny_ok (C := cn X) hk h1 h7 e
                  rcases h5 with h5 | ⟨ob, its, n, g1, g2, g3, _, g5⟩
                  · exact call_isiT pins s σ H _ us Q I r ⟨x, _, _, t, ws, k, rfl, o.same _ _ h5, h6, h2, hq, fin_val o h (.bl _)⟩
                  · obtain ⟨oc, od, dt, sl⟩ := ob
                    simp only at g2 g3
                    subst g2 g3
                    have e5 : its.toList = ws := ClsV.all h6 g5
                    refine call_isiK pins s σ H _ us Q I r ⟨x, _, od, ws, n, sl, t, k, rfl, ?_, h2, hq, fin_val o h (.bl _)⟩
                    rw [← e5]
                    simpa using g1
            · exact h.elim
          · exact h.elim
      · exact h.elim
    · exact h.elim
  · exact h.elim
end Sim
end

section
/-! Sim 13: an own ==, and != by it. -/
namespace Sim
open PySem PySem.Spec PyProof.Rows L2 RZ

section
variable {prog : Program} {w : World} {A : Around} {E : Value → Shared → Prop} {s : Shared} {K : PySem.W.Frag} {x C L f : Addr} {h₀ : Heap} {m : Str → Option Value} {ox : Obj} {od : Option Obj} {name : Str} {b tb : Value}
theorem ifBound_B {M : Model} {args : List Value} {Q : Option Value → Shared → Prop} {T id : String} (sl : Slot T name id) (X : K.In s.heap) (I : PySem.W.InstAt s.heap x ox C od) (hs : PySem.W.findIn K (.ref C) name = some (some (.builtin id)))
    (h : wpAny M A (call (.builtin id) (.ref x :: args)) (fun v => Q (some v)) E s) : wpAny M A (callSpecialIfBound? (.ref x) name args) Q E s := by
  simp only [callSpecialIfBound?, bindSpecialIfBound?]
  refine wpAny_holding (wpAny_bind (wpAny_bind (wpAny_bind (I.type.here ((PySem.W.looks_findIn X hs).here ?_)))))
  refine wpAny_bind (wpAny_askSetting (wpAny_ite ?_))
  have fin : wpAny M A (call (.builtin id) ([.ref x] ++ args) >>= fun v => pure (some v)) Q E s := wpAny_bind (wpAny_mono h (fun v s' h' => wpAny_pure h') fun _ _ h' => h')
  rw [sl.bind]
  split
  · exact wpAny_bind (wpAny_pure (wpAny_pure (by exact fin)))
  · exact wpAny_tryCatch (wpAny_bind (wpAny_pure (wpAny_pure (by exact fin))))
/-- x != b by the class's own == -/
theorem ne_K {Q : Value → Shared → Prop} (hu : A.units + 1 < cLine) (X : K.In s.heap) (I : PySem.W.InstAt s.heap x ox C od) (hb : PySem.W.Looks (model prog w) s.heap (typeOf b) tb) (hn : PySem.W.notFirst K C tb = true)
    (hne : PySem.W.findIn K (.ref C) "__ne__" = some (some (.builtin "object.__ne__"))) (hs : PySem.W.findIn K (.ref C) "__eq__" = some (some (.ref f))) (hf : PySem.W.isFn K (.ref f) = true) (ho : PySem.W.plainOver K C = true)
    (h : wpAny (model prog w) A.in1 (call (.ref f) [.ref x, b]) (fun v s' => ∃ k, v = .bool k ∧ Q (.bool (!k)) s') E s) : wpAny (model prog w) A (richCompare .NotEq (.ref x) b) Q E s := by
  obtain ⟨cd, hc, ho'⟩ := PySem.W.any_some ho
  have ne : cd.mro.isEmpty = false := by cases q : cd.mro with | nil => rw [q] at ho'; cases ho' | cons _ _ => rfl
  have sub : PySem.W.Looks (model prog w) s.heap (isInstance (.ref x) (.type "object")) true := I.type.andThen (PySem.W.looks_mroIn X (by unfold PySem.W.mroIn; rw [hc, Option.bind_some, if_neg (by rw [ne]; decide), PySem.W.only_has ho']))
  have one : wpAny (model prog w) A (tryCompare (.ref x) (cmpInfo .NotEq).2.1 b) (fun r s' => ∃ v, r = some v ∧ Q v s') E s := by
    unfold tryCompare
    refine wpAny_bind (ifBound_B PySem.F.slot_object_ne X I hne (wpAny_call (codeAny_call_builtin PySem.F.slot_object_ne.plain PySem.F.cmpEntry_ne (PySem.W.check_slot PySem.F.cmpKind_ne PySem.F.cmpSplit_ne sub (PySem.F.cmpArgs_ne _ _) ?_))))
    unfold Builtin.«object.__ne__»
    repeat (first
      | with_reducible refine wpAny_cRoomFor hu ?_
      | (refine wpAny_bind (m := callSpecialIfBound? (.ref x) (Str.ofString "__eq__") [b]) (PySem.W.ifBound_K X I hs hf (wpAny_mono h (fun v s' hv => ?_) fun _ _ e => e)))
      | wp_step)
    obtain ⟨k, rfl, hq⟩ := hv
    repeat (first | exact wpAny_pure ⟨_, rfl, hq⟩ | exact wpAny_truthy_bool (wpAny_pure ⟨_, rfl, hq⟩) | (refine wpAny_bind (m := truthy (.bool _)) (wpAny_truthy_bool ?_)) | wp_step)
  unfold richCompare
  simp only [oneThing_ref]
  refine wpAny_holding (wpAny_bind (wpAny_cRoomFor (Nat.lt_of_succ_lt hu) ?_))
  refine wpAny_bind (I.type.here (wpAny_bind (hb.here ?_)))
  split
  · rename_i q
    have e : PySem.W.subIn K tb (.ref C) = some false := by
      rcases Bool.or_eq_true_iff.mp hn with e | e
      · rw [beq_iff_eq.mp e] at q; simp at q
      · exact beq_iff_eq.mp e
    refine wpAny_bind ((PySem.W.looks_subIn X e).here ?_)
    simp only [Bool.false_eq_true, if_false]
    refine wpAny_bind (wpAny_mono one (fun r s' z => ?_) fun _ _ e => e)
    obtain ⟨v, rfl, hq⟩ := z
    exact wpAny_pure hq
  · refine wpAny_bind (wpAny_pure ?_)
    simp only [Bool.false_eq_true, if_false]
    refine wpAny_bind (wpAny_mono one (fun r s' z => ?_) fun _ _ e => e)
    obtain ⟨v, rfl, hq⟩ := z
    exact wpAny_pure hq
end
/-- the class of a value, asked -/
theorem typeOf_ok {X : Cx} {pins : List (Addr × Obj)} {σ : Sg} {H : Hp} {s : Shared} {x : V} {u t : Value} (I : L2.Inv X pins σ H s) (rx : RelV x u) (ty : TyX X.K H x t) : PySem.W.Looks (model X.prog X.w) s.heap (typeOf u) t := by
  cases ty with
  | base b =>
    cases b with
    | non => cases (show u = Value.none from rx); exact .now
    | bl y => cases (show u = Value.bool y from rx); exact .now
    | int i => obtain ⟨t, q⟩ := (show ∃ t, u = Value.int i t from rx); cases q; exact .now
    | str y => obtain ⟨t, q⟩ := (show ∃ t, u = Value.str y t from rx); cases q; exact .now
    | flt y => obtain ⟨t, q⟩ := (show ∃ t, u = Value.float y t from rx); cases q; exact .now
    | @lst a xs ea =>
      cases (show u = Value.ref a from rx)
      obtain ⟨_, _, n, _, h1⟩ := (show ObjOk X.prog X.w H s.heap a (.lst xs) from I.hok a _ ea)
      exact fun A Q E s k q => wpAny_typeOf_ref (k _ _ h1) q
    | @frz a ob xs ea =>
      cases (show u = Value.ref a from rx)
      obtain ⟨_, _, _, n, _, h1⟩ := (show ObjOk X.prog X.w H s.heap a (.frz ob (.lst xs)) from I.hok a _ ea)
      exact fun A Q E s k q => wpAny_typeOf_ref (k _ _ h1) q
    | @tup a xs ea =>
      cases (show u = Value.ref a from rx)
      obtain ⟨_, _, _, o, h1, h2, _⟩ := (show ObjOk X.prog X.w H s.heap a (.tup xs) from I.hok a _ ea)
      exact fun A Q E s k q => wpAny_typeOf_ref (k _ _ h1) (by rw [h2]; exact q)
    | @dK a kvs ea =>
      cases (show u = Value.ref a from rx)
      obtain ⟨_, _, vs, _, o, es, ep, h1, h2, _⟩ := (show ObjOk X.prog X.w H s.heap a (.dK kvs) from I.hok a _ ea)
      exact fun A Q E s k q => wpAny_typeOf_ref (k _ _ h1) (by rw [h2.1]; exact q)
    | @dT a kvs ea =>
      cases (show u = Value.ref a from rx)
      obtain ⟨_, _, xs, _, o, es, ep, h1, h2, _⟩ := (show ObjOk X.prog X.w H s.heap a (.dT kvs) from I.hok a _ ea)
      exact fun A Q E s k q => wpAny_typeOf_ref (k _ _ h1) (by rw [h2.1]; exact q)
    | @ins a C dx fs ea cl ha hn htk hm =>
      cases (show u = Value.ref a from rx)
      obtain ⟨mA, O, _⟩ := ins_get I.hok ea
      obtain ⟨od, J, _⟩ := O.look
      exact J.type
  | byt y => obtain ⟨t, q⟩ := (show ∃ t, u = Value.bytes y t from rx); cases q; exact .now
  | @set a S n ea =>
    cases (show u = Value.ref a from rx)
    obtain ⟨o, _, _, _, e, ex, _⟩ := I.hok a _ ea
    exact fun A Q E s k q => wpAny_typeOf_ref (k _ _ e) (by rw [ex.1]; exact q)
  | @kList a o e c =>
    cases (show u = Value.ref a from rx)
    exact fun A Q E s k q => wpAny_typeOf_ref (k _ _ (I.kIn a o e)) (by rw [c]; exact q)
  | @kTuple a o e c =>
    cases (show u = Value.ref a from rx)
    exact fun A Q E s k q => wpAny_typeOf_ref (k _ _ (I.kIn a o e)) (by rw [c]; exact q)
  | @kDict a o e c =>
    cases (show u = Value.ref a from rx)
    exact fun A Q E s k q => wpAny_typeOf_ref (k _ _ (I.kIn a o e)) (by rw [c]; exact q)
  | @fTuple a ob xs ea =>
    cases (show u = Value.ref a from rx)
    obtain ⟨_, _, _, _, o, h1, h2, _⟩ := (show ObjOk X.prog X.w H s.heap a (.frz ob (.tup xs)) from I.hok a _ ea)
    exact fun A Q E s k q => wpAny_typeOf_ref (k _ _ h1) (by rw [h2]; exact q)
  | @fDict a ob kvs ea =>
    cases (show u = Value.ref a from rx)
    obtain ⟨_, _, _, vs, _, o, es, ep, h1, h2, _⟩ := (show ObjOk X.prog X.w H s.heap a (.frz ob (.dK kvs)) from I.hok a _ ea)
    exact fun A Q E s k q => wpAny_typeOf_ref (k _ _ h1) (by rw [h2.1]; exact q)
/-- what a class with an own == must have; nf: the classes that may stand at the right -/
structure EqC (K : PySem.W.Frag) (mg : Str → Option Value) (A f : Addr) (nf : List (String ⊕ Str)) : Prop where
  eq : PySem.W.findIn K (.ref A) "__eq__" = some (some (.ref f))
  fn : PySem.W.isFn K (.ref f) = true
  ne : PySem.W.findIn K (.ref A) "__ne__" = some (some (.builtin "object.__ne__"))
  po : PySem.W.plainOver K A = true
  nf : ∀ b ∈ nf, ∀ t, clsA mg b = some t → PySem.W.notFirst K A t = true
def gOwn (c : Str) (cs : List Str) (nf : List (String ⊕ Str)) (neg : Bool) (m : List D → M D) (a b : D) : O D := fun st => match insV st a, clsV st b with
  | some (c', _), some tb => if c' = c ∧ (nf.any fun z => decide (z = tb)) = true ∧ okC cs tb = true then (match m [a, b] st with
    | .ok (.bl k) st' => some (.bl (if neg then !k else k), st')
    | _ => none) else none
  | _, _ => none
section
variable {X : Cx} {k : Nat} {f A : Addr} {c : Str} {fd : FuncData} {ps : List Str} {cs : List Str} {nf : List (String ⊕ Str)} {m : List D → M D} {dvs : List V} {dfl : List D}
theorem own_run {neg : Bool} {pins : List (Addr × Obj)} {σ : Sg} {H : Hp} {s : Shared} {x y : V} {u v : Value} {a b : D} {W : Wd} {st st' : Store} {kk : Bool} {B : Around} (F : FnG X.prog X.w X.K X.mg X.base k f fd ps (spM (cn X) 2 m)) (hc : Clr B) (hr : Room k B) (hfr : B.frames = X.A.frames)
    (hb : Bd X.K fd ps 2 [] [] [0, 1]) (I : L2.Inv X pins σ H s) (rx : RelV x u) (ry : RelV y v) (o : WOk (cn X) W H st) (ra : RelD (cn X) W x a) (rb : RelD (cn X) W y b) (e : m [a, b] st = .ok (.bl kk) st') {Q : Value → Shared → Prop}
    (hq : ∀ H' W' s', W.le W' → WOk (cn X) W' H' st' → L2.Inv X pins σ H' s' → Q (.bool kk) s') : wpAny (model X.prog X.w) B (call (.ref f) [u, v]) Q X.xe s := by
  obtain ⟨its, rd, bind⟩ := hb
  cases rd
  have e0 : Env0 X.prog X.w X.K X.mg X.base B X.stack s H := by
    have e := I.env0
    exact ⟨by rw [hfr]; exact e.frames, e.mod, e.bs, e.bsz, e.funs, e.frf, e.hok, e.bare⟩
  refine wpAny_call (codeAny_mono (F.run B X.stack s H ⟨[u, v], []⟩ [u, v] [x, y] (fun z H' => z = .bl kk ∧ ∃ W', W.le W' ∧ WOk (cn X) W' H' st') (fun _ _ _ => False) hc hr e0 (bind s [u, v] [] I.kIn rfl rfl) (.cons rx (.cons ry .nil)) ⟨W, [a, b], st, rfl, o, .cons ra (.cons rb .nil), ?_⟩) fun rs s' hq' => ?_)
  · rw [e]
    intro z H' W' l o' r
    cases r
    exact ⟨rfl, W', l, o'⟩
  · match rs, hq' with
    | .error e, hq' =>
      obtain ⟨_, _, _, _, _, _, _, _, _, _, _, _, z⟩ := hq'
      exact z.elim
    | .ok (.ret w), hq' =>
      obtain ⟨z, H', I', rz, ez, W', l, o'⟩ := I.after hq'
      subst ez
      cases (show w = Value.bool kk from rz)
      exact hq H' W' s' l o' I'
    | .ok .next, hq' => exact False.elim hq'
    | .ok .brk, hq' => exact False.elim hq'
    | .ok .cont, hq' => exact False.elim hq'
theorem own_cases {neg : Bool} {H : Hp} {x y : V} {Q : VK} {W : Wd} {st : Store} {a b : D} (hI : InsT X.K X.mg cs) (hA : X.mg c = some (.ref A)) (E : EqC X.K X.mg A f nf) (o : WOk (cn X) W H st) (ra : RelD (cn X) W x a) (rb : RelD (cn X) W y b) (h : FinO (cn X) (RelD (cn X)) W Q (gOwn c cs nf neg m a b st)) :
    ∃ p dx gs t kk st', x = .ref p ∧ H p = some (.ins A dx gs) ∧ TyX X.K H y t ∧ PySem.W.notFirst X.K A t = true ∧ m [a, b] st = .ok (.bl kk) st' ∧ ∀ H' W', W.le W' → WOk (cn X) W' H' st' → Q (.bl (if neg then !kk else kk)) H' := by
  unfold gOwn at h
  split at h
  · rename_i c' fs tb h1 h2
    split at h
    · rename_i hh
      obtain ⟨rfl, hn, hok⟩ := hh
      split at h
      · rename_i kk st' e
        obtain ⟨p, A', dx, gs, rfl, hA', hv, rv⟩ := insV_ok o ra h1
        have eA : A' = A := by
          have q2 : X.mg c' = some (.ref A') := hA'
          rw [hA] at q2; cases q2; rfl
        subst eA
        obtain ⟨t, h3, h4⟩ := clsV_ok (C := cn X) hI o rb h2 hok
        exact ⟨p, dx, gs, t, kk, st', rfl, hv, h4, E.nf tb (by obtain ⟨z, hz, q⟩ := List.any_eq_true.mp hn; rw [decide_eq_true_eq] at q; subst q; exact hz) t h3, e, fun H' W' l o' => h _ H' W' l o' (.bl _)⟩
      · exact h.elim
    · exact h.elim
  · exact h.elim
theorem og_own (hI : InsT X.K X.mg cs) (hA : X.mg c = some (.ref A)) (E : EqC X.K X.mg A f nf) (F : FnG X.prog X.w X.K X.mg X.base k f fd ps (spM (cn X) 2 m)) (hc : Clr X.A) (hr : Room k X.A) (hb : Bd X.K fd ps 2 [] [] [0, 1]) : OpR X (compareOp .Eq) (R2of (cn X) (gOwn c cs nf false m)) := by
  intro pins s σ H x y v u Q I rx ry h
  obtain ⟨W, st, a, b, o, ra, rb, h⟩ := h
  obtain ⟨p, dx, gs, t, kk, st', rfl, hv, ty, nf', e, q⟩ := own_cases hI hA E o ra rb h
  cases (show v = Value.ref p from rx)
  obtain ⟨mA, J, _⟩ := ins_get I.hok hv
  obtain ⟨od, J, _⟩ := J.look
  obtain ⟨mm, hF⟩ := I.fr
  show wpAny (model X.prog X.w) X.A (richCompare .Eq (.ref p) u) (EP X pins σ Q) X.xe s
  refine PySem.W.cmp_K (op := .Eq) hr.units0 hF I.ok.mod.kin J (typeOf_ok I ry ty) nf' E.eq E.fn ?_
  exact own_run (neg := false) (B := X.A) F hc hr rfl hb I (show RelV (V.ref p) (Value.ref p) from rfl) ry o ra rb e fun H' W' s' l o' I' => ⟨.bl kk, H', I', rfl, q H' W' l o'⟩
theorem og_ownNe (hI : InsT X.K X.mg cs) (hA : X.mg c = some (.ref A)) (E : EqC X.K X.mg A f nf) (F : FnG X.prog X.w X.K X.mg X.base k f fd ps (spM (cn X) 2 m)) (hc : Clr X.A) (hr : Room (k + 1) X.A) (hb : Bd X.K fd ps 2 [] [] [0, 1]) : OpR X (compareOp .NotEq) (R2of (cn X) (gOwn c cs nf true m)) := by
  intro pins s σ H x y v u Q I rx ry h
  obtain ⟨W, st, a, b, o, ra, rb, h⟩ := h
  obtain ⟨p, dx, gs, t, kk, st', rfl, hv, ty, nf', e, q⟩ := own_cases hI hA E o ra rb h
  cases (show v = Value.ref p from rx)
  obtain ⟨mA, J, _⟩ := ins_get I.hok hv
  obtain ⟨od, J, _⟩ := J.look
  show wpAny (model X.prog X.w) X.A (richCompare .NotEq (.ref p) u) (EP X pins σ Q) X.xe s
  refine ne_K (by have := hr.un; omega) I.kIn J (typeOf_ok I ry ty) nf' E.ne E.eq E.fn E.po ?_
  exact own_run (neg := true) (B := X.A.in1) F hc hr.in1 rfl hb I (show RelV (V.ref p) (Value.ref p) from rfl) ry o ra rb e fun H' W' s' l o' I' => ⟨kk, rfl, .bl (!kk), H', I', rfl, q H' W' l o'⟩
end
end Sim
end

section
/-! Sim 14: defs with *args. -/
namespace Sim
open PySem PySem.Spec PyProof.Rows L2 RZ

/-- the promise of a def with *args, called by place -/
def FnS (P : Program) (w : World) (K : PySem.W.Frag) (mg : Str → Option Value) (base : Heap) (k : Nat) (f : Addr) (m : List D → M D) : Prop :=
  ∀ (A : Around) (outer : List Env) (s : Shared) (H : Hp) (us : List Value) (vs : List V) (Q : VK) (E : XK), Clr A → Room k A → Env0 P w K mg base A outer s H → Vals vs us →
    (∃ W as st, WOk ⟨K, mg⟩ W H st ∧ RelDs ⟨K, mg⟩ W vs as ∧ FinD ⟨K, mg⟩ W E Q (m as st)) → codeAny (model P w) A (.call (.ref f) ⟨us, []⟩) (CR (L2.CX P w) outer P w H s Q E) s
noncomputable def mStarWith (ex : Store → D → Store → Res D) (n N : Nat) (body : MS) : List D → M D := fun as st =>
  if n ≤ as.length ∧ (as.drop n).length ≤ 16777216 then exitR ex st (body ((as.take n).map some ++ some (.tup (as.drop n)) :: List.replicate (N - (n + 1)) none) st) else .stuck
noncomputable abbrev mStar := mStarWith exitV
section
variable {P : Program} {w : World} {K : PySem.W.Frag} {mg : Str → Option Value} {base : Heap} {k : Nat} {f : Addr} {fd : FuncData} {ps N : List Str}
theorem fnS_with {ex : Store → D → Store → Res D} (hex : ∀ {C : Cn} {W0 W : Wd} {H0 H : Hp} {st0 st : Store} {E : XK} {Q : VK} {v : D}, WOk C W0 H0 st0 → W0.le W → WOk C W H st → ∀ {x : V}, RelD C W x v → FinD C W0 E Q (ex st0 v st) → Q x H)
    {x qual pv : Str} {params : Arguments} {body : List Stmt} {scope : Scope} {m : MS} {n M : Nat} (F : FunD K x qual params body scope [] [] f fd) (S : FnScope N (ps ++ [pv]) scope) (hn : ps.length = n) (hM : N.length = M)
    (hb : ∀ (kV doc pm : Value) (an : Option Addr) (cdv ct : Value) (us rest : List Value), us.length = n → bindArgs (PySem.W.fnOf x qual params body scope .none kV doc pm an cdv ct) ⟨us ++ rest, []⟩ = (newTuple rest >>= fun t => pure (ps.zip us ++ [(pv, t)])))
    (hbody : ∀ (X : Cx) (E : XK), (∃ (cdv : Value) (A : Around) (outer : List Env) (s : Shared) (H : Hp), X = cxOf (L2.CX P w) P w K mg base N qual scope f cdv A outer s H E) → Clr X.A → Room k X.A → Takes X (fun cls d _ H => E cls d H) →
      SSs X (fun cls d _ H => E cls d H) body m) : FnS P w K mg base (k + 1) f (mStarWith ex n M m) := by
  subst hn hM
  obtain ⟨oc, od, dV, kV, doc, pm, an, cdv, ct, osl, rfl, lk, hcd, hD, _⟩ := F.ex
  have hdV : dV = .none := by
    rcases hD with ⟨_, rfl⟩ | ⟨e, _⟩
    · rfl
    · exact absurd rfl e
  subst hdV
  intro A outer s H us vs Q E hc hr e0 r ⟨W, as, st, o, ra, h⟩
  unfold mStarWith at h
  split at h
  · rename_i hl
    have l1 := r.length
    have l2 := ra.length
    have hz : (vs.drop ps.length).length ≤ sizeLine := by rw [szl, List.length_drop, l2, ← List.length_drop]; exact hl.2
    have ev : vs = vs.take ps.length ++ vs.drop ps.length := (List.take_append_drop _ _).symm
    have r' : Vals (vs.take ps.length ++ vs.drop ps.length) us := by rw [← ev]; exact r
    obtain ⟨u1, u2, eu, r1, r2⟩ := StX.vals_split r'
    subst eu
    have hv1 : (vs.take ps.length).length = ps.length := by rw [List.length_take, l2]; omega
    have hl1 : u1.length = ps.length := by rw [← r1.length]; exact hv1
    have hl2 : u2.length ≤ sizeLine := by rw [← r2.length]; exact hz
    have hn : H s.heap.objs.size = Option.none := e0.hok.fresh (Nat.le_refl _)
    refine StX.run_bnd lk hcd S hr e0 (G := fun xs H2 => ∃ p, H p = Option.none ∧ xs = vs.take ps.length ++ [V.ref p] ∧ H2 = upd H p (.tup (vs.drop ps.length))) (fun A' Ex Q' h' => ?_) fun s2 H2 xs ⟨p, hp, ex, eH⟩ hr' => ?_
    · rw [hb kV doc pm an cdv ct u1 u2 hl1]
      refine wpAny_bind (wpAny_newTuple (wpAny_pure ?_) hl2)
      have new : ObjOk P w (upd H s.heap.objs.size (.tup (vs.drop ps.length))) (s.heap.push ({ cls := .type "tuple", data := .seq u2.toArray } : Obj)) s.heap.objs.size (.tup (vs.drop ps.length)) := ⟨hz, u2, r2, ⟨_, Heap.get?_push_size _ rfl, rfl, _, rfl⟩⟩
      have un := StX.un_laid (fs := frs outer) (s := s) (o := ({ cls := .type "tuple", data := .seq u2.toArray } : Obj)) (u := .tup (vs.drop ps.length)) hn
      have z := h' _ _ (vs.take ps.length ++ [V.ref s.heap.objs.size]) (u1 ++ [Value.ref s.heap.objs.size]) (StX.env0_laid e0 new) un rfl (fun e s' => StX.cxUp outer s H _ _ E e s' un (fun b o q => Heap.get?_push_of_some _ q) rfl) (r1.append (.cons rfl .nil))
        (by rw [List.length_append, List.length_append, hv1] <;> rfl) ⟨_, hn, rfl, rfl⟩
      rw [List.zip_append hl1.symm] at z
      exact z
    · subst ex eH
      obtain ⟨l3, o3⟩ := o.grow (u := .tup (vs.drop ps.length)) hp
      have rt : RelDs ⟨K, mg⟩ ⟨upd W.G p (.tup (vs.drop ps.length)), W.al⟩ (vs.take ps.length ++ [V.ref p]) (as.take ps.length ++ [.tup (as.drop ps.length)]) := ((ra.take _).mono l3).append (.cons (.tup (.inl upd_same) ((ra.drop _).mono l3)) .nil)
      refine ⟨_, hbody _ E ⟨cdv, A, outer, s2, _, rfl⟩ hc hr' (takes_of rfl rfl rfl rfl), ?_⟩
      refine ⟨_, (as.take ps.length).map some ++ some (.tup (as.drop ps.length)) :: List.replicate (N.length - (ps.length + 1)) none, st, o3, by
        have e := evR_start (N := N) rt
        have e1 : (as.take ps.length ++ [D.tup (as.drop ps.length)]).length = ps.length + 1 := by rw [List.length_append, List.length_take]; simp; omega
        rw [e1, List.map_append, List.append_assoc] at e
        exact e, ?_⟩
      cases q : m ((as.take ps.length).map some ++ some (.tup (as.drop ps.length)) :: List.replicate (N.length - (ps.length + 1)) none) st with
      | stuck => rw [q] at h; exact h.elim
      | bk _ _ => rw [q] at h; exact h.elim
      | ct _ _ => rw [q] at h; exact h.elim
      | nx ev st' =>
        rw [q] at h
        intro σ' H' W' l o' _
        exact hex o (l3.trans l) o' .non h
      | rt v st' =>
        rw [q] at h
        intro x H' W' l o' r'
        exact hex o (l3.trans l) o' r' h
      | ex e ev st' =>
        rw [q] at h
        intro cls d σ' H' W' l o' _ ⟨A, dd, gs, h1, h2, h3, h4, h5⟩
        unfold exitR at h
        simp only [] at h
        split at h
        · rename_i hc
          obtain ⟨l4, o4⟩ := o.cutTo (l3.trans l) o' hc.2
          exact h cls d H' _ l4 o4 ⟨A, dd, gs, h1, h2, h3, h4, h5.cut hc.1⟩
        · exact h.elim
  · exact h.elim
end
def eCallS (m : List D → M D) (as : MA) : ME := fun ev => (as ev).bind m
def makeSM (c : Str) (m : List D → M D) (vs : List D) : M D := fun st => match m (.cl st.length :: vs) (st ++ [.ins c []]) with
  | .ok .non st2 => .ok (.cl st.length) st2
  | .exn e st2 => .exn e st2
  | _ => .stuck
def eMakeS (c : Str) (m : List D → M D) (as : MA) : ME := fun ev => (as ev).bind fun vs => makeSM c m vs
section
variable {X : Cx} {Wx : WX} {k : Nat} {f A : Addr} {c x : Str} {m : List D → M D} {ma : MA} {p pos : Pos} {e : Expr} {es : List Expr}
theorem fin_callS {C : Cn} {W : Wd} {σ : Sg} {H : Hp} {st : Store} {Q : VK} {vs : List V} {as : List D} (o : WOk C W H st) (r : RelDs C W vs as) (h : Fin C (RelD C) W σ Wx Q (m as st)) : ∃ W as st, WOk C W H st ∧ RelDs C W vs as ∧ FinD C W (fun cls d H' => Wx cls d σ H') Q (m as st) := by
  refine ⟨W, as, st, o, r, ?_⟩
  cases q : m as st with
  | stuck => rw [q] at h; exact h
  | ok a st' => rw [q] at h; exact h
  | exn e st' => rw [q] at h; exact h
/-- f(e, ..), f with *args -/
theorem se_callS (F : FnS X.prog X.w X.K X.mg X.base k f m) (hc : Clr X.A) (hr : Room k X.A) (tk : Takes X Wx) (hm : X.mg x = some (.ref f)) (hkp : PySem.W.keepIn X.K (.ref f) = true) (ha : SA X Wx (e :: es) ma) (hg : Gl X x := by rfl)
    (hdb : (x == ("__debug__" : Str)) = false := by decide) (he : starEach (e :: es) X.env = (false, eval e X.env) :: starEach es X.env := by rfl) (hpl : (backTo pos (starEach es X.env)).any (·.1) = false := by rfl) :
    SE X Wx (.Call (.Name x p) (e :: es) [] pos) (eCallS m ma) := by
  refine ⟨fun pins s σ H Q I h => ?_⟩
  refine wpAny_Call_Name_kw (ld_glob I hg hm ?_ hdb)
  have h2 : LA (cn X) Wx ma σ H fun vs H1 => ∃ W as st, WOk (cn X) W H1 st ∧ RelDs (cn X) W vs as ∧ Fin (cn X) (RelD (cn X)) W σ Wx Q (m as st) := lift1 h fun vs H1 as W st ev o ee r q => ⟨W, as, st, o, r, q⟩
  refine PySem.W.callWith_K (h₀ := X.base) I.ok.mod.kin hkp (thn (ha.run pos pins s σ H _ I h2) fun us s1 ⟨vs, H1, I1, r, W, as, st, o, q1, q⟩ => ⟨I1.kIn, ?_⟩) he hpl
  refine wpAny_call (codeAny_mono (F X.A X.stack s1 H1 us vs Q _ hc hr I1.env0 r (fin_callS o q1 q)) fun rs s' hq => ?_)
  match rs, hq with
  | .error e, hq => exact pass_at tk pins H1 s1 e s' I1 hq
  | .ok (.ret u), hq => exact I1.after hq
  | .ok .next, hq => exact hq.elim
  | .ok .brk, hq => exact hq.elim
  | .ok .cont, hq => exact hq.elim
/-- C(e, ..), its __init__ with *args -/
theorem se_makeS (M : Mk X.K A f) (F : FnS X.prog X.w X.K X.mg X.base k f m) (hc : Clr X.A) (hr : Room (k + 1) X.A) (tk : Takes X Wx) (hA : X.mg c = some (.ref A)) (ha : SA X Wx (e :: es) ma) (hg : Gl X c := by rfl)
    (hdb : (c == ("__debug__" : Str)) = false := by decide) (he : starEach (e :: es) X.env = (false, eval e X.env) :: starEach es X.env := by rfl) (hpl : (backTo pos (starEach es X.env)).any (·.1) = false := by rfl) :
    SE X Wx (.Call (.Name c p) (e :: es) [] pos) (eMakeS c m ma) := by
  refine ⟨fun pins s σ H Q I h => ?_⟩
  refine wpAny_Call_Name_kw (ld_glob I hg hA ?_ hdb)
  have h2 : LA (cn X) Wx ma σ H fun vs H1 => ∃ W as st, WOk (cn X) W H1 st ∧ RelDs (cn X) W vs as ∧ Fin (cn X) (RelD (cn X)) W σ Wx Q (makeSM c m as st) := lift1 h fun vs H1 as W st ev o ee r q => ⟨W, as, st, o, r, q⟩
  refine PySem.W.callWith_K (h₀ := X.base) I.ok.mod.kin M.kp (thn (ha.run pos pins s σ H _ I h2) fun us s1 ⟨vs, H1, I1, r, W, as, st, o, q1, q⟩ => ⟨I1.kIn, ?_⟩) he hpl
  unfold makeSM at q
  have hx : H1 (s1.heap.objs.size + 1) = none := I1.hok.fresh (Nat.le_succ _)
  have hdx : H1 s1.heap.objs.size = none := I1.hok.fresh (Nat.le_refl _)
  have hne : s1.heap.objs.size + 1 ≠ s1.heap.objs.size := Nat.succ_ne_self _
  obtain ⟨l3, o3⟩ := o.grow (u := .own (s1.heap.objs.size + 1)) hdx
  have hx' : upd H1 s1.heap.objs.size (.own (s1.heap.objs.size + 1)) (s1.heap.objs.size + 1) = none := by rw [upd_ne hne]; exact hx
  obtain ⟨l4, o4⟩ := o3.newCell (u := .ins A s1.heap.objs.size []) (c := .ins c []) hx' ⟨o3.same.free hx', A, s1.heap.objs.size, [], hA, upd_same, .nil⟩
  have l34 := l3.trans l4
  have self : RelD (cn X) ⟨upd W.G s1.heap.objs.size (.own (s1.heap.objs.size + 1)), W.al ++ [s1.heap.objs.size + 1]⟩ (.ref (s1.heap.objs.size + 1)) (.cl st.length) := .cl (by
    show (W.al ++ [s1.heap.objs.size + 1])[st.length]? = _
    rw [← o.len, List.getElem?_append_right (Nat.le_refl _)]; simp)
  have I2 := Inv.made (C := A) I1
  refine wpAny_call (make_map (f := f) I1.kIn M.makes M.init (beq_iff_eq.mp M.fn) (codeAny_mono (F _ X.stack _ _ (Value.ref (s1.heap.objs.size + 1) :: us) (V.ref (s1.heap.objs.size + 1) :: vs) (fun v H2 => v = .non ∧ Q (.ref (s1.heap.objs.size + 1)) H2) (fun cls d H' => Wx cls d σ H') (hc.make A us []) (hr.make A us []) (I2.env0.make A us [])
    (.cons (show RelV (V.ref _) (Value.ref _) from rfl) r) ⟨_, .cl st.length :: as, _, o4, .cons self (q1.mono l34), ?_⟩) fun rs s' hq' => ?_))
  · cases z : m (.cl st.length :: as) (st ++ [.ins c []]) with
    | stuck => rw [z] at q; exact q.elim
    | exn e st2 =>
      rw [z] at q
      exact fun cls d H' W' l' o' r' => q cls d H' W' (l34.trans l') o' r'
    | ok v st2 =>
      rw [z] at q
      cases v with
      | non =>
        intro x H' W' l' o' r'
        cases r'
        exact ⟨rfl, q _ H' W' (l34.trans l') o' (self.mono l')⟩
      | _ => exact q.elim
  · match rs, hq' with
    | .error e, hq' => exact pass_at tk pins _ _ e s' I2 hq'
    | .ok (.ret u), hq' =>
      obtain ⟨v, H', I3, rv, ev, q3⟩ := I2.after hq'
      subst ev
      exact ⟨rv, ⟨V.ref (s1.heap.objs.size + 1), H', I3, rfl, q3⟩⟩
    | .ok .next, hq' => exact False.elim hq'
    | .ok .brk, hq' => exact False.elim hq'
    | .ok .cont, hq' => exact False.elim hq'
end
end Sim
end

section
/-! Sim 15: further. -/
namespace Sim
open PySem PySem.Spec PyProof.Rows L2 RZ
theorem fin_exitAll {C : Cn} {W0 W : Wd} {H : Hp} {st0 st : Store} {E : XK} {Q : VK} {v : D} (l : W0.le W) (o : WOk C W H st) {x : V} (r : RelD C W x v) (h : FinD C W0 E Q (exitAll st0 v st)) : Q x H := h x H W l o r
theorem kit_own {K : PySem.W.Frag} {t : Value} {C : Addr} {b : Bool} (h1 : PySem.W.isClsIn K C = true) (h2 : PySem.W.typeIn K (.ref C) = some (.type "type")) (h3 : PySem.W.subIn K t (.ref C) = some b) (hne : (t == .ref C) = false ∨ b = true) : PySem.W.kitOne K t (.ref C) = some b := by
  have e : PySem.W.kitCls K t (.ref C) = some b := by
    unfold PySem.W.kitCls
    have h : ((PySem.W.clsIn K C).isSome && PySem.W.typeIn K (.ref C) == some (.type "type")) = true := by
      rw [h2, Bool.and_eq_true]
      exact ⟨h1, by simp⟩
    simp only [h, if_true]
    exact h3
  unfold PySem.W.kitOne
  split
  · rename_i q
    rcases hne with z | z
    · rw [z] at q; cases q
    · rw [z]
  · exact e
theorem kit_self {K : PySem.W.Frag} {C : Addr} : PySem.W.kitOne K (.ref C) (.ref C) = some true := by
  unfold PySem.W.kitOne
  rw [if_pos (by simp)]
theorem kit_up {K : PySem.W.Frag} {t : Value} {T : String} {b : Bool} (h1 : PySem.W.kitMeta T = true) (h3 : PySem.W.subIn K t (.type T) = some b) (hne : (t == .type T) = false) : PySem.W.kitOne K t (.type T) = some b := by
  unfold PySem.W.kitOne PySem.W.kitCls
  rw [if_neg (by rw [hne]; exact Bool.false_ne_true)]
  simp only [h1, if_true]
  exact h3
end Sim
end

section
/-! Sim 16: zip of lists and tuples in any mixture. -/
namespace Sim
open PySem PySem.Spec PyProof.Rows L2 RZ

/-- a tuple (true), a list (false) -/
def SqX (K : PySem.W.Frag) (t : Bool) (H : Hp) (a : Addr) (xs : List V) : Prop := match t with | true => SqT K H a xs | false => SqL K H a xs
def HpX (t : Bool) (h : Heap) (a : Addr) (its : Array Value) : Prop := match t with | true => h.IsTuple a its | false => h.IsList a its
def ItX (t : Bool) (h : Heap) (it a : Addr) (i : Nat) : Prop := match t with | true => h.IsTupleIter it a i | false => h.IsListIter it a i
def obX (t : Bool) (a : Addr) : Obj := match t with | true => { cls := .type "tuple_iterator", data := .fields #[.ref a, .int 0 0] } | false => { cls := .type "list_iterator", data := .fields #[.ref a, .int 0 0] }
theorem drawsX {prog : Program} {w : World} {A : Around} (hh : A.handled = none) (t : Bool) (it a : Addr) (hne : a ≠ it) (items : Array Value) : Draws prog w A it [it, a] items.size (fun i v => items[i]? = some v) (fun i h => ItX t h it a i ∧ HpX t h a items) := by
  cases t with
  | true => exact Draws.tuple hh it a hne items
  | false => exact Draws.list hh it a hne items
theorem beginsX (t : Bool) (a : Addr) (items : Array Value) : Begins (.ref a) (obX t a) fun h => HpX t h a items := by
  cases t with
  | true => exact begins_tuple a items
  | false => exact begins_list a items
theorem ItX.first {t : Bool} {h : Heap} {it a : Addr} (e : h.get? it = some (obX t a)) : ItX t h it a 0 := by
  cases t with
  | true => exact ⟨_, e, rfl, rfl⟩
  | false => exact ⟨_, e, rfl, rfl⟩
theorem ItX.obj {t : Bool} {h : Heap} {it a : Addr} {i : Nat} (x : ItX t h it a i) : ∃ o, h.get? it = some o ∧ ∀ v, o.data ≠ .cell v := by
  cases t with
  | true => obtain ⟨o, e, _, d⟩ := x; exact ⟨o, e, fun v q => by rw [d] at q; cases q⟩
  | false => obtain ⟨o, e, _, d⟩ := x; exact ⟨o, e, fun v q => by rw [d] at q; cases q⟩
theorem ItX.keep {t : Bool} {h h' : Heap} {it a : Addr} {i : Nat} (x : ItX t h it a i) (k : ∀ o, h.get? it = some o → h'.get? it = some o) : ItX t h' it a i := by
  cases t with
  | true => obtain ⟨o, e, c, d⟩ := x; exact ⟨o, k o e, c, d⟩
  | false => obtain ⟨o, e, c, d⟩ := x; exact ⟨o, k o e, c, d⟩
theorem inv_sqX {X : Cx} {pins : List (Addr × Obj)} {σ : Sg} {H : Hp} {s : Shared} {t : Bool} {a : Addr} {xs : List V} (I : L2.Inv X pins σ H s) (h : SqX X.K t H a xs) : ∃ its : List Value, Vals xs its ∧ HpX t s.heap a its.toArray ∧ a < s.heap.objs.size := by
  cases t with
  | true =>
    obtain ⟨its, r, p, _⟩ := I.tuple h
    obtain ⟨o, ho, _⟩ := id p
    exact ⟨its, r, p, Heap.lt_size ho⟩
  | false =>
    obtain ⟨its, r, p, _⟩ := I.list h
    exact ⟨its, r, p.isList, p.lt⟩
theorem inv_injX {X : Cx} {pins : List (Addr × Obj)} {σ : Sg} {H : Hp} {s : Shared} {t : Bool} {a : Addr} {xs ys : List V} (I : L2.Inv X pins σ H s) (h : SqX X.K t H a xs) (h' : SqX X.K t H a ys) : xs = ys := by
  cases t with
  | true => exact I.tuple_inj h h'
  | false => exact I.list_inj h h'
theorem HpX.ne_it {t u : Bool} {h : Heap} {a it c : Addr} {its : Array Value} {i : Nat} (p : HpX t h a its) (q : ItX u h it c i) : a ≠ it := by
  rintro rfl
  cases t <;> cases u <;>
  · obtain ⟨o, e, k, _⟩ := p
    obtain ⟨o', e', k', _⟩ := q
    rw [e] at e'
    cases e'
    rw [k] at k'
    exact absurd (Value.type.inj k') (by decide)
/-- the items in pairs; the end where one is through -/
def ItzX (K : PySem.W.Frag) (t u : Bool) (a b : Addr) : It :=
  ⟨fun i H => ∃ (xs ys : List V) (x y : V), SqX K t H a xs ∧ SqX K u H b ys ∧ xs[i]? = some x ∧ ys[i]? = some y,
    fun i H v H' => ∃ T x y, v = .ref T ∧ H T = none ∧ H' = upd H T (.tup [x, y]) ∧ (∀ xs, SqX K t H a xs → xs[i]? = some x) ∧ ∀ ys, SqX K u H b ys → ys[i]? = some y,
    fun i H => ∃ xs ys : List V, SqX K t H a xs ∧ SqX K u H b ys ∧ i ≤ xs.length ∧ i ≤ ys.length ∧ (i = xs.length ∨ i = ys.length)⟩
theorem turn_zipX {P : Program} {w : World} {K : PySem.W.Frag} {elts : List Expr} {kk : Nat} {tpos : Pos} {t u : Bool} {a b z TI TO i1 i2 : Addr} (S : ZipSep2 z TI TO i1 i2 [i1, a] [i2, b]) (n12 : i1 ≠ i2) :
    Turn P w K (.Tuple elts kk tpos) (ItzX K t u a b) [z, TI, TO, i1, i2] z (fun i h => IsZip h z TI TO .none ∧ IsTupOf2 h TI (.ref i1) (.ref i2) ∧ (∃ x y, IsTupOf2 h TO x y) ∧ ItX t h i1 a i ∧ ItX u h i2 b i) where
  mem := List.mem_cons_self
  obj := fun i h ⟨hz, hTI, ⟨x, y, hTO⟩, h1, h2⟩ c hc => by
    simp only [List.mem_cons, List.not_mem_nil, or_false] at hc
    rcases hc with rfl | rfl | rfl | rfl | rfl
    · exact ⟨_, hz, fun v q => nomatch q⟩
    · exact ⟨_, hTI, fun v q => nomatch q⟩
    · exact ⟨_, hTO, fun v q => nomatch q⟩
    · exact h1.obj
    · exact h2.obj
  keep := fun i h h' ⟨hz, hTI, ⟨x, y, hTO⟩, h1, h2⟩ k =>
    ⟨k z (by simp) _ hz, k TI (by simp) _ hTI, ⟨x, y, k TO (by simp) _ hTO⟩, h1.keep (k i1 (by simp)), h2.keep (k i2 (by simp))⟩
  item := by
    intro X hP hw hK hc i pins s σ H E I hf st hg
    subst hP hw hK
    obtain ⟨hz, hTI, ⟨x0, y0, hTO⟩, h1, h2⟩ := st
    obtain ⟨xs, ys, x, y, qx, qy, hx, hy⟩ := hg
    obtain ⟨its, rv, p1, _⟩ := inv_sqX I qx
    obtain ⟨its2, rv2, p2, _⟩ := inv_sqX I qy
    obtain ⟨v1, hv1, rx⟩ := rv.get hx
    obtain ⟨v2, hv2, ry⟩ := rv2.get hy
    have g1 : i < its.toArray.size := by simpa using (List.getElem?_eq_some_iff.mp hv1).1
    have g2 : i < its2.toArray.size := by simpa using (List.getElem?_eq_some_iff.mp hv2).1
    have hd : X.A.in1.handled = none := I.ok.hd hc
    refine wpAny_pyNext_zipD2_item S (drawsX hd t i1 a (p1.ne_it h1) its.toArray) (drawsX hd u i2 b (p2.ne_it h2) its2.toArray) hz hTI hTO ⟨h1, p1⟩ ⟨h2, p2⟩ g1 g2 fun x1 x2 h' tk e1 e2 hz' hTO' st1 st2 hT hsz hk => ?_
    have ex1 : x1 = v1 := by
      have e1' : its.toArray[i]? = some x1 := e1
      simp only [List.getElem?_toArray] at e1'
      rw [hv1] at e1'; cases e1'; rfl
    have ex2 : x2 = v2 := by
      have e2' : its2.toArray[i]? = some x2 := e2
      simp only [List.getElem?_toArray] at e2'
      rw [hv2] at e2'; cases e2'; rfl
    subst ex1 ex2
    have zl : z < s.heap.objs.size := Heap.lt_size hz
    refine ⟨_, rfl, wpAny_letOwnedTupleGo_zip (s := { s with heap := h', toks := tk }) hz' fun h2' z2' sb => ?_⟩
    have tup2 : h2'.get? s.heap.objs.size = some { cls := .type "tuple", data := .seq #[x1, x2] } := (sb.2 _ (Nat.ne_of_gt zl)).trans hT
    have pair : ObjOk X.prog X.w (upd H s.heap.objs.size (.tup [x, y])) h2' s.heap.objs.size (.tup [x, y]) := ⟨by rw [szl]; simp, [x1, x2], .cons rx (.cons ry .nil), ⟨_, tup2, rfl, _, rfl⟩⟩
    have kp : ∀ c o, c ∉ [z, TI, TO, i1, i2] → s.heap.get? c = some o → h2'.get? c = some o := fun c o nb q => by
      simp only [List.mem_cons, List.not_mem_nil, or_false, not_or] at nb
      exact (sb.2 c nb.1).trans (hk c o nb.1 nb.2.2.1 nb.2.2.2.1 nb.2.2.2.2 q)
    have I1 := I.turnedNew (t' := tk) (ch := [z, TI, TO, i1, i2]) kp hf (Nat.le_refl _) pair
    refine ⟨.ref s.heap.objs.size, _, I1, rfl, ⟨_, x, y, rfl, I.hok.fresh (Nat.le_refl _), rfl, fun l hl => by rw [inv_injX I hl qx]; exact hx, fun l hl => by rw [inv_injX I hl qy]; exact hy⟩, ⟨z2', ?_, ⟨x1, x2, ?_⟩, ?_, ?_⟩, fun c hcm => ?_⟩
    · exact (sb.2 _ S.TIz).trans (hk _ _ S.TIz S.TITO S.TIi1 S.TIi2 hTI)
    · exact (sb.2 _ S.TOz).trans hTO'
    · exact st1.1.keep fun o q => (sb.2 _ S.zi1.symm).trans q
    · exact st2.1.keep fun o q => (sb.2 _ S.zi2.symm).trans q
    · have lt : c < s.heap.objs.size := by
        simp only [List.mem_cons, List.not_mem_nil, or_false] at hcm
        obtain ⟨o1, e1, _⟩ := h1.obj
        obtain ⟨o2, e2, _⟩ := h2.obj
        rcases hcm with rfl | rfl | rfl | rfl | rfl
        · exact zl
        · exact Heap.lt_size hTI
        · exact Heap.lt_size hTO
        · exact Heap.lt_size e1
        · exact Heap.lt_size e2
      rw [upd_ne (Nat.ne_of_lt lt)]
      exact (hf c hcm).1
  done := by
    intro X hP hw hK hc i pins s σ H E I hf st hg
    subst hP hw hK
    obtain ⟨hz, hTI, ⟨x0, y0, hTO⟩, h1, h2⟩ := st
    obtain ⟨xs, ys, qx, qy, l1, l2, hend⟩ := hg
    obtain ⟨its, rv, p1, _⟩ := inv_sqX I qx
    obtain ⟨its2, rv2, p2, _⟩ := inv_sqX I qy
    have s1 : its.toArray.size = xs.length := by rw [List.size_toArray, rv.length]
    have s2 : its2.toArray.size = ys.length := by rw [List.size_toArray, rv2.length]
    have hd : X.A.in1.handled = none := I.ok.hd hc
    refine wpAny_pyNext_zipD2_end S (drawsX hd t i1 a (p1.ne_it h1) its.toArray) (drawsX hd u i2 b (p2.ne_it h2) its2.toArray) hz hTI hTO ⟨h1, p1⟩ ⟨h2, p2⟩ (by omega) (by omega) (by omega) fun h' tk hk => ⟨rfl, ?_⟩
    exact I.turnedL (t' := tk) (ch := [z, TI, TO, i1, i2]) (fun c o nb q => by
      simp only [List.mem_cons, List.not_mem_nil, or_false, not_or] at nb
      exact hk c o nb.1 nb.2.2.1 nb.2.2.2.1 nb.2.2.2.2 q) hf
  self := fun A i s Q E st h => wpAny_pyIter_zip st.1 h
/-- a sequence: which kind, what it holds -/
theorem seqX_ok {C : Cn} {W : Wd} {H : Hp} {st : Store} {v : D} {x : V} {ds : List D} (o : WOk C W H st) (r : RelD C W x v) (e : seqV st v = some ds) : ∃ (t : Bool) (a : Addr) (vs : List V), x = .ref a ∧ SqX C.K t H a vs ∧ RelDs C W vs ds ∧ ∀ {W' : Wd} {H' : Hp} {st' : Store} {ds' : List D}, W.le W' → WOk C W' H' st' → seqV st' v = some ds' → ∃ vs', SqX C.K t H' a vs' ∧ RelDs C W' vs' ds' := by
  cases q : listV st v with
  | some zs =>
    have ez : zs = ds := by unfold seqV at e; rw [q] at e; exact Option.some.inj e
    subst ez
    obtain ⟨a, vs, rfl, hv, rv⟩ := listV_ok o r q
    refine ⟨false, a, vs, rfl, hv, rv, fun {W' H' st' ds'} l o' e' => ?_⟩
    cases q' : listV st' v with
    | some zs' =>
      have ez' : zs' = ds' := by unfold seqV at e'; rw [q'] at e'; exact Option.some.inj e'
      subst ez'
      obtain ⟨a', vs', ea, hv', rv'⟩ := listV_ok o' (r.mono l) q'
      cases ea
      exact ⟨vs', hv', rv'⟩
    | none =>
      have et : tupV v = none := listV_tup q
      unfold seqV at e'
      rw [q', et] at e'
      cases e'
  | none =>
    have et : tupV v = some ds := by unfold seqV at e; rw [q] at e; simpa using e
    obtain ⟨a, vs, rfl, hv, rv⟩ := tupV_ok o r et
    refine ⟨true, a, vs, rfl, hv, rv, fun {W' H' st' ds'} l o' e' => ?_⟩
    have e2 : tupV v = some ds' := by
      cases v <;> simp only [tupV] at et <;> cases et
      have e3 : seqV st' (.tup ds) = some ds := rfl
      rw [e3] at e'
      cases e'
      rfl
    obtain ⟨a', vs', ea, hv', rv'⟩ := tupV_ok o' (r.mono l) e2
    cases ea
    exact ⟨vs', hv', rv'⟩
theorem sep5 (n a b : Nat) (ha : a < n) (hb : b < n) : ZipSep2 (n + 4 : Nat) (n + 2 : Nat) (n + 3 : Nat) n (n + 1 : Nat) [n, a] [(n + 1 : Nat), b] := by
  have h1 : ∀ i j : Nat, i ≠ j → n + i ≠ n + j := fun i j h e => h (Nat.add_left_cancel e)
  have h0 : ∀ j : Nat, j ≠ 0 → n + j ≠ n := fun j h e => h (Nat.add_left_cancel (e.trans (Nat.add_zero n).symm))
  have ga : ∀ j : Nat, n + j ≠ a := fun j e => by have := Nat.le_add_right n j; omega
  have gb : ∀ j : Nat, n + j ≠ b := fun j e => by have := Nat.le_add_right n j; omega
  have ga0 : n ≠ a := Nat.ne_of_gt ha
  have gb0 : n ≠ b := Nat.ne_of_gt hb
  refine ⟨h1 _ _ (by decide), h1 _ _ (by decide), h1 _ _ (by decide), h0 _ (by decide), List.mem_cons_self, ?_, ?_, h1 _ _ (by decide), List.mem_cons_self, ?_, ?_, ?_, ?_⟩ <;>
  · intro hm
    rcases List.mem_cons.mp hm with e | e
    · first | exact h0 _ (by decide) e | exact h1 _ _ (by decide) e | exact h0 1 (by decide) e.symm
    · have e := List.mem_singleton.mp e
      first | exact ga _ e | exact gb _ e | exact gb0 e | exact ga0 e
theorem si_zip {X : Cx} {Wx : WX} {e e2 : Expr} {ma : MA} {p pos tpos : Pos} {elts : List Expr} {kk : Nat} (hm : X.mg "zip" = none) (ha : SA X Wx [e, e2] ma) (hg : Gl X "zip" := by rfl) (hs : starEach [e, e2] X.env = (false, eval e X.env) :: starEach [e2] X.env := by rfl) (hpl : (backTo pos (starEach [e2] X.env)).any (·.1) = false := by rfl) :
    SI X Wx (.Tuple elts kk tpos) (.Call (.Name "zip" p) [e, e2] [] pos) (iZip ma) := by
  refine ⟨fun pins s σ H R I h => ?_⟩
  have h2 : LA (cn X) Wx ma σ H fun xs H1 => ∃ (t u : Bool) (a b : Addr) (vs ws : List V), xs = [.ref a, .ref b] ∧ SqX X.K t H1 a vs ∧ SqX X.K u H1 b ws ∧ R (ItzX X.K t u a b) H1 := lift1 h fun xs H1 vs W st ev o ee r q => by
    replace q : Fin (cn X) (relS (cn X)) W σ Wx R (srcZ vs st) := q
    unfold srcZ at q
    split at q
    · rename_i v u
      obtain ⟨x, y, rfl, r1, r2⟩ := rel2 r
      split at q
      · rename_i z1 z2
        obtain ⟨t, a, us, rfl, hu, ru, k1⟩ := seqX_ok o r1 z1
        obtain ⟨t2, b, ws, rfl, hw, rw', k2⟩ := seqX_ok o r2 z2
        refine ⟨t, t2, a, b, us, ws, rfl, hu, hw, q _ H1 W (Wd.le.refl W) o ?_⟩
        intro W' H' st' l o' i
        simp only [Src.item]
        split
        · rename_i xs ys q1 q2
          obtain ⟨us', hu', ru'⟩ := k1 l o' q1
          obtain ⟨ws', hw', rw''⟩ := k2 l o' q2
          by_cases hl : i ≤ xs.length ∧ i ≤ ys.length
          · rw [if_pos hl]
            have n1 := ru'.length
            have n2 := rw''.length
            cases g1 : xs[i]? with
            | none => exact ⟨us', ws', hu', hw', by omega, by omega, .inl (by have := List.getElem?_eq_none_iff.mp g1; omega)⟩
            | some d1 => cases g2 : ys[i]? with
              | none => exact ⟨us', ws', hu', hw', by omega, by omega, .inr (by have := List.getElem?_eq_none_iff.mp g2; omega)⟩
              | some d2 =>
                obtain ⟨x1, hx1, rx1⟩ := ru'.get g1
                obtain ⟨y1, hy1, ry1⟩ := rw''.get g2
                refine ⟨⟨us', ws', x1, y1, hu', hw', hx1, hy1⟩, fun tv H2 ⟨T, x', y', e0, hT, e1, e2', e3⟩ => ?_⟩
                subst e0 e1
                have e4 := e2' us' hu'
                rw [hx1] at e4
                cases e4
                have e5 := e3 ws' hw'
                rw [hy1] at e5
                cases e5
                obtain ⟨l2, o2⟩ := o'.grow (u := .tup [x1, y1]) hT
                exact ⟨_, l2, o2, .tup (.inl upd_same) (.cons (rx1.mono l2) (.cons (ry1.mono l2) .nil))⟩
          · rw [if_neg hl]; trivial
        · trivial
      · exact q.elim
    · exact q.elim
  refine Call_ (ld_blt I hg hm PyProof.Rows.boot_zip (PyProof.Rows.callWith_type1 (thn (ha.run pos pins s σ H _ I h2) fun us s1 ⟨vs, H1, I1, r1, t, u, a, b, xs, ys, ex, qa, qb, q⟩ => ?_) hs hpl))
  subst ex
  obtain ⟨ua, ub, rfl, ra, rb⟩ := vals2 r1
  cases (show ua = Value.ref a from ra)
  cases (show ub = Value.ref b from rb)
  obtain ⟨its, rv, p1, la⟩ := inv_sqX I1 qa
  obtain ⟨its2, rv2, p2, lb⟩ := inv_sqX I1 qb
  refine zip_begins2 (beginsX t a its.toArray) (beginsX u b its2.toArray) p1 p2 fun h' hz hTI hTO g1 g2 hsz hk => wpAny_pyIter_zip hz ?_
  have I2 := I1.kept (t' := s1.toks) hk
  refine ⟨s1.heap.objs.size + 4, [s1.heap.objs.size + 4, s1.heap.objs.size + 2, s1.heap.objs.size + 3, s1.heap.objs.size, s1.heap.objs.size + 1], _, _, H1, rfl, I2, turn_zipX (i1 := s1.heap.objs.size) (i2 := s1.heap.objs.size + 1) (TI := s1.heap.objs.size + 2) (TO := s1.heap.objs.size + 3) (sep5 _ _ _ la lb) (Nat.ne_of_lt (Nat.lt_succ_self _)), ⟨hz, hTI, ⟨_, _, hTO⟩, ItX.first g1, ItX.first g2⟩, fun c hcm => ?_, q⟩
  have hle : s1.heap.objs.size ≤ c := by
    simp only [List.mem_cons, List.not_mem_nil, or_false] at hcm
    rcases hcm with rfl | rfl | rfl | rfl | rfl <;> first | exact Nat.le_add_right _ _ | exact Nat.le_refl _
  exact I1.fpOk hle (I1.hok.fresh hle)
end Sim
end

section
/-! Sim 17: the set of a tuple of tuples of ints. -/
namespace L2
open PySem PySem.Spec PyProof.Rows
/-- a set as it is made -/
abbrev nset (w : World) : Obj := { cls := .type "set", dict := none, data := .set #[] 0 (.fresh 0 0 (!w.params.followText "set-order")) }
section
variable {P : Program} {w : World} {A : Around} {E : Value → Shared → Prop} {s : Shared}
theorem set_tupT {l : Addr} {items : Array Value} (ks : List (Addr × List Int)) {Q : Value → Shared → Prop} (quiet : A.handled = none) (src : s.heap.IsTuple l items) (its : items.toList = ks.map fun p => Value.ref p.1)
    (tups : ∀ p ∈ ks, IsT P w s.heap p.2 p.1) (few : ks.length < 64) (room : A.units + 3 < cLine)
    (fin : ∀ (h' : Heap) (tk : Nat) L es ep t, SetTR P w h' s.heap.objs.size L es ep t → Got ks ks.length L → (∀ b o, s.heap.get? b = some o → h'.get? b = some o) → Q (.ref s.heap.objs.size) { s with heap := h', toks := tk }) :
    wpAny (model P w) A (call (.type "set") [.ref l]) Q E s := by
  have many : items.size = ks.length := by rw [← Array.length_toList, its, List.length_map]
  obtain ⟨c, tl, mro⟩ := F.called_set.mro
  have made := F.called_set.made
  have isub := F.called_set.sub
  have noty := F.called_set.notType
  have cancr := F.called_set.canCreate
  have tcall := F.typeCall_set_1 (.ref l)
  refine wpAny_call (codeAny_of_tree (show wpAny _ _ (callAny (.type "set") _) _ _ _ from wpAny_pure ⟨Code.quiet_builtin _ (by decide +kernel), codeAny_builtin F.entry_type_call ?_⟩))
  rw [Around.under_plain (weight_type_call_type "set" [.ref l] []) rfl]
  repeat (any_goals (first | assumption | wp_step))
  refine codeAny_mono (code_set_led1 (.ref l) (E := E) (Q₁ := fun obj s1 => obj = .ref s.heap.objs.size ∧ s1 = { s with heap := s.heap.push (nset w) }) ⟨rfl, rfl⟩) fun r s1 back => ?_
  match r, back with
  | .error e, back => exact back
  | .ok .next, back => exact back.elim
  | .ok .brk, back => exact back.elim
  | .ok .cont, back => exact back.elim
  | .ok (.ret obj), back =>
    obtain ⟨rfl, rfl⟩ := back
    have born : (s.heap.push (nset w)).get? s.heap.objs.size = some (nset w) := Heap.get?_push_size _ rfl
    have isSet : Shared.TypeIs { s with heap := s.heap.push (nset w) } (.ref s.heap.objs.size) "set" := ⟨_, born, rfl⟩
    have ilook := F.called_set.init.lookup
    have ibind := F.called_set.init.bind (.ref s.heap.objs.size)
    repeat (any_goals (first | assumption | wp_step))
    refine codeAny_mono (codeAny_call_builtin (R := wants (fun r s2 => r = .none ∧ ∃ h' tk L es ep t, s2 = { s with heap := h', toks := tk } ∧ SetTR P w h' s.heap.objs.size L es ep t ∧ Got ks ks.length L ∧ (∀ b o, s.heap.get? b = some o → h'.get? b = some o)) E) F.called_set.init.plain F.entry_set_init (check_set_init_1 isSet ?_)) fun r2 s2 back2 => ?_
    · obtain ⟨⟨oc, od, odat, osl⟩, at_, ecl, nl, edl⟩ := src
      simp only at ecl edl
      subst ecl edl
      have at1 : (s.heap.push (nset w)).get? l = some { cls := .type "tuple", dict := od, data := .seq items nl, slots := osl } := Heap.get?_push_of_some _ at_
      have n1 := F.sub_tuple_set
      have n2 := F.sub_tuple_frozenset
      have n3 : (Value.type "tuple" == Value.type "dict") = false := by decide
      have tup1 : (s.heap.push (nset w)).IsTuple l items := ⟨_, at1, rfl, nl, rfl⟩
      unfold Builtin.«set.__init__» noKeywords Builtin.Frozenset.updateFrom
      generalize epi : pyIter = PI
      wp_walk
      subst epi
      refine wpAny_pyIter_tuple tup1 (wpAny_bind (wpAny_runValue ?_))
      have low : l < s.heap.objs.size := Heap.lt_size at_
      have calm3 : A.in1.in1.in1.handled = none := by simp [quiet]
      have size1 : (s.heap.push (nset w)).objs.size = s.heap.objs.size + 1 := Heap.size_push ..
      have apart : l ≠ (s.heap.push (nset w)).objs.size := by rw [size1]; exact Nat.ne_of_lt (Nat.lt_succ_of_lt low)
      have off : s.heap.objs.size ∉ [(s.heap.push (nset w)).objs.size, l] := by
        rw [size1]
        simp only [List.mem_cons, List.not_mem_nil, or_false, not_or]
        exact ⟨Nat.ne_of_lt (Nat.lt_succ_self _), Nat.ne_of_gt low⟩
      have item : ∀ (i : Nat) (v : Value), items[i]? = some v → ∃ p, ks[i]? = some p ∧ v = .ref p.1 := fun i v hv => by
        have q : items.toList[i]? = some v := by rw [Array.getElem?_toList]; exact hv
        rw [its, List.getElem?_map] at q
        obtain ⟨p, e1, e2⟩ := Option.map_eq_some_iff.mp q
        exact ⟨p, e1, e2.symm⟩
      have void : ∀ b, s.heap.objs.size ≤ b → s.heap.get? b = none := fun b hb => by
        cases q : s.heap.get? b with
        | none => rfl
        | some o => exact absurd (Heap.lt_size q) (Nat.not_lt.mpr hb)
      refine set_update_tups ((Walks.tuple calm3 _ l apart items).toS) s.heap.objs.size off ks many few item s.heap tups (void _ (Nat.le_refl _)) (fun b hb => void b (by rw [List.mem_singleton.mp hb, size1]; exact Nat.le_succ _)) room (items.size - 0) 0 _ (by omega) (Nat.zero_le _)
        ⟨⟨_, Heap.get?_push_size _ rfl, rfl, rfl⟩, (tup1.push _)⟩ (fun b o e => Heap.get?_push_of_some _ (Heap.get?_push_of_some _ e)) ⟨[], #[], 0, _, setTR_fresh (Heap.get?_push_of_some _ born), Got.zero ks⟩ fun s' L es ep t moved set' got kept => ?_
      obtain ⟨h', g2, d', tk', os'⟩ := s'
      obtain rfl : g2 = s.gens := moved.gens
      obtain rfl : d' = s.drawn := moved.drawn
      obtain rfl : os' = s.os := moved.os
      rw [many] at got
      exact wpAny_pure (show wpAny _ _ (ret Value.none) _ _ _ from wpAny_pure ⟨rfl, h', tk', L, es, ep, t, rfl, set', got, kept⟩)
    · match r2, back2 with
      | .error e, back2 => exact back2
      | .ok .next, back2 => exact back2.elim
      | .ok .brk, back2 => exact back2.elim
      | .ok .cont, back2 => exact back2.elim
      | .ok (.ret r), back2 =>
        obtain ⟨rfl, h', tk, L, es, ep, t, rfl, set', got, kept⟩ := back2
        repeat (any_goals (first | assumption | wp_step))
        exact fin _ _ _ _ _ _ set' got kept
end
end L2
namespace Sim
open PySem PySem.Spec PyProof.Rows L2 RZ
/-- tuples of ints -/
def asTupI : List D → Option (List (List Int))
  | [] => some []
  | .tup xs :: r => match asInts xs, asTupI r with
    | some a, some b => some (a :: b)
    | _, _ => none
  | _ => none
/-- each once -/
def once {α : Type} [DecidableEq α] : List α → List α
  | [] => []
  | x :: r => if x ∈ r then once r else x :: once r
theorem mem_once {α : Type} [DecidableEq α] {a : α} : ∀ {l : List α}, a ∈ once l ↔ a ∈ l
  | [] => Iff.rfl
  | x :: r => by
    unfold once
    split
    · rename_i h
      rw [mem_once, List.mem_cons]
      exact ⟨.inr, fun z => z.elim (fun e => e ▸ h) id⟩
    · rw [List.mem_cons, List.mem_cons, mem_once]
theorem nodup_once {α : Type} [DecidableEq α] : ∀ l : List α, (once l).Nodup
  | [] => List.nodup_nil
  | x :: r => by
    unfold once
    split
    · exact nodup_once r
    · rename_i h
      exact List.nodup_cons.mpr ⟨fun z => h (mem_once.mp z), nodup_once r⟩
theorem once_len {α : Type} [DecidableEq α] {l m : List α} (hl : l.Nodup) (h : ∀ a, a ∈ l ↔ a ∈ m) : l.length = (once m).length :=
  ((List.perm_ext_iff_of_nodup hl (nodup_once m)).mpr fun a => (h a).trans mem_once.symm).length_eq
def gLenSet (v : D) : O D := fun st => match v with
  | .tup xs => (match asTupI xs with
    | some ns => if ns.length < 64 then some (.int ((once ns).length : Nat), st) else none
    | none => none)
  | _ => none
theorem asTupI_ok {C : Cn} {W : Wd} {H : Hp} (sm : Same W.G H) : ∀ {ds : List D} {vs : List V} {ns : List (List Int)}, RelDs C W vs ds → asTupI ds = some ns → ∃ ks : List (Addr × List Int), vs = ks.map (fun p => V.ref p.1) ∧ ks.map (·.2) = ns ∧ ∀ p ∈ ks, SqT C.K H p.1 (p.2.map V.int)
  | [], _, _, r, e => by cases r; cases e; exact ⟨[], rfl, rfl, fun p h => by cases h⟩
  | d :: ds, _, ns, r, e => by
    cases r with
    | cons r1 r2 =>
      cases d <;> simp only [asTupI] at e <;> try cases e
      rename_i xs
      cases q1 : asInts xs with
      | none => rw [q1] at e; cases e
      | some a =>
        cases q2 : asTupI ds with
        | none => rw [q1, q2] at e; cases e
        | some b =>
          rw [q1, q2] at e
          cases e
          obtain ⟨ks, h1, h2, h3⟩ := asTupI_ok sm r2 q2
          cases r1 with
          | tup ht rv =>
            rename_i p vs'
            rw [asInts_eq q1] at rv
            have ev := RelDs.ints rv
            subst ev
            exact ⟨(p, a) :: ks, by rw [h1]; rfl, by rw [List.map_cons, h2], fun p' hp' => by
              rcases List.mem_cons.mp hp' with rfl | hp'
              · exact (ht.mono sm).sq
              · exact h3 p' hp'⟩
theorem se_lenSet {X : Cx} {Wx : WX} {e : Expr} {m : ME} {p p2 q pos : Pos} (hu : X.A.units + 64 < cLine) (h1 : X.mg "len" = none) (h2 : X.mg "set" = none) (ha : SE X Wx e m) (hc : X.calm = true := by rfl) (hg : Gl X "len" := by rfl) (hg2 : Gl X "set" := by rfl)
    (na : starEach [e] X.env = (false, eval e X.env) :: starEach [] X.env := by rfl) : SE X Wx (.Call (.Name "len" p) [.Call (.Name "set" p2) [e] [] q] [] pos) (eUn gLenSet m) := by
  refine ⟨fun pins s σ H Q I h => ?_⟩
  have k2 : LE (cn X) Wx m σ H fun x H1 => ∃ (l : Addr) (ks : List (Addr × List Int)), x = .ref l ∧ SqT X.K H1 l (ks.map fun p => V.ref p.1) ∧ (∀ p ∈ ks, SqT X.K H1 p.1 (p.2.map V.int)) ∧ ks.length < 64 ∧ Q (.int ((once (ks.map (·.2))).length : Nat)) H1 := lift1 h fun x H1 v W st ev o ee r q => by
    have q := fin_of q
    unfold gLenSet at q
    split at q
    · rename_i xs
      split at q
      · rename_i ns e1
        split at q
        · rename_i hn
          obtain ⟨a, vs, rfl, hv, rv⟩ := tupV_ok o r (show tupV (.tup _) = some _ from rfl)
          obtain ⟨ks, e2, e3, e4⟩ := asTupI_ok o.same rv e1
          subst e2 e3
          exact ⟨a, ks, rfl, hv, e4, by simpa using hn, q _ H1 W (Wd.le.refl W) o (.int _)⟩
        · exact q.elim
      · exact q.elim
    · exact q.elim
  refine Call_ (ld_blt I hg h1 PySem.boot_len (PyProof.Rows.callWith_builtin1 (PyProof.Rows.args_cons ?_ rfl) rfl rfl))
  refine Call_ (ld_blt I hg2 h2 PyProof.Rows.boot_set (PyProof.Rows.callWith_type1 (PyProof.Rows.args_cons (thn (ha.run pins s σ H _ I k2) fun v s1 ⟨x, H1, I1, r1, l, ks, ex, hl, hk, hf, q⟩ => PyProof.Rows.args_nil ?_) na) na rfl))
  subst ex
  cases r1
  obtain ⟨its, rv, pl, hz⟩ := I1.tuple hl
  refine set_tupT (P := X.prog) (w := X.w) ks (I1.ok.hd hc) (show s1.heap.IsTuple l its.toArray from pl) (by simpa using refs_of_vals rv) (fun p hp => I1.isT (hk p hp)) hf (by omega) fun h' tk L es ep t R g kp => ?_
  refine PyProof.Rows.args_nil ?_
  obtain ⟨o, ho, hex, hd⟩ := R.ob
  have hlen : L.length = (once (ks.map (·.2))).length := by
    have e := once_len (l := L.map (·.2)) (m := ks.map (·.2)) R.nd fun a => ⟨fun z => by
      obtain ⟨p, hp, rfl⟩ := List.mem_map.mp z
      exact List.mem_map.mpr ⟨p, List.mem_of_mem_take (g.sub p hp), rfl⟩, fun z => by
      obtain ⟨p, hp, rfl⟩ := List.mem_map.mp z
      exact g.all p (by rw [List.take_length]; exact hp)⟩
    rw [List.length_map] at e
    exact e
  have I2 := I1.kept (t' := tk) kp
  have hsz : es.size = L.length := SetTR.size (s := { s1 with heap := h', toks := tk }) R
  refine call_len_set (s := { s1 with heap := h', toks := tk }) ho hex hd (SetTR.fits (s := { s1 with heap := h', toks := tk }) R) (by rw [hsz]; have := R.few; omega) ⟨.int ((once (ks.map (·.2))).length : Nat), H1, I2.tok _, ⟨_, by rw [hsz, hlen]⟩, q⟩
end Sim
end

section
open PySem PySem.Spec PyProof.Rows L2 RZ Sim
namespace K15
def topS (i : Nat) : Stmt := PySem.Challenge.pw_talkerfates_k15_how_far_into_bars.main.body.getD i (.Pass ⟨0, 0, 0, 0⟩)
def inCls (s : Stmt) (j : Nat) : Stmt := match s with
  | .ClassDef _ _ _ b _ _ _ _ _ _ _ => b.getD j (.Pass ⟨0, 0, 0, 0⟩)
  | _ => .Pass ⟨0, 0, 0, 0⟩
abbrev s_is_integer : Stmt := topS 7
abbrev N_is_integer : List Str := ["value"]
abbrev s_is_within : Stmt := topS 8
abbrev N_is_within : List Str := ["value", "least", "most"]
abbrev s_need_number : Stmt := topS 11
abbrev N_need_number : List Str := ["value", "part", "least", "most"]
abbrev s_is_list : Stmt := topS 9
abbrev N_is_list : List Str := ["value"]
abbrev s_is_text : Stmt := topS 10
abbrev N_is_text : List Str := ["value", "letters", "most", "each"]
abbrev s_need_text : Stmt := topS 12
abbrev N_need_text : List Str := ["value", "letters", "part", "most"]
abbrev s_far_on : Stmt := topS 17
abbrev N_far_on : List Str := ["words", "how", "letter", "reply", "at", "word"]
abbrev s_need_bar : Stmt := topS 19
abbrev N_need_bar : List Str := ["value"]
abbrev s_far : Stmt := topS 20
abbrev N_far : List Str := ["bar", "how", "letter", "held", "said"]
abbrev s_breaks_at : Stmt := topS 18
abbrev N_breaks_at : List Str := ["words", "how", "word"]
abbrev s_is_broken : Stmt := topS 21
abbrev N_is_broken : List Str := ["bar", "how", "held"]
abbrev s__law_pen : Stmt := topS 23
abbrev N__law_pen : List Str := ["script"]
abbrev s__law_draw : Stmt := topS 24
abbrev N__law_draw : List Str := ["pen", "many", "digit", "at", "cell", "great", "mixed"]
abbrev s__law_pick : Stmt := topS 25
abbrev N__law_pick : List Str := ["pen", "some"]
abbrev s_Bar___init__ : Stmt := inCls (topS 16) 0
abbrev N_Bar___init__ : List Str := ["self", "words", "word", "held"]
abbrev s__law_bar : Stmt := topS 26
abbrev N__law_bar : List Str := ["words"]
abbrev s__law_truth : Stmt := topS 27
abbrev N__law_truth : List Str := ["told", "due"]
abbrev s__law_plain : Stmt := topS 28
abbrev N__law_plain : List Str := ["told", "due", "one", "other"]
abbrev s__law_drawn : Stmt := topS 29
abbrev N__law_drawn : List Str := ["pen", "letters", "row", "found", "turn", "at", "size", "word", "more"]
abbrev s__law_far : Stmt := topS 30
abbrev N__law_far : List Str := ["words", "said", "at", "word"]
abbrev s__law_next : Stmt := topS 31
abbrev N__law_next : List Str := ["pen", "words", "how", "letters", "some", "word"]
abbrev s_Bar___eq__ : Stmt := inCls (topS 16) 1
abbrev N_Bar___eq__ : List Str := ["self", "other"]
abbrev s__law_bar_right : Stmt := topS 32
abbrev N__law_bar_right : List Str := ["bar", "words", "told", "word", "turned", "other"]
abbrev s_law : Stmt := topS 33
abbrev N_law : List Str := ["script", "pen", "letters", "words", "held", "word", "bar", "said", "how", "turn", "letter", "whole", "due", "broken", "row"]
/-- the tables of fields, of classes -/
def FT : List (Str × Str) := [("Bar", "words")]
def CS : List Str := ["Bar"]
def KT : KitTb := [(.inl "bool", .inr "Bar", false), (.inl "int", .inr "Bar", false), (.inl "str", .inr "Bar", false), (.inl "list", .inr "Bar", false), (.inl "tuple", .inr "Bar", false), (.inl "dict", .inr "Bar", false), (.inl "NoneType", .inr "Bar", false), (.inr "Bar", .inr "Bar", true)]
def NF_Bar : List (String ⊕ Str) := [.inl "bool", .inl "int", .inl "str", .inl "list", .inl "tuple", .inl "dict", .inl "NoneType", .inr "Bar"]
/-- what the top has written -/
structure TX (K : PySem.W.Frag) (mg : Str → Option Value) where
  f_is_integer : Addr
  fd_is_integer : FuncData
  F_is_integer : FunD K "is_integer" "is_integer" (defArgs s_is_integer) (defBody s_is_integer) (defScope s_is_integer) [] [] f_is_integer fd_is_integer
  m_is_integer : mg "is_integer" = some (.ref f_is_integer)
  f_is_within : Addr
  fd_is_within : FuncData
  F_is_within : FunD K "is_within" "is_within" (defArgs s_is_within) (defBody s_is_within) (defScope s_is_within) [] [] f_is_within fd_is_within
  m_is_within : mg "is_within" = some (.ref f_is_within)
  f_need_number : Addr
  fd_need_number : FuncData
  F_need_number : FunD K "need_number" "need_number" (defArgs s_need_number) (defBody s_need_number) (defScope s_need_number) [.non, .non] [] f_need_number fd_need_number
  m_need_number : mg "need_number" = some (.ref f_need_number)
  f_is_list : Addr
  fd_is_list : FuncData
  F_is_list : FunD K "is_list" "is_list" (defArgs s_is_list) (defBody s_is_list) (defScope s_is_list) [] [] f_is_list fd_is_list
  m_is_list : mg "is_list" = some (.ref f_is_list)
  f_is_text : Addr
  fd_is_text : FuncData
  F_is_text : FunD K "is_text" "is_text" (defArgs s_is_text) (defBody s_is_text) (defScope s_is_text) [.int 1000] [] f_is_text fd_is_text
  m_is_text : mg "is_text" = some (.ref f_is_text)
  f_need_text : Addr
  fd_need_text : FuncData
  F_need_text : FunD K "need_text" "need_text" (defArgs s_need_text) (defBody s_need_text) (defScope s_need_text) [.str "text", .int 1000] [] f_need_text fd_need_text
  m_need_text : mg "need_text" = some (.ref f_need_text)
  f_far_on : Addr
  fd_far_on : FuncData
  F_far_on : FunD K "far_on" "far_on" (defArgs s_far_on) (defBody s_far_on) (defScope s_far_on) [] [] f_far_on fd_far_on
  m_far_on : mg "far_on" = some (.ref f_far_on)
  f_need_bar : Addr
  fd_need_bar : FuncData
  F_need_bar : FunD K "need_bar" "need_bar" (defArgs s_need_bar) (defBody s_need_bar) (defScope s_need_bar) [] [] f_need_bar fd_need_bar
  m_need_bar : mg "need_bar" = some (.ref f_need_bar)
  f_far : Addr
  fd_far : FuncData
  F_far : FunD K "far" "far" (defArgs s_far) (defBody s_far) (defScope s_far) [] [] f_far fd_far
  m_far : mg "far" = some (.ref f_far)
  f_breaks_at : Addr
  fd_breaks_at : FuncData
  F_breaks_at : FunD K "breaks_at" "breaks_at" (defArgs s_breaks_at) (defBody s_breaks_at) (defScope s_breaks_at) [] [] f_breaks_at fd_breaks_at
  m_breaks_at : mg "breaks_at" = some (.ref f_breaks_at)
  f_is_broken : Addr
  fd_is_broken : FuncData
  F_is_broken : FunD K "is_broken" "is_broken" (defArgs s_is_broken) (defBody s_is_broken) (defScope s_is_broken) [] [] f_is_broken fd_is_broken
  m_is_broken : mg "is_broken" = some (.ref f_is_broken)
  f__law_pen : Addr
  fd__law_pen : FuncData
  F__law_pen : FunD K "_law_pen" "_law_pen" (defArgs s__law_pen) (defBody s__law_pen) (defScope s__law_pen) [] [] f__law_pen fd__law_pen
  m__law_pen : mg "_law_pen" = some (.ref f__law_pen)
  f__law_draw : Addr
  fd__law_draw : FuncData
  F__law_draw : FunD K "_law_draw" "_law_draw" (defArgs s__law_draw) (defBody s__law_draw) (defScope s__law_draw) [] [] f__law_draw fd__law_draw
  m__law_draw : mg "_law_draw" = some (.ref f__law_draw)
  f__law_pick : Addr
  fd__law_pick : FuncData
  F__law_pick : FunD K "_law_pick" "_law_pick" (defArgs s__law_pick) (defBody s__law_pick) (defScope s__law_pick) [] [] f__law_pick fd__law_pick
  m__law_pick : mg "_law_pick" = some (.ref f__law_pick)
  f_Bar___init__ : Addr
  fd_Bar___init__ : FuncData
  F_Bar___init__ : FunD K "__init__" "Bar.__init__" (defArgs s_Bar___init__) (defBody s_Bar___init__) (defScope s_Bar___init__) [] [] f_Bar___init__ fd_Bar___init__
  f__law_bar : Addr
  fd__law_bar : FuncData
  F__law_bar : FunD K "_law_bar" "_law_bar" (defArgs s__law_bar) (defBody s__law_bar) (defScope s__law_bar) [] [] f__law_bar fd__law_bar
  m__law_bar : mg "_law_bar" = some (.ref f__law_bar)
  f__law_truth : Addr
  fd__law_truth : FuncData
  F__law_truth : FunD K "_law_truth" "_law_truth" (defArgs s__law_truth) (defBody s__law_truth) (defScope s__law_truth) [] [] f__law_truth fd__law_truth
  m__law_truth : mg "_law_truth" = some (.ref f__law_truth)
  f__law_plain : Addr
  fd__law_plain : FuncData
  F__law_plain : FunD K "_law_plain" "_law_plain" (defArgs s__law_plain) (defBody s__law_plain) (defScope s__law_plain) [] [] f__law_plain fd__law_plain
  m__law_plain : mg "_law_plain" = some (.ref f__law_plain)
  f__law_drawn : Addr
  fd__law_drawn : FuncData
  F__law_drawn : FunD K "_law_drawn" "_law_drawn" (defArgs s__law_drawn) (defBody s__law_drawn) (defScope s__law_drawn) [] [] f__law_drawn fd__law_drawn
  m__law_drawn : mg "_law_drawn" = some (.ref f__law_drawn)
  f__law_far : Addr
  fd__law_far : FuncData
  F__law_far : FunD K "_law_far" "_law_far" (defArgs s__law_far) (defBody s__law_far) (defScope s__law_far) [] [] f__law_far fd__law_far
  m__law_far : mg "_law_far" = some (.ref f__law_far)
  f__law_next : Addr
  fd__law_next : FuncData
  F__law_next : FunD K "_law_next" "_law_next" (defArgs s__law_next) (defBody s__law_next) (defScope s__law_next) [] [] f__law_next fd__law_next
  m__law_next : mg "_law_next" = some (.ref f__law_next)
  f_Bar___eq__ : Addr
  fd_Bar___eq__ : FuncData
  F_Bar___eq__ : FunD K "__eq__" "Bar.__eq__" (defArgs s_Bar___eq__) (defBody s_Bar___eq__) (defScope s_Bar___eq__) [] [] f_Bar___eq__ fd_Bar___eq__
  f__law_bar_right : Addr
  fd__law_bar_right : FuncData
  F__law_bar_right : FunD K "_law_bar_right" "_law_bar_right" (defArgs s__law_bar_right) (defBody s__law_bar_right) (defScope s__law_bar_right) [] [] f__law_bar_right fd__law_bar_right
  m__law_bar_right : mg "_law_bar_right" = some (.ref f__law_bar_right)
  f_law : Addr
  fd_law : FuncData
  F_law : FunD K "law" "law" (defArgs s_law) (defBody s_law) (defScope s_law) [] [] f_law fd_law
  m_law : mg "law" = some (.ref f_law)
  k_MOST_LETTERS : (t : Tok) ×' mg "MOST_LETTERS" = some (.int 6 t)
  k_MOST_WORDS : (t : Tok) ×' mg "MOST_WORDS" = some (.int 3 t)
  b_abs : mg "abs" = none
  b_all : mg "all" = none
  b_any : mg "any" = none
  b_bool : mg "bool" = none
  b_int : mg "int" = none
  b_isinstance : mg "isinstance" = none
  b_len : mg "len" = none
  b_list : mg "list" = none
  b_max : mg "max" = none
  b_range : mg "range" = none
  b_set : mg "set" = none
  b_tuple : mg "tuple" = none
  b_zip : mg "zip" = none
  a_Bar : Addr
  m_Bar : mg "Bar" = some (.ref a_Bar)
  ins_Bar : InsC K a_Bar
  no_Bar_words : NoAttr K a_Bar "words"
  mk_Bar : Mk K a_Bar f_Bar___init__
  eq_Bar : EqC K mg a_Bar f_Bar___eq__ NF_Bar
  kt_0 : PySem.W.kitOne K (.type "bool") (.ref a_Bar) = some false
  kt_1 : PySem.W.kitOne K (.type "int") (.ref a_Bar) = some false
  kt_2 : PySem.W.kitOne K (.type "str") (.ref a_Bar) = some false
  kt_3 : PySem.W.kitOne K (.type "list") (.ref a_Bar) = some false
  kt_4 : PySem.W.kitOne K (.type "tuple") (.ref a_Bar) = some false
  kt_5 : PySem.W.kitOne K (.type "dict") (.ref a_Bar) = some false
  kt_6 : PySem.W.kitOne K (.type "NoneType") (.ref a_Bar) = some false
  kt_7 : PySem.W.kitOne K (.ref a_Bar) (.ref a_Bar) = some true
section
variable {P : Program} {w : World} {K : PySem.W.Frag} {mg : Str → Option Value} {base : Heap}
theorem TX.ins (T : TX K mg) : InsT K mg CS := by
  intro c hc A hA
  simp only [CS, List.mem_cons, List.not_mem_nil, or_false] at hc
  rcases hc with rfl
  · cases (T.m_Bar.symm.trans hA); exact T.ins_Bar
theorem TX.ft (T : TX K mg) : FldT K mg FT := by
  intro c f hm A hA
  simp only [FT, List.mem_cons, List.not_mem_nil, or_false, Prod.mk.injEq] at hm
  rcases hm with ⟨rfl, rfl⟩
  · cases (T.m_Bar.symm.trans hA); exact ⟨T.ins_Bar.cl, T.no_Bar_words⟩
theorem TX.kit (T : TX K mg) : KitOk K mg KT := by
  intro a b k hm t u ht hu
  simp only [KT, List.mem_cons, List.not_mem_nil, or_false, Prod.mk.injEq] at hm
  rcases hm with ⟨rfl, rfl, rfl⟩ | ⟨rfl, rfl, rfl⟩ | ⟨rfl, rfl, rfl⟩ | ⟨rfl, rfl, rfl⟩ | ⟨rfl, rfl, rfl⟩ | ⟨rfl, rfl, rfl⟩ | ⟨rfl, rfl, rfl⟩ | ⟨rfl, rfl, rfl⟩
  · cases ht; cases (T.m_Bar.symm.trans hu); exact T.kt_0
  · cases ht; cases (T.m_Bar.symm.trans hu); exact T.kt_1
  · cases ht; cases (T.m_Bar.symm.trans hu); exact T.kt_2
  · cases ht; cases (T.m_Bar.symm.trans hu); exact T.kt_3
  · cases ht; cases (T.m_Bar.symm.trans hu); exact T.kt_4
  · cases ht; cases (T.m_Bar.symm.trans hu); exact T.kt_5
  · cases ht; cases (T.m_Bar.symm.trans hu); exact T.kt_6
  · cases (T.m_Bar.symm.trans ht); cases (T.m_Bar.symm.trans hu); exact T.kt_7
theorem bd_is_integer_1 (T : TX K mg) : Bd K T.fd_is_integer ["value"] 1 [] [] [0] :=
  bd_plain T.F_is_integer fun _ _ _ _ _ _ us ws h1 h2 => match us, ws, h1, h2 with | [_], [], _, _ => rfl
theorem bd_is_within_3 (T : TX K mg) : Bd K T.fd_is_within ["value", "least", "most"] 3 [] [] [0, 1, 2] :=
  bd_plain T.F_is_within fun _ _ _ _ _ _ us ws h1 h2 => match us, ws, h1, h2 with | [_, _, _], [], _, _ => rfl
theorem bd_is_list_1 (T : TX K mg) : Bd K T.fd_is_list ["value"] 1 [] [] [0] :=
  bd_plain T.F_is_list fun _ _ _ _ _ _ us ws h1 h2 => match us, ws, h1, h2 with | [_], [], _, _ => rfl
theorem bd_is_text_3 (T : TX K mg) : Bd K T.fd_is_text ["value", "letters", "most"] 3 [] [.int 1000] [0, 1, 2] :=
  bd_dfl T.F_is_text (fun z => nomatch z) fun _ _ _ _ _ _ _ us its ws h1 h2 h3 => match us, its, ws, h1, h2, h3 with | [_, _, _], [_], [], _, _, _ => ⟨_, rfl, rfl⟩
theorem bd_need_bar_1 (T : TX K mg) : Bd K T.fd_need_bar ["value"] 1 [] [] [0] :=
  bd_plain T.F_need_bar fun _ _ _ _ _ _ us ws h1 h2 => match us, ws, h1, h2 with | [_], [], _, _ => rfl
theorem bd_need_text_3 (T : TX K mg) : Bd K T.fd_need_text ["value", "letters", "part", "most"] 3 [] [.str "text", .int 1000] [0, 1, 2, 4] :=
  bd_dfl T.F_need_text (fun z => nomatch z) fun _ _ _ _ _ _ _ us its ws h1 h2 h3 => match us, its, ws, h1, h2, h3 with | [_, _, _], [_, _], [], _, _, _ => ⟨_, rfl, rfl⟩
theorem bd_far_on_3 (T : TX K mg) : Bd K T.fd_far_on ["words", "how", "letter"] 3 [] [] [0, 1, 2] :=
  bd_plain T.F_far_on fun _ _ _ _ _ _ us ws h1 h2 => match us, ws, h1, h2 with | [_, _, _], [], _, _ => rfl
theorem bd_need_number_4 (T : TX K mg) : Bd K T.fd_need_number ["value", "part", "least", "most"] 4 [] [.non, .non] [0, 1, 2, 3] :=
  bd_dfl T.F_need_number (fun z => nomatch z) fun _ _ _ _ _ _ _ us its ws h1 h2 h3 => match us, its, ws, h1, h2, h3 with | [_, _, _, _], [_, _], [], _, _, _ => ⟨_, rfl, rfl⟩
theorem bd_breaks_at_2 (T : TX K mg) : Bd K T.fd_breaks_at ["words", "how"] 2 [] [] [0, 1] :=
  bd_plain T.F_breaks_at fun _ _ _ _ _ _ us ws h1 h2 => match us, ws, h1, h2 with | [_, _], [], _, _ => rfl
theorem bd__law_pen_1 (T : TX K mg) : Bd K T.fd__law_pen ["script"] 1 [] [] [0] :=
  bd_plain T.F__law_pen fun _ _ _ _ _ _ us ws h1 h2 => match us, ws, h1, h2 with | [_], [], _, _ => rfl
theorem bd__law_pick_2 (T : TX K mg) : Bd K T.fd__law_pick ["pen", "some"] 2 [] [] [0, 1] :=
  bd_plain T.F__law_pick fun _ _ _ _ _ _ us ws h1 h2 => match us, ws, h1, h2 with | [_, _], [], _, _ => rfl
theorem bd__law_drawn_2 (T : TX K mg) : Bd K T.fd__law_drawn ["pen", "letters"] 2 [] [] [0, 1] :=
  bd_plain T.F__law_drawn fun _ _ _ _ _ _ us ws h1 h2 => match us, ws, h1, h2 with | [_, _], [], _, _ => rfl
theorem bd__law_bar_1 (T : TX K mg) : Bd K T.fd__law_bar ["words"] 1 [] [] [0] :=
  bd_plain T.F__law_bar fun _ _ _ _ _ _ us ws h1 h2 => match us, ws, h1, h2 with | [_], [], _, _ => rfl
theorem bd__law_bar_right_2 (T : TX K mg) : Bd K T.fd__law_bar_right ["bar", "words"] 2 [] [] [0, 1] :=
  bd_plain T.F__law_bar_right fun _ _ _ _ _ _ us ws h1 h2 => match us, ws, h1, h2 with | [_, _], [], _, _ => rfl
theorem bd__law_next_4 (T : TX K mg) : Bd K T.fd__law_next ["pen", "words", "how", "letters"] 4 [] [] [0, 1, 2, 3] :=
  bd_plain T.F__law_next fun _ _ _ _ _ _ us ws h1 h2 => match us, ws, h1, h2 with | [_, _, _, _], [], _, _ => rfl
theorem bd__law_far_2 (T : TX K mg) : Bd K T.fd__law_far ["words", "said"] 2 [] [] [0, 1] :=
  bd_plain T.F__law_far fun _ _ _ _ _ _ us ws h1 h2 => match us, ws, h1, h2 with | [_, _], [], _, _ => rfl
theorem bd__law_plain_2 (T : TX K mg) : Bd K T.fd__law_plain ["told", "due"] 2 [] [] [0, 1] :=
  bd_plain T.F__law_plain fun _ _ _ _ _ _ us ws h1 h2 => match us, ws, h1, h2 with | [_, _], [], _, _ => rfl
theorem bd_far_3 (T : TX K mg) : Bd K T.fd_far ["bar", "how", "letter"] 3 [] [] [0, 1, 2] :=
  bd_plain T.F_far fun _ _ _ _ _ _ us ws h1 h2 => match us, ws, h1, h2 with | [_, _, _], [], _, _ => rfl
theorem bd__law_truth_2 (T : TX K mg) : Bd K T.fd__law_truth ["told", "due"] 2 [] [] [0, 1] :=
  bd_plain T.F__law_truth fun _ _ _ _ _ _ us ws h1 h2 => match us, ws, h1, h2 with | [_, _], [], _, _ => rfl
theorem bd_is_broken_2 (T : TX K mg) : Bd K T.fd_is_broken ["bar", "how"] 2 [] [] [0, 1] :=
  bd_plain T.F_is_broken fun _ _ _ _ _ _ us ws h1 h2 => match us, ws, h1, h2 with | [_, _], [], _, _ => rfl
theorem bd_is_broken_0_bar_how (T : TX K mg) : Bd K T.fd_is_broken ["bar", "how"] 0 ["bar", "how"] [] [0, 1] :=
  bd_plain T.F_is_broken fun _ _ _ _ _ _ us ws h1 h2 => match us, ws, h1, h2 with | [], [_, _], _, _ => rfl
theorem bd__law_draw_2 (T : TX K mg) : Bd K T.fd__law_draw ["pen", "many"] 2 [] [] [0, 1] :=
  bd_plain T.F__law_draw fun _ _ _ _ _ _ us ws h1 h2 => match us, ws, h1, h2 with | [_, _], [], _, _ => rfl
theorem bd_far_0_bar_how_letter (T : TX K mg) : Bd K T.fd_far ["bar", "how", "letter"] 0 ["bar", "how", "letter"] [] [0, 1, 2] :=
  bd_plain T.F_far fun _ _ _ _ _ _ us ws h1 h2 => match us, ws, h1, h2 with | [], [_, _, _], _, _ => rfl
theorem sc_is_integer : FnScope N_is_integer ["value"] (defScope s_is_integer) := ⟨rfl, rfl, rfl, by decide +kernel, rfl, by decide +kernel, by decide +kernel⟩
noncomputable def d_is_integer : MS := (sRet (eAnd (eA gIsi (aCons (eVar 0) (aCons (eC (.ty "int")) aNil))) (eNot (eA gIsi (aCons (eVar 0) (aCons (eC (.ty "bool")) aNil))))))
noncomputable abbrev m_is_integer : List D → M D := mFunWith exitV 1 1 d_is_integer
theorem g_is_integer (T : TX K mg) : FnG P w K mg base 1 T.f_is_integer T.fd_is_integer ["value"] (spM ⟨K, mg⟩ 1 m_is_integer) := by
  refine fnG (k := 0) (N := N_is_integer) T.F_is_integer sc_is_integer rfl rfl fun X E hX hc hr tk => ?_
  obtain ⟨cdv, A, outer, s, H, rfl⟩ := hX
  have hu64 := hr.units
  have hu65 := u65 hr
  unfold d_is_integer
  exact (sss_one (ss_ret (se_and (se_b cg_isi T.b_isinstance (by decide +kernel) (sa_cons (se_var 0) (sa_cons (se_ty T.b_int (by decide +kernel)) sa_nil))) (se_one (se_not (se_b cg_isi T.b_isinstance (by decide +kernel) (sa_cons (se_var 0) (sa_cons (se_ty T.b_bool (by decide +kernel)) sa_nil))))))))
theorem sc_is_within : FnScope N_is_within ["value", "least", "most"] (defScope s_is_within) := ⟨rfl, rfl, rfl, by decide +kernel, rfl, by decide +kernel, by decide +kernel⟩
noncomputable def d_is_within : MS := (sSeq (Sim.sIf (Sim.tNot (tTru (eCall 1 0 1 [] [0] m_is_integer (aCons (eVar 0) aNil) aNil))) (sRet (eC (.bl false))) sPass)
 (sRet (eAnd (eOr (eOp (gIs false) (eVar 1) (eC .non)) (eOp gLe (eVar 1) (eVar 0))) (eOr (eOp (gIs false) (eVar 2) (eC .non)) (eOp gLe (eVar 0) (eVar 2))))))
noncomputable abbrev m_is_within : List D → M D := mFunWith exitV 3 3 d_is_within
theorem g_is_within (T : TX K mg) : FnG P w K mg base 2 T.f_is_within T.fd_is_within ["value", "least", "most"] (spM ⟨K, mg⟩ 3 m_is_within) := by
  refine fnG (k := 1) (N := N_is_within) T.F_is_within sc_is_within rfl rfl fun X E hX hc hr tk => ?_
  obtain ⟨cdv, A, outer, s, H, rfl⟩ := hX
  have hu64 := hr.units
  have hu65 := u65 hr
  unfold d_is_within
  exact (sss_cons (ss_if (st_not (st_tru (se_call (g_is_integer T) hc (hr.mono (by decide)) tk T.m_is_integer T.F_is_integer.kp (bd_is_integer_1 T) (fun _ => .nil) (sa_cons (se_var 0) sa_nil) sk_nil))) (sss_one (ss_ret se_bl)) sss_nil)
 (sss_one (ss_ret (se_and (se_or (se_cmp og_is (se_var 1) se_non) (se_one (se_cmp og_le (se_var 1) (se_var 0)))) (se_one (se_or (se_cmp og_is (se_var 2) se_non) (se_one (se_cmp og_le (se_var 0) (se_var 2)))))))))
theorem sc_need_number : FnScope N_need_number ["value", "part", "least", "most"] (defScope s_need_number) := ⟨rfl, rfl, rfl, by decide +kernel, rfl, by decide +kernel, by decide +kernel⟩
noncomputable def d_need_number : MS := (sSeq (Sim.sIf (Sim.tNot (tTru (eCall 3 0 3 [] [0, 1, 2] m_is_within (aCons (eVar 0) (aCons (eVar 2) (aCons (eVar 3) aNil))) aNil))) sStuck sPass)
 (sRet (eVar 0)))
noncomputable abbrev m_need_number : List D → M D := mFunWith exitV 4 4 d_need_number
theorem g_need_number (T : TX K mg) : FnG P w K mg base 3 T.f_need_number T.fd_need_number ["value", "part", "least", "most"] (spM ⟨K, mg⟩ 4 m_need_number) := by
  refine fnG (k := 2) (N := N_need_number) T.F_need_number sc_need_number rfl rfl fun X E hX hc hr tk => ?_
  obtain ⟨cdv, A, outer, s, H, rfl⟩ := hX
  have hu64 := hr.units
  have hu65 := u65 hr
  unfold d_need_number
  exact (sss_cons (ss_if (st_not (st_tru (se_call (g_is_within T) hc (hr.mono (by decide)) tk T.m_is_within T.F_is_within.kp (bd_is_within_3 T) (fun _ => .nil) (sa_cons (se_var 0) (sa_cons (se_var 2) (sa_cons (se_var 3) sa_nil))) sk_nil))) (sss_one ss_stuck) sss_nil)
 (sss_one (ss_ret (se_var 0))))
theorem sc_is_list : FnScope N_is_list ["value"] (defScope s_is_list) := ⟨rfl, rfl, rfl, by decide +kernel, rfl, by decide +kernel, by decide +kernel⟩
noncomputable def d_is_list : MS := (sRet (eA gIsi (aCons (eVar 0) (aCons (eA gTup (aCons (eC (.ty "list")) (aCons (eC (.ty "tuple")) aNil))) aNil))))
noncomputable abbrev m_is_list : List D → M D := mFunWith exitV 1 1 d_is_list
theorem g_is_list (T : TX K mg) : FnG P w K mg base 1 T.f_is_list T.fd_is_list ["value"] (spM ⟨K, mg⟩ 1 m_is_list) := by
  refine fnG (k := 0) (N := N_is_list) T.F_is_list sc_is_list rfl rfl fun X E hX hc hr tk => ?_
  obtain ⟨cdv, A, outer, s, H, rfl⟩ := hX
  have hu64 := hr.units
  have hu65 := u65 hr
  unfold d_is_list
  exact (sss_one (ss_ret (se_b cg_isi T.b_isinstance (by decide +kernel) (sa_cons (se_var 0) (sa_cons (se_tup (sa_cons (se_ty T.b_list (by decide +kernel)) (sa_cons (se_ty T.b_tuple (by decide +kernel)) sa_nil))) sa_nil)))))
theorem sc_is_text : FnScope N_is_text ["value", "letters", "most"] (defScope s_is_text) := ⟨rfl, rfl, rfl, by decide +kernel, rfl, by decide +kernel, by decide +kernel⟩
noncomputable def d_is_text : MS := (sRet (eAnd (eCall 1 0 1 [] [0] m_is_list (aCons (eVar 0) aNil) aNil) (eAnd (eOp gLe (eA gLen (aCons (eVar 0) aNil)) (eVar 2)) (eA gAll (aCons (eComp (iSeq (eVar 0)) (.nm 3) tYesM (eCall 3 0 3 [] [0, 1, 2] m_is_within (aCons (eVar 3) (aCons (eC (.int 0)) (aCons (eOp gSub (eVar 1) (eC (.int 1))) aNil))) aNil) [3]) aNil)))))
noncomputable abbrev m_is_text : List D → M D := mFunWith exitV 3 4 d_is_text
theorem g_is_text (T : TX K mg) : FnG P w K mg base 3 T.f_is_text T.fd_is_text ["value", "letters", "most"] (spM ⟨K, mg⟩ 3 m_is_text) := by
  refine fnG (k := 2) (N := N_is_text) T.F_is_text sc_is_text rfl rfl fun X E hX hc hr tk => ?_
  obtain ⟨cdv, A, outer, s, H, rfl⟩ := hX
  have hu64 := hr.units
  have hu65 := u65 hr
  unfold d_is_text
  exact (sss_one (ss_ret (se_and (se_call (g_is_list T) hc (hr.mono (by decide)) tk T.m_is_list T.F_is_list.kp (bd_is_list_1 T) (fun _ => .nil) (sa_cons (se_var 0) sa_nil) sk_nil) (se_and (se_cmp og_le (se_b cg_len T.b_len (by decide +kernel) (sa_cons (se_var 0) sa_nil)) (se_var 2)) (se_one (se_b (cg_all rfl) T.b_all (by decide +kernel) (sa_cons (se_lc exD_ok rfl sc_is_text.nd (own := [("each", 3)]) (show blkC N_is_text (defScope s_is_text) _ [("each", 3)] = true from by decide +kernel) (by simp [Tgt.ixs, Tgt.ixss]) (si_seq (se_var 0)) (fun _ _ _ _ _ => (sg_nm 3 sc_is_text.nd)) (fun _ _ _ _ _ => spt_nil) (fun _ _ _ _ _ => (se_call (g_is_within T) hc (hr.mono (by decide)) takes0 T.m_is_within T.F_is_within.kp (bd_is_within_3 T) (fun _ => .nil) (sa_cons (se_var 3) (sa_cons se_int (sa_cons (se_op og_sub (se_var 1) se_int) sa_nil))) sk_nil))) sa_nil)))))))
theorem sc_need_text : FnScope N_need_text ["value", "letters", "part", "most"] (defScope s_need_text) := ⟨rfl, rfl, rfl, by decide +kernel, rfl, by decide +kernel, by decide +kernel⟩
noncomputable def d_need_text : MS := (sSeq (Sim.sIf (Sim.tNot (tTru (eCall 3 0 3 [(.int 1000)] [0, 1, 2] m_is_text (aCons (eVar 0) (aCons (eVar 1) (aCons (eVar 3) aNil))) aNil))) sStuck sPass)
 (sRet (eA gTuple (aCons (eVar 0) aNil))))
noncomputable abbrev m_need_text : List D → M D := mFunWith exitV 4 4 d_need_text
theorem g_need_text (T : TX K mg) : FnG P w K mg base 4 T.f_need_text T.fd_need_text ["value", "letters", "part", "most"] (spM ⟨K, mg⟩ 4 m_need_text) := by
  refine fnG (k := 3) (N := N_need_text) T.F_need_text sc_need_text rfl rfl fun X E hX hc hr tk => ?_
  obtain ⟨cdv, A, outer, s, H, rfl⟩ := hX
  have hu64 := hr.units
  have hu65 := u65 hr
  unfold d_need_text
  exact (sss_cons (ss_if (st_not (st_tru (se_call (g_is_text T) hc (hr.mono (by decide)) tk T.m_is_text T.F_is_text.kp (bd_is_text_3 T) (fun _ => (.cons (.int 1000) .nil)) (sa_cons (se_var 0) (sa_cons (se_var 1) (sa_cons (se_var 3) sa_nil))) sk_nil))) (sss_one ss_stuck) sss_nil)
 (sss_one (ss_ret (se_t cg_tuple T.b_tuple (by decide +kernel) (sa_cons (se_var 0) sa_nil)))))
theorem sc_far_on : FnScope N_far_on ["words", "how", "letter"] (defScope s_far_on) := ⟨rfl, rfl, rfl, by decide +kernel, rfl, by decide +kernel, by decide +kernel⟩
noncomputable def d_far_on : MS := (sSeq (sAsg 3 (eOp gAdd (eSl (eVar 1) (oSome (eOp gSub (eC (.int 1)) (eC (.int 6)))) oNone) (eA gTup (aCons (eVar 2) aNil))))
 (sSeq (sFor (iRng1 (aCons (eA gLen (aCons (eVar 3) aNil)) aNil)) (.nm 4) (Sim.sIf (tTru (eA gAny (aCons (eComp (iSeq (eVar 0)) (.nm 5) tYesM (eOp gEq (eSl (eVar 5) oNone (oSome (eOp gSub (eA gLen (aCons (eVar 3) aNil)) (eVar 4)))) (eSl (eVar 3) (oSome (eVar 4)) oNone)) [5]) aNil))) (sRet (eSl (eVar 3) (oSome (eVar 4)) oNone)) sPass))
 (sRet (eA gTup aNil))))
noncomputable abbrev m_far_on : List D → M D := mFunWith exitV 3 6 d_far_on
theorem g_far_on (T : TX K mg) : FnG P w K mg base 1 T.f_far_on T.fd_far_on ["words", "how", "letter"] (spM ⟨K, mg⟩ 3 m_far_on) := by
  refine fnG (k := 0) (N := N_far_on) T.F_far_on sc_far_on rfl rfl fun X E hX hc hr tk => ?_
  obtain ⟨cdv, A, outer, s, H, rfl⟩ := hX
  have hu64 := hr.units
  have hu65 := u65 hr
  unfold d_far_on
  exact (sss_cons (ss_set 3 sc_far_on.nd (se_op og_add (se_sl (se_var 1) (so_some (se_op og_sub se_int (se_gint T.k_MOST_LETTERS.2))) so_none) (se_tup (sa_cons (se_var 2) sa_nil))))
 (sss_cons (ss_for (passes_of rfl) rfl (si_range1 T.b_range (sa_cons (se_b cg_len T.b_len (by decide +kernel) (sa_cons (se_var 3) sa_nil)) sa_nil)) (sg_nm 4 sc_far_on.nd) (sss_one (ss_if (st_tru (se_b (cg_any rfl) T.b_any (by decide +kernel) (sa_cons (se_lc exD_ok rfl sc_far_on.nd (own := [("word", 5)]) (show blkC N_far_on (defScope s_far_on) _ [("word", 5)] = true from by decide +kernel) (by simp [Tgt.ixs, Tgt.ixss]) (si_seq (se_var 0)) (fun _ _ _ _ _ => (sg_nm 5 sc_far_on.nd)) (fun _ _ _ _ _ => spt_nil) (fun _ _ _ _ _ => (se_cmp (og_eq hu64) (se_sl (se_var 5) so_none (so_some (se_op og_sub (se_b cg_len T.b_len (by decide +kernel) (sa_cons (se_var 3) sa_nil)) (se_var 4)))) (se_sl (se_var 3) (so_some (se_var 4)) so_none)))) sa_nil))) (sss_one (ss_ret (se_sl (se_var 3) (so_some (se_var 4)) so_none))) sss_nil)))
 (sss_one (ss_ret (se_tup sa_nil)))))
theorem sc_need_bar : FnScope N_need_bar ["value"] (defScope s_need_bar) := ⟨rfl, rfl, rfl, by decide +kernel, rfl, by decide +kernel, by decide +kernel⟩
noncomputable def d_need_bar : MS := (sSeq (Sim.sIf (Sim.tNot (tTru (eA (gIsI CS KT) (aCons (eVar 0) (aCons (eC (.glob "Bar")) aNil))))) sStuck sPass)
 (sRet (eVar 0)))
noncomputable abbrev m_need_bar : List D → M D := mFunWith exitV 1 1 d_need_bar
theorem g_need_bar (T : TX K mg) : FnG P w K mg base 1 T.f_need_bar T.fd_need_bar ["value"] (spM ⟨K, mg⟩ 1 m_need_bar) := by
  refine fnG (k := 0) (N := N_need_bar) T.F_need_bar sc_need_bar rfl rfl fun X E hX hc hr tk => ?_
  obtain ⟨cdv, A, outer, s, H, rfl⟩ := hX
  have hu64 := hr.units
  have hu65 := u65 hr
  unfold d_need_bar
  exact (sss_cons (ss_if (st_not (st_tru (se_b (cg_isI T.ins T.kit) T.b_isinstance (by decide +kernel) (sa_cons (se_var 0) (sa_cons (se_glob T.m_Bar) sa_nil))))) (sss_one ss_stuck) sss_nil)
 (sss_one (ss_ret (se_var 0))))
theorem sc_far : FnScope N_far ["bar", "how", "letter"] (defScope s_far) := ⟨rfl, rfl, rfl, by decide +kernel, rfl, by decide +kernel, by decide +kernel⟩
noncomputable def d_far : MS := (sSeq (sAsg 3 (eCall 1 0 1 [] [0] m_need_bar (aCons (eVar 0) aNil) aNil))
 (sSeq (sAsg 4 (eCall 3 0 4 [(.str "text"), (.int 1000)] [0, 1, 2, 4] m_need_text (aCons (eVar 1) (aCons (eC (.int 4)) (aCons (eC (.str "how")) aNil))) aNil))
 (sRet (eCall 3 0 3 [] [0, 1, 2] m_far_on (aCons (eUn (gFld FT "words") (eVar 3)) (aCons (eVar 4) (aCons (eCall 4 0 4 [(.non), (.non)] [0, 1, 2, 3] m_need_number (aCons (eVar 2) (aCons (eC (.str "letter")) (aCons (eC (.int 0)) (aCons (eC (.int 3)) aNil)))) aNil) aNil))) aNil))))
noncomputable abbrev m_far : List D → M D := mFunWith exitV 3 5 d_far
theorem g_far (T : TX K mg) : FnG P w K mg base 5 T.f_far T.fd_far ["bar", "how", "letter"] (spM ⟨K, mg⟩ 3 m_far) := by
  refine fnG (k := 4) (N := N_far) T.F_far sc_far rfl rfl fun X E hX hc hr tk => ?_
  obtain ⟨cdv, A, outer, s, H, rfl⟩ := hX
  have hu64 := hr.units
  have hu65 := u65 hr
  unfold d_far
  exact (sss_cons (ss_set 3 sc_far.nd (se_call (g_need_bar T) hc (hr.mono (by decide)) tk T.m_need_bar T.F_need_bar.kp (bd_need_bar_1 T) (fun _ => .nil) (sa_cons (se_var 0) sa_nil) sk_nil))
 (sss_cons (ss_set 4 sc_far.nd (se_call (g_need_text T) hc (hr.mono (by decide)) tk T.m_need_text T.F_need_text.kp (bd_need_text_3 T) (fun _ => (.cons (.str "text") (.cons (.int 1000) .nil))) (sa_cons (se_var 1) (sa_cons se_int (sa_cons se_str sa_nil))) sk_nil))
 (sss_one (ss_ret (se_call (g_far_on T) hc (hr.mono (by decide)) tk T.m_far_on T.F_far_on.kp (bd_far_on_3 T) (fun _ => .nil) (sa_cons (se_fld T.ft (se_var 3)) (sa_cons (se_var 4) (sa_cons (se_call (g_need_number T) hc (hr.mono (by decide)) tk T.m_need_number T.F_need_number.kp (bd_need_number_4 T) (fun _ => (.cons (.non) (.cons (.non) .nil))) (sa_cons (se_var 2) (sa_cons se_str (sa_cons se_int (sa_cons se_int sa_nil)))) sk_nil) sa_nil))) sk_nil)))))
theorem sc_breaks_at : FnScope N_breaks_at ["words", "how"] (defScope s_breaks_at) := ⟨rfl, rfl, rfl, by decide +kernel, rfl, by decide +kernel, by decide +kernel⟩
noncomputable def d_breaks_at : MS := (sRet (eA gAny (aCons (eComp (iSeq (eVar 0)) (.nm 2) tYesM (eOp gEq (eSl (eVar 1) (oSome (eUn gNeg (eA gLen (aCons (eVar 2) aNil)))) oNone) (eVar 2)) [2]) aNil)))
noncomputable abbrev m_breaks_at : List D → M D := mFunWith exitV 2 3 d_breaks_at
theorem g_breaks_at (T : TX K mg) : FnG P w K mg base 1 T.f_breaks_at T.fd_breaks_at ["words", "how"] (spM ⟨K, mg⟩ 2 m_breaks_at) := by
  refine fnG (k := 0) (N := N_breaks_at) T.F_breaks_at sc_breaks_at rfl rfl fun X E hX hc hr tk => ?_
  obtain ⟨cdv, A, outer, s, H, rfl⟩ := hX
  have hu64 := hr.units
  have hu65 := u65 hr
  unfold d_breaks_at
  exact (sss_one (ss_ret (se_b (cg_any rfl) T.b_any (by decide +kernel) (sa_cons (se_lc exD_ok rfl sc_breaks_at.nd (own := [("word", 2)]) (show blkC N_breaks_at (defScope s_breaks_at) _ [("word", 2)] = true from by decide +kernel) (by simp [Tgt.ixs, Tgt.ixss]) (si_seq (se_var 0)) (fun _ _ _ _ _ => (sg_nm 2 sc_breaks_at.nd)) (fun _ _ _ _ _ => spt_nil) (fun _ _ _ _ _ => (se_cmp (og_eq hu64) (se_sl (se_var 1) (so_some (se_un og_neg (se_b cg_len T.b_len (by decide +kernel) (sa_cons (se_var 2) sa_nil)))) so_none) (se_var 2)))) sa_nil))))
theorem sc_is_broken : FnScope N_is_broken ["bar", "how"] (defScope s_is_broken) := ⟨rfl, rfl, rfl, by decide +kernel, rfl, by decide +kernel, by decide +kernel⟩
noncomputable def d_is_broken : MS := (sSeq (sAsg 2 (eCall 1 0 1 [] [0] m_need_bar (aCons (eVar 0) aNil) aNil))
 (sRet (eCall 2 0 2 [] [0, 1] m_breaks_at (aCons (eUn (gFld FT "words") (eVar 2)) (aCons (eCall 3 0 4 [(.str "text"), (.int 1000)] [0, 1, 2, 4] m_need_text (aCons (eVar 1) (aCons (eC (.int 4)) (aCons (eC (.str "how")) aNil))) aNil) aNil)) aNil)))
noncomputable abbrev m_is_broken : List D → M D := mFunWith exitV 2 3 d_is_broken
theorem g_is_broken (T : TX K mg) : FnG P w K mg base 5 T.f_is_broken T.fd_is_broken ["bar", "how"] (spM ⟨K, mg⟩ 2 m_is_broken) := by
  refine fnG (k := 4) (N := N_is_broken) T.F_is_broken sc_is_broken rfl rfl fun X E hX hc hr tk => ?_
  obtain ⟨cdv, A, outer, s, H, rfl⟩ := hX
  have hu64 := hr.units
  have hu65 := u65 hr
  unfold d_is_broken
  exact (sss_cons (ss_set 2 sc_is_broken.nd (se_call (g_need_bar T) hc (hr.mono (by decide)) tk T.m_need_bar T.F_need_bar.kp (bd_need_bar_1 T) (fun _ => .nil) (sa_cons (se_var 0) sa_nil) sk_nil))
 (sss_one (ss_ret (se_call (g_breaks_at T) hc (hr.mono (by decide)) tk T.m_breaks_at T.F_breaks_at.kp (bd_breaks_at_2 T) (fun _ => .nil) (sa_cons (se_fld T.ft (se_var 2)) (sa_cons (se_call (g_need_text T) hc (hr.mono (by decide)) tk T.m_need_text T.F_need_text.kp (bd_need_text_3 T) (fun _ => (.cons (.str "text") (.cons (.int 1000) .nil))) (sa_cons (se_var 1) (sa_cons se_int (sa_cons se_str sa_nil))) sk_nil) sa_nil)) sk_nil))))
theorem sc__law_pen : FnScope N__law_pen ["script"] (defScope s__law_pen) := ⟨rfl, rfl, rfl, by decide +kernel, rfl, by decide +kernel, by decide +kernel⟩
noncomputable def d__law_pen : MS := (sRet (eA gLstM (aCons (eA gList (aCons (eSl (eVar 0) oNone (oSome (eC (.int 63)))) aNil)) (aCons (eC (.int 0)) (aCons (eC (.int 0)) aNil)))))
noncomputable abbrev m__law_pen : List D → M D := mFunWith (exitK 1) 1 1 d__law_pen
theorem g__law_pen (T : TX K mg) : FnG P w K mg base 1 T.f__law_pen T.fd__law_pen ["script"] (spM ⟨K, mg⟩ 1 m__law_pen) := by
  refine fnG_with (fun o0 l o _ r h => fin_exitK 1 o0 l o r h) (k := 0) (N := N__law_pen) T.F__law_pen sc__law_pen rfl rfl fun X E hX hc hr tk => ?_
  obtain ⟨cdv, A, outer, s, H, rfl⟩ := hX
  have hu64 := hr.units
  have hu65 := u65 hr
  unfold d__law_pen
  exact (sss_one (ss_ret (se_lstM (sa_cons (se_t cg_list T.b_list (by decide +kernel) (sa_cons (se_sl (se_var 0) so_none (so_some se_int)) sa_nil)) (sa_cons se_int (sa_cons se_int sa_nil))))))
theorem sc__law_draw : FnScope N__law_draw ["pen", "many"] (defScope s__law_draw) := ⟨rfl, rfl, rfl, by decide +kernel, rfl, by decide +kernel, by decide +kernel⟩
noncomputable def d__law_draw : MS := (sSeq (Sim.sIf (Sim.tCmp gGt (eOp gIx (eVar 0) (eC (.int 2))) (eC (.int 0))) (sSeq (sAsg 2 (eOp gMod (eA gInt (aCons (eOp gIx (eVar 0) (eC (.int 2))) aNil)) (eVar 1)))
 (sSeq (sSet (eVar 0) (eC (.int 2)) (eOp gFdiv (eA gInt (aCons (eOp gIx (eVar 0) (eC (.int 2))) aNil)) (eVar 1)))
 (sRet (eVar 2)))) sPass)
 (sSeq (sAsg 3 (eOp gIx (eVar 0) (eC (.int 1))))
 (sSeq (sSet (eVar 0) (eC (.int 1)) (eOp gAdd (eVar 3) (eC (.int 1))))
 (sSeq (sAsg 4 (eIf (Sim.tCmp gEq (eOp gIx (eVar 0) (eC (.int 0))) (eA gLst aNil)) (eOp gAdd (eOp gMulS (eC (.int 60649)) (eVar 3)) (eC (.int 811))) (eOp gIx (eOp gIx (eVar 0) (eC (.int 0))) (eOp gMod (eA gInt (aCons (eVar 3) aNil)) (eA gLen (aCons (eOp gIx (eVar 0) (eC (.int 0))) aNil))))))
 (sSeq (Sim.sIf (Sim.tAnd (Sim.tCmp gLt (eVar 3) (eA gLen (aCons (eOp gIx (eVar 0) (eC (.int 0))) aNil))) (Sim.tCmp gGt (eA gAbs (aCons (eVar 4) aNil)) (eOp gPow (eC (.int 10)) (eC (.int 18))))) (sSeq (sAsg 5 (eOp gSub (eA gAbs (aCons (eVar 4) aNil)) (eOp gPow (eC (.int 10)) (eC (.int 18)))))
 (sSeq (sSet (eVar 0) (eC (.int 2)) (eOp gFdiv (eA gInt (aCons (eVar 5) aNil)) (eVar 1)))
 (sRet (eOp gMod (eA gInt (aCons (eVar 5) aNil)) (eVar 1))))) sPass)
 (sSeq (sAsg 6 (eOp gMod (eA gInt (aCons (eOp gPow (eOp gAdd (eOp gAdd (eOp gMod (eA gInt (aCons (eVar 4) aNil)) (eC (.int 2147483563))) (eOp gMulS (eC (.int 52361)) (eVar 3))) (eC (.int 4519))) (eC (.int 3))) aNil)) (eC (.int 2147483647))))
 (sSeq (sAsg 6 (eOp gMod (eA gInt (aCons (eOp gPow (eOp gAdd (eOp gAdd (eOp gMulS (eVar 6) (eOp gAdd (eOp gMulS (eC (.int 2)) (eVar 3)) (eC (.int 313)))) (eOp gMulS (eOp gMulS (eC (.int 977)) (eVar 3)) (eVar 3))) (eC (.int 61))) (eC (.int 5))) aNil)) (eC (.int 2147483629))))
 (sRet (eOp gMod (eA gInt (aCons (eOp gFdiv (eVar 6) (eC (.int 64))) aNil)) (eVar 1))))))))))
noncomputable abbrev m__law_draw : List D → M D := mFunWith exitV 2 7 d__law_draw
theorem g__law_draw (T : TX K mg) : FnG P w K mg base 1 T.f__law_draw T.fd__law_draw ["pen", "many"] (spM ⟨K, mg⟩ 2 m__law_draw) := by
  refine fnG (k := 0) (N := N__law_draw) T.F__law_draw sc__law_draw rfl rfl fun X E hX hc hr tk => ?_
  obtain ⟨cdv, A, outer, s, H, rfl⟩ := hX
  have hu64 := hr.units
  have hu65 := u65 hr
  unfold d__law_draw
  exact (sss_cons (ss_if (st_cmp og_gt (se_ix og_ix (se_var 0) se_int) se_int) (sss_cons (ss_set 2 sc__law_draw.nd (se_op og_mod (se_t cg_int T.b_int (by decide +kernel) (sa_cons (se_ix og_ix (se_var 0) se_int) sa_nil)) (se_var 1)))
 (sss_cons (ss_setI (se_var 0) se_int (se_op og_fdiv (se_t cg_int T.b_int (by decide +kernel) (sa_cons (se_ix og_ix (se_var 0) se_int) sa_nil)) (se_var 1)))
 (sss_one (ss_ret (se_var 2))))) sss_nil)
 (sss_cons (ss_set 3 sc__law_draw.nd (se_ix og_ix (se_var 0) se_int))
 (sss_cons (ss_setI (se_var 0) se_int (se_op og_add (se_var 3) se_int))
 (sss_cons (ss_set 4 sc__law_draw.nd (se_if (st_cmp (og_eq hu64) (se_ix og_ix (se_var 0) se_int) (se_lst sa_nil)) (se_op og_add (se_op og_mulS se_int (se_var 3)) se_int) (se_ix og_ix (se_ix og_ix (se_var 0) se_int) (se_op og_mod (se_t cg_int T.b_int (by decide +kernel) (sa_cons (se_var 3) sa_nil)) (se_b cg_len T.b_len (by decide +kernel) (sa_cons (se_ix og_ix (se_var 0) se_int) sa_nil))))))
 (sss_cons (ss_if (st_w (sw_and (st_cmp og_lt (se_var 3) (se_b cg_len T.b_len (by decide +kernel) (sa_cons (se_ix og_ix (se_var 0) se_int) sa_nil))) (sw_and1 (st_cmp og_gt (se_b cg_abs T.b_abs (by decide +kernel) (sa_cons (se_var 4) sa_nil)) (se_op og_pow se_int se_int))))) (sss_cons (ss_set 5 sc__law_draw.nd (se_op og_sub (se_b cg_abs T.b_abs (by decide +kernel) (sa_cons (se_var 4) sa_nil)) (se_op og_pow se_int se_int)))
 (sss_cons (ss_setI (se_var 0) se_int (se_op og_fdiv (se_t cg_int T.b_int (by decide +kernel) (sa_cons (se_var 5) sa_nil)) (se_var 1)))
 (sss_one (ss_ret (se_op og_mod (se_t cg_int T.b_int (by decide +kernel) (sa_cons (se_var 5) sa_nil)) (se_var 1)))))) sss_nil)
 (sss_cons (ss_set 6 sc__law_draw.nd (se_op og_mod (se_t cg_int T.b_int (by decide +kernel) (sa_cons (se_op og_pow (se_op og_add (se_op og_add (se_op og_mod (se_t cg_int T.b_int (by decide +kernel) (sa_cons (se_var 4) sa_nil)) se_int) (se_op og_mulS se_int (se_var 3))) se_int) se_int) sa_nil)) se_int))
 (sss_cons (ss_set 6 sc__law_draw.nd (se_op og_mod (se_t cg_int T.b_int (by decide +kernel) (sa_cons (se_op og_pow (se_op og_add (se_op og_add (se_op og_mulS (se_var 6) (se_op og_add (se_op og_mulS se_int (se_var 3)) se_int)) (se_op og_mulS (se_op og_mulS se_int (se_var 3)) (se_var 3))) se_int) se_int) sa_nil)) se_int))
 (sss_one (ss_ret (se_op og_mod (se_t cg_int T.b_int (by decide +kernel) (sa_cons (se_op og_fdiv (se_var 6) se_int) sa_nil)) (se_var 1)))))))))))
theorem sc__law_pick : FnScope N__law_pick ["pen", "some"] (defScope s__law_pick) := ⟨rfl, rfl, rfl, by decide +kernel, rfl, by decide +kernel, by decide +kernel⟩
noncomputable def d__law_pick : MS := (sRet (eOp gIx (eVar 1) (eCall 2 0 2 [] [0, 1] m__law_draw (aCons (eVar 0) (aCons (eA gLen (aCons (eVar 1) aNil)) aNil)) aNil)))
noncomputable abbrev m__law_pick : List D → M D := mFunWith exitV 2 2 d__law_pick
theorem g__law_pick (T : TX K mg) : FnG P w K mg base 2 T.f__law_pick T.fd__law_pick ["pen", "some"] (spM ⟨K, mg⟩ 2 m__law_pick) := by
  refine fnG (k := 1) (N := N__law_pick) T.F__law_pick sc__law_pick rfl rfl fun X E hX hc hr tk => ?_
  obtain ⟨cdv, A, outer, s, H, rfl⟩ := hX
  have hu64 := hr.units
  have hu65 := u65 hr
  unfold d__law_pick
  exact (sss_one (ss_ret (se_ix og_ix (se_var 1) (se_call (g__law_draw T) hc (hr.mono (by decide)) tk T.m__law_draw T.F__law_draw.kp (bd__law_draw_2 T) (fun _ => .nil) (sa_cons (se_var 0) (sa_cons (se_b cg_len T.b_len (by decide +kernel) (sa_cons (se_var 1) sa_nil)) sa_nil)) sk_nil))))
theorem sc_Bar___init__ : FnScope N_Bar___init__ ["self", "words"] (defScope s_Bar___init__) := ⟨rfl, rfl, rfl, by decide +kernel, rfl, by decide +kernel, by decide +kernel⟩
noncomputable def d_Bar___init__ : MS := (sSeq (Sim.sIf (Sim.tNot (tV (eChain gLe gLe (eC (.int 1)) (eA gLen (aCons (eVar 1) aNil)) (eC (.int 3))))) sStuck sPass)
 (sSeq (Sim.sIf (Sim.tNot (tTru (eA gAll (aCons (eComp (iSeq (eVar 1)) (.nm 2) tYesM (eAnd (eCall 3 0 3 [(.int 1000)] [0, 1, 2] m_is_text (aCons (eVar 2) (aCons (eC (.int 4)) (aCons (eC (.int 6)) aNil))) aNil) (eOp gGt (eA gLen (aCons (eVar 2) aNil)) (eC (.int 0)))) [2]) aNil)))) sStuck sPass)
 (sSeq (sAsg 3 (eA gTuple (aCons (eComp (iSeq (eVar 1)) (.nm 2) tYesM (eA gTuple (aCons (eVar 2) aNil)) [2]) aNil)))
 (sSeq (Sim.sIf (Sim.tCmp gLt (eUn gLenSet (eVar 3)) (eA gLen (aCons (eVar 3) aNil))) sStuck sPass)
 (sSetF FT "words" (eVar 0) (eVar 3))))))
noncomputable abbrev m_Bar___init__ : List D → M D := mStarWith exitV 1 4 d_Bar___init__
theorem g_Bar___init__ (T : TX K mg) : FnS P w K mg base 4 T.f_Bar___init__ m_Bar___init__ := by
  refine fnS_with (k := 3) (N := N_Bar___init__) (ps := ["self"]) (fun o0 l o _ r h => fin_exit o0 l o r h) T.F_Bar___init__ sc_Bar___init__ rfl rfl (fun kV doc pm an cdv ct us rest h => match us, h with | [_], _ => by have hv : (PySem.W.fnOf "__init__" "Bar.__init__" (defArgs s_Bar___init__) (defBody s_Bar___init__) (defScope s_Bar___init__) .none kV doc pm an cdv ct).params.vararg.isNone = false := rfl; unfold bindArgs; simp only [hv, Bool.and_false, Bool.false_eq_true, if_false]; rfl) fun X E hX hc hr tk => ?_
  obtain ⟨cdv, A, outer, s, H, rfl⟩ := hX
  have hu64 := hr.units
  have hu65 := u65 hr
  unfold d_Bar___init__
  exact (sss_cons (ss_if (st_not (st_chain og_le og_le se_int (se_b cg_len T.b_len (by decide +kernel) (sa_cons (se_var 1) sa_nil)) (se_gint T.k_MOST_WORDS.2))) (sss_one ss_stuck) sss_nil)
 (sss_cons (ss_if (st_not (st_tru (se_b (cg_all rfl) T.b_all (by decide +kernel) (sa_cons (se_lc exD_ok rfl sc_Bar___init__.nd (own := [("word", 2)]) (show blkC N_Bar___init__ (defScope s_Bar___init__) _ [("word", 2)] = true from by decide +kernel) (by simp [Tgt.ixs, Tgt.ixss]) (si_seq (se_var 1)) (fun _ _ _ _ _ => (sg_nm 2 sc_Bar___init__.nd)) (fun _ _ _ _ _ => spt_nil) (fun _ _ _ _ _ => (se_and (se_call (g_is_text T) hc (hr.mono (by decide)) takes0 T.m_is_text T.F_is_text.kp (bd_is_text_3 T) (fun _ => (.cons (.int 1000) .nil)) (sa_cons (se_var 2) (sa_cons se_int (sa_cons (se_gint T.k_MOST_LETTERS.2) sa_nil))) sk_nil) (se_one (se_cmp og_gt (se_b cg_len T.b_len (by decide +kernel) (sa_cons (se_var 2) sa_nil)) se_int))))) sa_nil)))) (sss_one ss_stuck) sss_nil)
 (sss_cons (ss_set 3 sc_Bar___init__.nd (se_t cg_tuple T.b_tuple (by decide +kernel) (sa_cons (se_lc exD_ok rfl sc_Bar___init__.nd (own := [("word", 2)]) (show blkC N_Bar___init__ (defScope s_Bar___init__) _ [("word", 2)] = true from by decide +kernel) (by simp [Tgt.ixs, Tgt.ixss]) (si_seq (se_var 1)) (fun _ _ _ _ _ => (sg_nm 2 sc_Bar___init__.nd)) (fun _ _ _ _ _ => spt_nil) (fun _ _ _ _ _ => (se_t cg_tuple T.b_tuple (by decide +kernel) (sa_cons (se_var 2) sa_nil)))) sa_nil)))
 (sss_cons (ss_if (st_cmp og_lt (se_lenSet hu64 T.b_len T.b_set (se_var 3)) (se_b cg_len T.b_len (by decide +kernel) (sa_cons (se_var 3) sa_nil))) (sss_one ss_stuck) sss_nil)
 (sss_one (ss_setF T.ft (se_var 0) (se_var 3)))))))
theorem sc__law_bar : FnScope N__law_bar ["words"] (defScope s__law_bar) := ⟨rfl, rfl, rfl, by decide +kernel, rfl, by decide +kernel, by decide +kernel⟩
noncomputable def d__law_bar : MS := (sSeq (Sim.sIf (Sim.tCmp gEq (eA gLen (aCons (eVar 0) aNil)) (eC (.int 1))) (sRet (eFrz (eMakeS "Bar" m_Bar___init__ (aCons (eOp gIx (eVar 0) (eC (.int 0))) aNil)))) sPass)
 (sSeq (Sim.sIf (Sim.tCmp gEq (eA gLen (aCons (eVar 0) aNil)) (eC (.int 2))) (sRet (eFrz (eMakeS "Bar" m_Bar___init__ (aCons (eA gList (aCons (eOp gIx (eVar 0) (eC (.int 0))) aNil)) (aCons (eOp gIx (eVar 0) (eC (.int 1))) aNil))))) sPass)
 (sRet (eFrz (eMakeS "Bar" m_Bar___init__ (aCons (eOp gIx (eVar 0) (eC (.int 0))) (aCons (eA gList (aCons (eOp gIx (eVar 0) (eC (.int 1))) aNil)) (aCons (eOp gIx (eVar 0) (eC (.int 2))) aNil))))))))
noncomputable abbrev m__law_bar : List D → M D := mFunWith exitV 1 1 d__law_bar
theorem g__law_bar (T : TX K mg) : FnG P w K mg base 6 T.f__law_bar T.fd__law_bar ["words"] (spM ⟨K, mg⟩ 1 m__law_bar) := by
  refine fnG (k := 5) (N := N__law_bar) T.F__law_bar sc__law_bar rfl rfl fun X E hX hc hr tk => ?_
  obtain ⟨cdv, A, outer, s, H, rfl⟩ := hX
  have hu64 := hr.units
  have hu65 := u65 hr
  unfold d__law_bar
  exact (sss_cons (ss_if (st_cmp (og_eq hu64) (se_b cg_len T.b_len (by decide +kernel) (sa_cons (se_var 0) sa_nil)) se_int) (sss_one (ss_ret (se_frz (se_makeS T.mk_Bar (g_Bar___init__ T) hc (hr.mono (by decide)) tk T.m_Bar (sa_cons (se_ix og_ix (se_var 0) se_int) sa_nil))))) sss_nil)
 (sss_cons (ss_if (st_cmp (og_eq hu64) (se_b cg_len T.b_len (by decide +kernel) (sa_cons (se_var 0) sa_nil)) se_int) (sss_one (ss_ret (se_frz (se_makeS T.mk_Bar (g_Bar___init__ T) hc (hr.mono (by decide)) tk T.m_Bar (sa_cons (se_t cg_list T.b_list (by decide +kernel) (sa_cons (se_ix og_ix (se_var 0) se_int) sa_nil)) (sa_cons (se_ix og_ix (se_var 0) se_int) sa_nil)))))) sss_nil)
 (sss_one (ss_ret (se_frz (se_makeS T.mk_Bar (g_Bar___init__ T) hc (hr.mono (by decide)) tk T.m_Bar (sa_cons (se_ix og_ix (se_var 0) se_int) (sa_cons (se_t cg_list T.b_list (by decide +kernel) (sa_cons (se_ix og_ix (se_var 0) se_int) sa_nil)) (sa_cons (se_ix og_ix (se_var 0) se_int) sa_nil)))))))))
theorem sc__law_truth : FnScope N__law_truth ["told", "due"] (defScope s__law_truth) := ⟨rfl, rfl, rfl, by decide +kernel, rfl, by decide +kernel, by decide +kernel⟩
noncomputable def d__law_truth : MS := (sRet (eIf (tTru (eVar 1)) (eOp (gIs false) (eVar 0) (eC (.bl true))) (eOp (gIs false) (eVar 0) (eC (.bl false)))))
noncomputable abbrev m__law_truth : List D → M D := mFunWith exitV 2 2 d__law_truth
theorem g__law_truth (T : TX K mg) : FnG P w K mg base 1 T.f__law_truth T.fd__law_truth ["told", "due"] (spM ⟨K, mg⟩ 2 m__law_truth) := by
  refine fnG (k := 0) (N := N__law_truth) T.F__law_truth sc__law_truth rfl rfl fun X E hX hc hr tk => ?_
  obtain ⟨cdv, A, outer, s, H, rfl⟩ := hX
  have hu64 := hr.units
  have hu65 := u65 hr
  unfold d__law_truth
  exact (sss_one (ss_ret (se_if (st_tru (se_var 1)) (se_cmp og_is (se_var 0) se_bl) (se_cmp og_is (se_var 0) se_bl))))
theorem sc__law_plain : FnScope N__law_plain ["told", "due"] (defScope s__law_plain) := ⟨rfl, rfl, rfl, by decide +kernel, rfl, by decide +kernel, by decide +kernel⟩
noncomputable def d__law_plain : MS := (sSeq (Sim.sIf (Sim.tOr (Sim.tNot (tTru (eA gIsi (aCons (eVar 0) (aCons (eC (.ty "tuple")) aNil))))) (Sim.tCmp gNe (eA gLen (aCons (eVar 0) aNil)) (eA gLen (aCons (eVar 1) aNil)))) (sRet (eC (.bl false))) sPass)
 (sRet (eA gAll (aCons (eComp (Sim.iZip (aCons (eVar 0) (aCons (eVar 1) aNil))) (.tp [(.nm 2), (.nm 3)]) tYesM (eAnd (eA gIsi (aCons (eVar 2) (aCons (eC (.ty "int")) aNil))) (eAnd (eNot (eA gIsi (aCons (eVar 2) (aCons (eC (.ty "bool")) aNil)))) (eOp gEq (eVar 2) (eVar 3)))) [2, 3]) aNil))))
noncomputable abbrev m__law_plain : List D → M D := mFunWith exitV 2 4 d__law_plain
theorem g__law_plain (T : TX K mg) : FnG P w K mg base 1 T.f__law_plain T.fd__law_plain ["told", "due"] (spM ⟨K, mg⟩ 2 m__law_plain) := by
  refine fnG (k := 0) (N := N__law_plain) T.F__law_plain sc__law_plain rfl rfl fun X E hX hc hr tk => ?_
  obtain ⟨cdv, A, outer, s, H, rfl⟩ := hX
  have hu64 := hr.units
  have hu65 := u65 hr
  unfold d__law_plain
  exact (sss_cons (ss_if (st_w (sw_or (st_not (st_tru (se_b cg_isi T.b_isinstance (by decide +kernel) (sa_cons (se_var 0) (sa_cons (se_ty T.b_tuple (by decide +kernel)) sa_nil))))) (sw_or1 (st_cmp (og_ne hu64) (se_b cg_len T.b_len (by decide +kernel) (sa_cons (se_var 0) sa_nil)) (se_b cg_len T.b_len (by decide +kernel) (sa_cons (se_var 1) sa_nil)))))) (sss_one (ss_ret se_bl)) sss_nil)
 (sss_one (ss_ret (se_b (cg_all rfl) T.b_all (by decide +kernel) (sa_cons (se_lc exD_ok rfl sc__law_plain.nd (own := [("one", 2), ("other", 3)]) (show blkC N__law_plain (defScope s__law_plain) _ [("one", 2), ("other", 3)] = true from by decide +kernel) (by simp [Tgt.ixs, Tgt.ixss]) (si_zip T.b_zip (sa_cons (se_var 0) (sa_cons (se_var 1) sa_nil))) (fun _ _ _ _ _ => (sg_tp rfl (sgs_cons (sg_nm 2 sc__law_plain.nd) (sgs_cons (sg_nm 3 sc__law_plain.nd) sgs_nil)))) (fun _ _ _ _ _ => spt_nil) (fun _ _ _ _ _ => (se_and (se_b cg_isi T.b_isinstance (by decide +kernel) (sa_cons (se_var 2) (sa_cons (se_ty T.b_int (by decide +kernel)) sa_nil))) (se_and (se_not (se_b cg_isi T.b_isinstance (by decide +kernel) (sa_cons (se_var 2) (sa_cons (se_ty T.b_bool (by decide +kernel)) sa_nil)))) (se_one (se_cmp (og_eq hu64) (se_var 2) (se_var 3))))))) sa_nil)))))
theorem sc__law_drawn : FnScope N__law_drawn ["pen", "letters"] (defScope s__law_drawn) := ⟨rfl, rfl, rfl, by decide +kernel, rfl, by decide +kernel, by decide +kernel⟩
noncomputable def d__law_drawn : MS := (sSeq (sPar 2 3 (aCons (eComp (iRng1 (aCons (eC (.int 12)) aNil)) (.nm 4) tYesM (eCall 2 0 2 [] [0, 1] m__law_draw (aCons (eVar 0) (aCons (eVar 1) aNil)) aNil) [4]) (aCons (eA gLstM aNil) aNil)))
 (sSeq (sFor (iRng1 (aCons (eOp gAdd (eC (.int 1)) (eCall 2 0 2 [] [0, 1] m__law_draw (aCons (eVar 0) (aCons (eC (.int 3)) aNil)) aNil)) aNil)) (.nm 4) (sSeq (sPar 5 6 (aCons (eCall 2 0 2 [] [0, 1] m__law_draw (aCons (eVar 0) (aCons (eC (.int 7)) aNil)) aNil) (aCons (eOp gAdd (eC (.int 1)) (eCall 2 0 2 [] [0, 1] m__law_draw (aCons (eVar 0) (aCons (eC (.int 6)) aNil)) aNil)) aNil)))
 (sSeq (sAsg 7 (eA gTuple (aCons (eSl (eVar 2) (oSome (eVar 5)) (oSome (eOp gAdd (eVar 5) (eVar 6)))) aNil)))
 (sSeq (Sim.sIf (Sim.tCmp gEq (eCall 2 0 2 [] [0, 1] m__law_draw (aCons (eVar 0) (aCons (eC (.int 4)) aNil)) aNil) (eC (.int 0))) (sAsg 7 (eA gTuple (aCons (eComp (iRng1 (aCons (eVar 6) aNil)) (.nm 8) tYesM (eCall 2 0 2 [] [0, 1] m__law_draw (aCons (eVar 0) (aCons (eC (.int 4)) aNil)) aNil) [8]) aNil))) sPass)
 (Sim.sIf (Sim.tCmp (gIn true) (eVar 7) (eVar 3)) (sExpr (eMtL gAppend (eVar 3) (aCons (eVar 7) aNil))) sPass)))))
 (sRet (eVar 3))))
noncomputable abbrev m__law_drawn : List D → M D := mFunWith exitV 2 9 d__law_drawn
theorem g__law_drawn (T : TX K mg) : FnG P w K mg base 2 T.f__law_drawn T.fd__law_drawn ["pen", "letters"] (spM ⟨K, mg⟩ 2 m__law_drawn) := by
  refine fnG (k := 1) (N := N__law_drawn) T.F__law_drawn sc__law_drawn rfl rfl fun X E hX hc hr tk => ?_
  obtain ⟨cdv, A, outer, s, H, rfl⟩ := hX
  have hu64 := hr.units
  have hu65 := u65 hr
  unfold d__law_drawn
  exact (sss_cons (ss_par 2 3 rfl sc__law_drawn.nd (sa_cons (se_lc exD_ok rfl sc__law_drawn.nd (own := [("turn", 4)]) (show blkC N__law_drawn (defScope s__law_drawn) _ [("turn", 4)] = true from by decide +kernel) (by simp [Tgt.ixs, Tgt.ixss]) (si_range1 T.b_range (sa_cons se_int sa_nil)) (fun _ _ _ _ _ => (sg_nm 4 sc__law_drawn.nd)) (fun _ _ _ _ _ => spt_nil) (fun _ _ _ _ _ => (se_call (g__law_draw T) hc (hr.mono (by decide)) takes0 T.m__law_draw T.F__law_draw.kp (bd__law_draw_2 T) (fun _ => .nil) (sa_cons (se_var 0) (sa_cons (se_var 1) sa_nil)) sk_nil))) (sa_cons (se_lstM sa_nil) sa_nil)))
 (sss_cons (ss_for (passes_of rfl) rfl (si_range1 T.b_range (sa_cons (se_op og_add se_int (se_call (g__law_draw T) hc (hr.mono (by decide)) tk T.m__law_draw T.F__law_draw.kp (bd__law_draw_2 T) (fun _ => .nil) (sa_cons (se_var 0) (sa_cons se_int sa_nil)) sk_nil)) sa_nil)) (sg_nm 4 sc__law_drawn.nd) (sss_cons (ss_par 5 6 rfl sc__law_drawn.nd (sa_cons (se_call (g__law_draw T) hc (hr.mono (by decide)) tk T.m__law_draw T.F__law_draw.kp (bd__law_draw_2 T) (fun _ => .nil) (sa_cons (se_var 0) (sa_cons se_int sa_nil)) sk_nil) (sa_cons (se_op og_add se_int (se_call (g__law_draw T) hc (hr.mono (by decide)) tk T.m__law_draw T.F__law_draw.kp (bd__law_draw_2 T) (fun _ => .nil) (sa_cons (se_var 0) (sa_cons se_int sa_nil)) sk_nil)) sa_nil)))
 (sss_cons (ss_set 7 sc__law_drawn.nd (se_t cg_tuple T.b_tuple (by decide +kernel) (sa_cons (se_sl (se_var 2) (so_some (se_var 5)) (so_some (se_op og_add (se_var 5) (se_var 6)))) sa_nil)))
 (sss_cons (ss_if (st_cmp (og_eq hu64) (se_call (g__law_draw T) hc (hr.mono (by decide)) tk T.m__law_draw T.F__law_draw.kp (bd__law_draw_2 T) (fun _ => .nil) (sa_cons (se_var 0) (sa_cons se_int sa_nil)) sk_nil) se_int) (sss_one (ss_set 7 sc__law_drawn.nd (se_t cg_tuple T.b_tuple (by decide +kernel) (sa_cons (se_lc exD_ok rfl sc__law_drawn.nd (own := [("more", 8)]) (show blkC N__law_drawn (defScope s__law_drawn) _ [("more", 8)] = true from by decide +kernel) (by simp [Tgt.ixs, Tgt.ixss]) (si_range1 T.b_range (sa_cons (se_var 6) sa_nil)) (fun _ _ _ _ _ => (sg_nm 8 sc__law_drawn.nd)) (fun _ _ _ _ _ => spt_nil) (fun _ _ _ _ _ => (se_call (g__law_draw T) hc (hr.mono (by decide)) takes0 T.m__law_draw T.F__law_draw.kp (bd__law_draw_2 T) (fun _ => .nil) (sa_cons (se_var 0) (sa_cons se_int sa_nil)) sk_nil))) sa_nil)))) sss_nil)
 (sss_one (ss_if (st_cmp (og_notIn hu65) (se_var 7) (se_var 3)) (sss_one (ss_expr (se_append (se_var 3) (se_var 7)))) sss_nil))))))
 (sss_one (ss_ret (se_var 3)))))
theorem sc__law_far : FnScope N__law_far ["words", "said"] (defScope s__law_far) := ⟨rfl, rfl, rfl, by decide +kernel, rfl, by decide +kernel, by decide +kernel⟩
noncomputable def d__law_far : MS := (sSeq (sFor (iRng2 (aCons (eA gMax2 (aCons (eC (.int 0)) (aCons (eOp gSub (eA gLen (aCons (eVar 1) aNil)) (eC (.int 6))) aNil))) (aCons (eA gLen (aCons (eVar 1) aNil)) aNil))) (.nm 2) (Sim.sIf (tTru (eA gAny (aCons (eComp (iSeq (eVar 0)) (.nm 3) tYesM (eOp gEq (eSl (eVar 3) oNone (oSome (eOp gSub (eA gLen (aCons (eVar 1) aNil)) (eVar 2)))) (eSl (eVar 1) (oSome (eVar 2)) oNone)) [3]) aNil))) (sRet (eSl (eVar 1) (oSome (eVar 2)) oNone)) sPass))
 (sRet (eA gTup aNil)))
noncomputable abbrev m__law_far : List D → M D := mFunWith exitV 2 4 d__law_far
theorem g__law_far (T : TX K mg) : FnG P w K mg base 1 T.f__law_far T.fd__law_far ["words", "said"] (spM ⟨K, mg⟩ 2 m__law_far) := by
  refine fnG (k := 0) (N := N__law_far) T.F__law_far sc__law_far rfl rfl fun X E hX hc hr tk => ?_
  obtain ⟨cdv, A, outer, s, H, rfl⟩ := hX
  have hu64 := hr.units
  have hu65 := u65 hr
  unfold d__law_far
  exact (sss_cons (ss_for (passes_of rfl) rfl (si_range2 T.b_range (sa_cons (se_b (cg_max2 rfl) T.b_max (by decide +kernel) (sa_cons se_int (sa_cons (se_op og_sub (se_b cg_len T.b_len (by decide +kernel) (sa_cons (se_var 1) sa_nil)) se_int) sa_nil))) (sa_cons (se_b cg_len T.b_len (by decide +kernel) (sa_cons (se_var 1) sa_nil)) sa_nil))) (sg_nm 2 sc__law_far.nd) (sss_one (ss_if (st_tru (se_b (cg_any rfl) T.b_any (by decide +kernel) (sa_cons (se_lc exD_ok rfl sc__law_far.nd (own := [("word", 3)]) (show blkC N__law_far (defScope s__law_far) _ [("word", 3)] = true from by decide +kernel) (by simp [Tgt.ixs, Tgt.ixss]) (si_seq (se_var 0)) (fun _ _ _ _ _ => (sg_nm 3 sc__law_far.nd)) (fun _ _ _ _ _ => spt_nil) (fun _ _ _ _ _ => (se_cmp (og_eq hu64) (se_sl (se_var 3) so_none (so_some (se_op og_sub (se_b cg_len T.b_len (by decide +kernel) (sa_cons (se_var 1) sa_nil)) (se_var 2)))) (se_sl (se_var 1) (so_some (se_var 2)) so_none)))) sa_nil))) (sss_one (ss_ret (se_sl (se_var 1) (so_some (se_var 2)) so_none))) sss_nil)))
 (sss_one (ss_ret (se_tup sa_nil))))
theorem sc__law_next : FnScope N__law_next ["pen", "words", "how", "letters"] (defScope s__law_next) := ⟨rfl, rfl, rfl, by decide +kernel, rfl, by decide +kernel, by decide +kernel⟩
noncomputable def d__law_next : MS := (sSeq (sAsg 4 (eComp (iSeq (eVar 1)) (.nm 5) (Sim.tAnd (Sim.tCmp gEq (eSl (eVar 5) oNone (oSome (eA gLen (aCons (eVar 2) aNil)))) (eVar 2)) (Sim.tCmp gGt (eA gLen (aCons (eVar 5) aNil)) (eA gLen (aCons (eVar 2) aNil)))) (eVar 5) [5]))
 (sSeq (Sim.sIf (Sim.tOr (Sim.tCmp gEq (eVar 4) (eA gLst aNil)) (Sim.tCmp gEq (eCall 2 0 2 [] [0, 1] m__law_draw (aCons (eVar 0) (aCons (eC (.int 4)) aNil)) aNil) (eC (.int 0)))) (sRet (eCall 2 0 2 [] [0, 1] m__law_draw (aCons (eVar 0) (aCons (eVar 3) aNil)) aNil)) sPass)
 (sRet (eOp gIx (eCall 2 0 2 [] [0, 1] m__law_pick (aCons (eVar 0) (aCons (eVar 4) aNil)) aNil) (eA gLen (aCons (eVar 2) aNil))))))
noncomputable abbrev m__law_next : List D → M D := mFunWith exitV 4 6 d__law_next
theorem g__law_next (T : TX K mg) : FnG P w K mg base 3 T.f__law_next T.fd__law_next ["pen", "words", "how", "letters"] (spM ⟨K, mg⟩ 4 m__law_next) := by
  refine fnG (k := 2) (N := N__law_next) T.F__law_next sc__law_next rfl rfl fun X E hX hc hr tk => ?_
  obtain ⟨cdv, A, outer, s, H, rfl⟩ := hX
  have hu64 := hr.units
  have hu65 := u65 hr
  unfold d__law_next
  exact (sss_cons (ss_setLc 4 exD_ok rfl sc__law_next.nd (own := [("word", 5)]) (show blkC N__law_next (defScope s__law_next) _ [("word", 5)] = true from by decide +kernel) (by simp [Tgt.ixs, Tgt.ixss]) (si_seq (se_var 1)) (fun _ _ _ _ _ => (sg_nm 5 sc__law_next.nd)) (fun _ _ _ _ _ => (spt_one (st_w (sw_and (st_cmp (og_eq hu64) (se_sl (se_var 5) so_none (so_some (se_b cg_len T.b_len (by decide +kernel) (sa_cons (se_var 2) sa_nil)))) (se_var 2)) (sw_and1 (st_cmp og_gt (se_b cg_len T.b_len (by decide +kernel) (sa_cons (se_var 5) sa_nil)) (se_b cg_len T.b_len (by decide +kernel) (sa_cons (se_var 2) sa_nil)))))))) (fun _ _ _ _ _ => (se_var 5)))
 (sss_cons (ss_if (st_w (sw_or (st_cmp (og_eq hu64) (se_var 4) (se_lst sa_nil)) (sw_or1 (st_cmp (og_eq hu64) (se_call (g__law_draw T) hc (hr.mono (by decide)) tk T.m__law_draw T.F__law_draw.kp (bd__law_draw_2 T) (fun _ => .nil) (sa_cons (se_var 0) (sa_cons se_int sa_nil)) sk_nil) se_int)))) (sss_one (ss_ret (se_call (g__law_draw T) hc (hr.mono (by decide)) tk T.m__law_draw T.F__law_draw.kp (bd__law_draw_2 T) (fun _ => .nil) (sa_cons (se_var 0) (sa_cons (se_var 3) sa_nil)) sk_nil))) sss_nil)
 (sss_one (ss_ret (se_ix og_ix (se_call (g__law_pick T) hc (hr.mono (by decide)) tk T.m__law_pick T.F__law_pick.kp (bd__law_pick_2 T) (fun _ => .nil) (sa_cons (se_var 0) (sa_cons (se_var 4) sa_nil)) sk_nil) (se_b cg_len T.b_len (by decide +kernel) (sa_cons (se_var 2) sa_nil)))))))
theorem sc_Bar___eq__ : FnScope N_Bar___eq__ ["self", "other"] (defScope s_Bar___eq__) := ⟨rfl, rfl, rfl, by decide +kernel, rfl, by decide +kernel, by decide +kernel⟩
noncomputable def d_Bar___eq__ : MS := (sSeq (Sim.sIf (Sim.tNot (tTru (eA (gIsI CS KT) (aCons (eVar 1) (aCons (eC (.glob "Bar")) aNil))))) (sRet (eC (.bl false))) sPass)
 (sRet (eOp gEq (eUn (gFld FT "words") (eVar 0)) (eUn (gFld FT "words") (eVar 1)))))
noncomputable abbrev m_Bar___eq__ : List D → M D := mFunWith exitV 2 2 d_Bar___eq__
theorem g_Bar___eq__ (T : TX K mg) : FnG P w K mg base 1 T.f_Bar___eq__ T.fd_Bar___eq__ ["self", "other"] (spM ⟨K, mg⟩ 2 m_Bar___eq__) := by
  refine fnG (k := 0) (N := N_Bar___eq__) T.F_Bar___eq__ sc_Bar___eq__ rfl rfl fun X E hX hc hr tk => ?_
  obtain ⟨cdv, A, outer, s, H, rfl⟩ := hX
  have hu64 := hr.units
  have hu65 := u65 hr
  unfold d_Bar___eq__
  exact (sss_cons (ss_if (st_not (st_tru (se_b (cg_isI T.ins T.kit) T.b_isinstance (by decide +kernel) (sa_cons (se_var 1) (sa_cons (se_glob T.m_Bar) sa_nil))))) (sss_one (ss_ret se_bl)) sss_nil)
 (sss_one (ss_ret (se_cmp (og_eq hu64) (se_fld T.ft (se_var 0)) (se_fld T.ft (se_var 1))))))
theorem bdE_Bar (T : TX K mg) : Bd K T.fd_Bar___eq__ ["self", "other"] 2 [] [] [0, 1] := bd_plain T.F_Bar___eq__ fun _ _ _ _ _ _ us ws h1 h2 => match us, ws, h1, h2 with | [_, _], [], _, _ => rfl
theorem sc__law_bar_right : FnScope N__law_bar_right ["bar", "words"] (defScope s__law_bar_right) := ⟨rfl, rfl, rfl, by decide +kernel, rfl, by decide +kernel, by decide +kernel⟩
noncomputable def d__law_bar_right : MS := (sSeq (Sim.sIf (Sim.tOr (Sim.tNot (tTru (eA gIsi (aCons (eUn (gFld FT "words") (eVar 0)) (aCons (eC (.ty "tuple")) aNil))))) (Sim.tCmp gNe (eA gLen (aCons (eUn (gFld FT "words") (eVar 0)) aNil)) (eA gLen (aCons (eVar 1) aNil)))) (sRet (eC (.bl false))) sPass)
 (sSeq (Sim.sIf (Sim.tNot (tTru (eA gAll (aCons (eComp (Sim.iZip (aCons (eUn (gFld FT "words") (eVar 0)) (aCons (eVar 1) aNil))) (.tp [(.nm 2), (.nm 3)]) tYesM (eCall 2 0 2 [] [0, 1] m__law_plain (aCons (eVar 2) (aCons (eVar 3) aNil)) aNil) [2, 3]) aNil)))) (sRet (eC (.bl false))) sPass)
 (sSeq (Sim.sIf (Sim.tOr (Sim.tNot (tTru (eCall 2 0 2 [] [0, 1] m__law_truth (aCons (eOp (gOwn "Bar" CS NF_Bar false m_Bar___eq__) (eVar 0) (eCall 1 0 1 [] [0] m__law_bar (aCons (eVar 1) aNil) aNil)) (aCons (eC (.bl true)) aNil)) aNil))) (Sim.tNot (tTru (eCall 2 0 2 [] [0, 1] m__law_truth (aCons (eOp (gOwn "Bar" CS NF_Bar false m_Bar___eq__) (eVar 0) (eVar 1)) (aCons (eC (.bl false)) aNil)) aNil)))) (sRet (eC (.bl false))) sPass)
 (sSeq (sAsg 4 (eOp gAdd (eSl (eVar 1) (oSome (eC (.int 1))) oNone) (eSl (eVar 1) oNone (oSome (eC (.int 1))))))
 (sSeq (Sim.sIf (Sim.tOr (Sim.tNot (tTru (eCall 2 0 2 [] [0, 1] m__law_truth (aCons (eOp (gOwn "Bar" CS NF_Bar false m_Bar___eq__) (eVar 0) (eCall 1 0 1 [] [0] m__law_bar (aCons (eVar 4) aNil) aNil)) (aCons (eOp gEq (eVar 4) (eVar 1)) aNil)) aNil))) (Sim.tNot (tTru (eCall 2 0 2 [] [0, 1] m__law_truth (aCons (eOp (gOwn "Bar" CS NF_Bar true m_Bar___eq__) (eVar 0) (eCall 1 0 1 [] [0] m__law_bar (aCons (eVar 1) aNil) aNil)) (aCons (eC (.bl false)) aNil)) aNil)))) (sRet (eC (.bl false))) sPass)
 (sSeq (sAsg 5 (eComp (iSeq (eA gLst (aCons (eA gTup (aCons (eC (.int 0)) aNil)) (aCons (eA gTup (aCons (eC (.int 1)) aNil)) (aCons (eA gTup (aCons (eC (.int 2)) aNil)) (aCons (eA gTup (aCons (eC (.int 3)) aNil)) aNil)))))) (.nm 3) (Sim.tCmp (gIn true) (eVar 3) (eVar 1)) (eVar 3) [3]))
 (sRet (eCall 2 0 2 [] [0, 1] m__law_truth (aCons (eOp (gOwn "Bar" CS NF_Bar false m_Bar___eq__) (eVar 0) (eCall 1 0 1 [] [0] m__law_bar (aCons (eOp gAdd (eSl (eVar 1) (oSome (eC (.int 1))) oNone) (eSl (eVar 5) oNone (oSome (eC (.int 1))))) aNil) aNil)) (aCons (eC (.bl false)) aNil)) aNil))))))))
noncomputable abbrev m__law_bar_right : List D → M D := mFunWith exitV 2 6 d__law_bar_right
theorem g__law_bar_right (T : TX K mg) : FnG P w K mg base 7 T.f__law_bar_right T.fd__law_bar_right ["bar", "words"] (spM ⟨K, mg⟩ 2 m__law_bar_right) := by
  refine fnG (k := 6) (N := N__law_bar_right) T.F__law_bar_right sc__law_bar_right rfl rfl fun X E hX hc hr tk => ?_
  obtain ⟨cdv, A, outer, s, H, rfl⟩ := hX
  have hu64 := hr.units
  have hu65 := u65 hr
  unfold d__law_bar_right
  exact (sss_cons (ss_if (st_w (sw_or (st_not (st_tru (se_b cg_isi T.b_isinstance (by decide +kernel) (sa_cons (se_fld T.ft (se_var 0)) (sa_cons (se_ty T.b_tuple (by decide +kernel)) sa_nil))))) (sw_or1 (st_cmp (og_ne hu64) (se_b cg_len T.b_len (by decide +kernel) (sa_cons (se_fld T.ft (se_var 0)) sa_nil)) (se_b cg_len T.b_len (by decide +kernel) (sa_cons (se_var 1) sa_nil)))))) (sss_one (ss_ret se_bl)) sss_nil)
 (sss_cons (ss_if (st_not (st_tru (se_b (cg_all rfl) T.b_all (by decide +kernel) (sa_cons (se_lc exD_ok rfl sc__law_bar_right.nd (own := [("told", 2), ("word", 3)]) (show blkC N__law_bar_right (defScope s__law_bar_right) _ [("told", 2), ("word", 3)] = true from by decide +kernel) (by simp [Tgt.ixs, Tgt.ixss]) (si_zip T.b_zip (sa_cons (se_fld T.ft (se_var 0)) (sa_cons (se_var 1) sa_nil))) (fun _ _ _ _ _ => (sg_tp rfl (sgs_cons (sg_nm 2 sc__law_bar_right.nd) (sgs_cons (sg_nm 3 sc__law_bar_right.nd) sgs_nil)))) (fun _ _ _ _ _ => spt_nil) (fun _ _ _ _ _ => (se_call (g__law_plain T) hc (hr.mono (by decide)) takes0 T.m__law_plain T.F__law_plain.kp (bd__law_plain_2 T) (fun _ => .nil) (sa_cons (se_var 2) (sa_cons (se_var 3) sa_nil)) sk_nil))) sa_nil)))) (sss_one (ss_ret se_bl)) sss_nil)
 (sss_cons (ss_if (st_w (sw_or (st_not (st_tru (se_call (g__law_truth T) hc (hr.mono (by decide)) tk T.m__law_truth T.F__law_truth.kp (bd__law_truth_2 T) (fun _ => .nil) (sa_cons (se_cmp (og_own T.ins T.m_Bar T.eq_Bar (g_Bar___eq__ T) hc (hr.mono (by decide)) (bdE_Bar T)) (se_var 0) (se_call (g__law_bar T) hc (hr.mono (by decide)) tk T.m__law_bar T.F__law_bar.kp (bd__law_bar_1 T) (fun _ => .nil) (sa_cons (se_var 1) sa_nil) sk_nil)) (sa_cons se_bl sa_nil)) sk_nil))) (sw_or1 (st_not (st_tru (se_call (g__law_truth T) hc (hr.mono (by decide)) tk T.m__law_truth T.F__law_truth.kp (bd__law_truth_2 T) (fun _ => .nil) (sa_cons (se_cmp (og_own T.ins T.m_Bar T.eq_Bar (g_Bar___eq__ T) hc (hr.mono (by decide)) (bdE_Bar T)) (se_var 0) (se_var 1)) (sa_cons se_bl sa_nil)) sk_nil)))))) (sss_one (ss_ret se_bl)) sss_nil)
 (sss_cons (ss_set 4 sc__law_bar_right.nd (se_op og_add (se_sl (se_var 1) (so_some se_int) so_none) (se_sl (se_var 1) so_none (so_some se_int))))
 (sss_cons (ss_if (st_w (sw_or (st_not (st_tru (se_call (g__law_truth T) hc (hr.mono (by decide)) tk T.m__law_truth T.F__law_truth.kp (bd__law_truth_2 T) (fun _ => .nil) (sa_cons (se_cmp (og_own T.ins T.m_Bar T.eq_Bar (g_Bar___eq__ T) hc (hr.mono (by decide)) (bdE_Bar T)) (se_var 0) (se_call (g__law_bar T) hc (hr.mono (by decide)) tk T.m__law_bar T.F__law_bar.kp (bd__law_bar_1 T) (fun _ => .nil) (sa_cons (se_var 4) sa_nil) sk_nil)) (sa_cons (se_cmp (og_eq hu64) (se_var 4) (se_var 1)) sa_nil)) sk_nil))) (sw_or1 (st_not (st_tru (se_call (g__law_truth T) hc (hr.mono (by decide)) tk T.m__law_truth T.F__law_truth.kp (bd__law_truth_2 T) (fun _ => .nil) (sa_cons (se_cmp (og_ownNe T.ins T.m_Bar T.eq_Bar (g_Bar___eq__ T) hc (hr.mono (by decide)) (bdE_Bar T)) (se_var 0) (se_call (g__law_bar T) hc (hr.mono (by decide)) tk T.m__law_bar T.F__law_bar.kp (bd__law_bar_1 T) (fun _ => .nil) (sa_cons (se_var 1) sa_nil) sk_nil)) (sa_cons se_bl sa_nil)) sk_nil)))))) (sss_one (ss_ret se_bl)) sss_nil)
 (sss_cons (ss_setLc 5 exD_ok rfl sc__law_bar_right.nd (own := [("word", 3)]) (show blkC N__law_bar_right (defScope s__law_bar_right) _ [("word", 3)] = true from by decide +kernel) (by simp [Tgt.ixs, Tgt.ixss]) (si_seq (se_lst (sa_cons (se_tup (sa_cons se_int sa_nil)) (sa_cons (se_tup (sa_cons se_int sa_nil)) (sa_cons (se_tup (sa_cons se_int sa_nil)) (sa_cons (se_tup (sa_cons se_int sa_nil)) sa_nil)))))) (fun _ _ _ _ _ => (sg_nm 3 sc__law_bar_right.nd)) (fun _ _ _ _ _ => (spt_one (st_cmp (og_notIn hu65) (se_var 3) (se_var 1)))) (fun _ _ _ _ _ => (se_var 3)))
 (sss_one (ss_ret (se_call (g__law_truth T) hc (hr.mono (by decide)) tk T.m__law_truth T.F__law_truth.kp (bd__law_truth_2 T) (fun _ => .nil) (sa_cons (se_cmp (og_own T.ins T.m_Bar T.eq_Bar (g_Bar___eq__ T) hc (hr.mono (by decide)) (bdE_Bar T)) (se_var 0) (se_call (g__law_bar T) hc (hr.mono (by decide)) tk T.m__law_bar T.F__law_bar.kp (bd__law_bar_1 T) (fun _ => .nil) (sa_cons (se_op og_add (se_sl (se_var 1) (so_some se_int) so_none) (se_sl (se_var 5) so_none (so_some se_int))) sa_nil) sk_nil)) (sa_cons se_bl sa_nil)) sk_nil)))))))))
theorem sc_law : FnScope N_law ["script"] (defScope s_law) := ⟨rfl, rfl, rfl, by decide +kernel, rfl, by decide +kernel, by decide +kernel⟩
noncomputable def d_law : MS := (sSeq (sAsg 1 (eCall 1 0 1 [] [0] m__law_pen (aCons (eVar 0) aNil) aNil))
 (sSeq (sAsg 2 (eCall 2 0 2 [] [0, 1] m__law_pick (aCons (eVar 1) (aCons (eA gLst (aCons (eC (.int 1)) (aCons (eC (.int 2)) (aCons (eC (.int 2)) (aCons (eC (.int 3)) (aCons (eC (.int 4)) aNil)))))) aNil)) aNil))
 (sSeq (sAsg 3 (eCall 2 0 2 [] [0, 1] m__law_drawn (aCons (eVar 1) (aCons (eVar 2) aNil)) aNil))
 (sSeq (sAsg 4 (compG exitAll (iSeq (eVar 3)) (.nm 5) tYesM (eA gListM (aCons (eVar 5) aNil)) [5]))
 (sSeq (sAsgT (.tp [(.nm 6), (.nm 7), (.nm 8)]) (eA gTup (aCons (eCall 1 0 1 [] [0] m__law_bar (aCons (eVar 4) aNil) aNil) (aCons (eA gTup aNil) (aCons (eA gTup aNil) aNil)))))
 (sSeq (sFor (iSeq (eVar 4)) (.nm 5) (sExpr (eMtL gAppend (eVar 5) (aCons (eC (.int 0)) aNil))))
 (sSeq (Sim.sIf (Sim.tNot (tTru (eCall 2 0 2 [] [0, 1] m__law_bar_right (aCons (eVar 6) (aCons (eVar 3) aNil)) aNil))) (sRet (eC (.bl false))) sPass)
 (sSeq (sFor (iRng1 (aCons (eC (.int 60)) aNil)) (.nm 9) (sSeq (sAsg 10 (eCall 4 0 4 [] [0, 1, 2, 3] m__law_next (aCons (eVar 1) (aCons (eVar 3) (aCons (eVar 8) (aCons (eVar 2) aNil)))) aNil))
 (sSeq (sAsg 11 (eA gList (aCons (eVar 7) aNil)))
 (sSeq (sAsg 12 (eCall 2 0 2 [] [0, 1] m__law_far (aCons (eVar 3) (aCons (eOp gAdd (eVar 7) (eA gTup (aCons (eVar 10) aNil))) aNil)) aNil))
 (sSeq (Sim.sIf (Sim.tOr (Sim.tNot (tTru (eCall 2 0 2 [] [0, 1] m__law_plain (aCons (eCall 3 0 3 [] [0, 1, 2] m_far (aCons (eVar 6) (aCons (eVar 8) (aCons (eVar 10) aNil))) aNil) (aCons (eVar 12) aNil)) aNil))) (Sim.tNot (tTru (eCall 2 0 2 [] [0, 1] m__law_plain (aCons (eCall 3 0 3 [] [0, 1, 2] m_far (aCons (eVar 6) (aCons (eVar 11) (aCons (eVar 10) aNil))) aNil) (aCons (eVar 12) aNil)) aNil)))) (sRet (eC (.bl false))) sPass)
 (sSeq (Sim.sIf (Sim.tCmp gNe (eVar 11) (eA gList (aCons (eVar 7) aNil))) (sRet (eC (.bl false))) sPass)
 (sSeq (sAsgT (.tp [(.nm 7), (.nm 8)]) (eA gTup (aCons (eOp gAdd (eVar 7) (eA gTup (aCons (eVar 10) aNil))) (aCons (eVar 12) aNil))))
 (sSeq (sAsg 13 (eA gAny (aCons (eComp (iSeq (eVar 3)) (.nm 5) tYesM (eOp gEq (eSl (eVar 7) (oSome (eUn gNeg (eA gLen (aCons (eVar 5) aNil)))) oNone) (eVar 5)) [5]) aNil)))
 (Sim.sIf (Sim.tOr (Sim.tNot (tTru (eCall 2 0 2 [] [0, 1] m__law_truth (aCons (eCall 2 0 2 [] [0, 1] m_is_broken (aCons (eVar 6) (aCons (eVar 8) aNil)) aNil) (aCons (eVar 13) aNil)) aNil))) (Sim.tNot (tTru (eCall 2 0 2 [] [0, 1] m__law_truth (aCons (eCall 0 2 2 [] [0, 1] m_is_broken aNil (aCons (eVar 6) (aCons (eVar 7) aNil))) (aCons (eVar 13) aNil)) aNil)))) (sRet (eC (.bl false))) sPass)))))))))
 (sSeq (sAsgT (.tp [(.nm 14), (.nm 10)]) (eA gTup (aCons (eSl (eOp gMulS (eVar 7) (eC (.int 17))) (oSome (eUn gNeg (eC (.int 1000)))) oNone) (aCons (eCall 2 0 2 [] [0, 1] m__law_draw (aCons (eVar 1) (aCons (eC (.int 4)) aNil)) aNil) aNil))))
 (sSeq (sAsg 13 (eA gAny (aCons (eComp (iSeq (eVar 3)) (.nm 5) tYesM (eOp gEq (eSl (eVar 14) (oSome (eUn gNeg (eA gLen (aCons (eVar 5) aNil)))) oNone) (eVar 5)) [5]) aNil)))
 (sSeq (Sim.sIf (Sim.tOr (Sim.tNot (tTru (eCall 2 0 2 [] [0, 1] m__law_truth (aCons (eCall 2 0 2 [] [0, 1] m_is_broken (aCons (eVar 6) (aCons (eVar 14) aNil)) aNil) (aCons (eVar 13) aNil)) aNil))) (Sim.tNot (tTru (eCall 2 0 2 [] [0, 1] m__law_truth (aCons (eCall 2 0 2 [] [0, 1] m_is_broken (aCons (eVar 6) (aCons (eA gLst aNil) aNil)) aNil) (aCons (eC (.bl false)) aNil)) aNil)))) (sRet (eC (.bl false))) sPass)
 (sRet (eCall 2 0 2 [] [0, 1] m__law_plain (aCons (eCall 0 3 3 [] [0, 1, 2] m_far aNil (aCons (eVar 6) (aCons (eVar 14) (aCons (eVar 10) aNil)))) (aCons (eCall 2 0 2 [] [0, 1] m__law_far (aCons (eVar 3) (aCons (eOp gAdd (eVar 14) (eA gTup (aCons (eVar 10) aNil))) aNil)) aNil) aNil)) aNil)))))))))))))
noncomputable abbrev m_law : List D → M D := mFunWith exitV 1 15 d_law
theorem g_law (T : TX K mg) : FnG P w K mg base 8 T.f_law T.fd_law ["script"] (spM ⟨K, mg⟩ 1 m_law) := by
  refine fnG (k := 7) (N := N_law) T.F_law sc_law rfl rfl fun X E hX hc hr tk => ?_
  obtain ⟨cdv, A, outer, s, H, rfl⟩ := hX
  have hu64 := hr.units
  have hu65 := u65 hr
  unfold d_law
  exact (sss_cons (ss_set 1 sc_law.nd (se_call (g__law_pen T) hc (hr.mono (by decide)) tk T.m__law_pen T.F__law_pen.kp (bd__law_pen_1 T) (fun _ => .nil) (sa_cons (se_var 0) sa_nil) sk_nil))
 (sss_cons (ss_set 2 sc_law.nd (se_call (g__law_pick T) hc (hr.mono (by decide)) tk T.m__law_pick T.F__law_pick.kp (bd__law_pick_2 T) (fun _ => .nil) (sa_cons (se_var 1) (sa_cons (se_lst (sa_cons se_int (sa_cons se_int (sa_cons se_int (sa_cons se_int (sa_cons se_int sa_nil)))))) sa_nil)) sk_nil))
 (sss_cons (ss_set 3 sc_law.nd (se_call (g__law_drawn T) hc (hr.mono (by decide)) tk T.m__law_drawn T.F__law_drawn.kp (bd__law_drawn_2 T) (fun _ => .nil) (sa_cons (se_var 1) (sa_cons (se_var 2) sa_nil)) sk_nil))
 (sss_cons (ss_setLc 4 exitAll_ok rfl sc_law.nd (own := [("word", 5)]) (show blkC N_law (defScope s_law) _ [("word", 5)] = true from by decide +kernel) (by simp [Tgt.ixs, Tgt.ixss]) (si_seq (se_var 3)) (fun _ _ _ _ _ => (sg_nm 5 sc_law.nd)) (fun _ _ _ _ _ => spt_nil) (fun _ _ _ _ _ => (se_t cg_listM T.b_list (by decide +kernel) (sa_cons (se_var 5) sa_nil))))
 (sss_cons (ss_asgT (se_tup (sa_cons (se_call (g__law_bar T) hc (hr.mono (by decide)) tk T.m__law_bar T.F__law_bar.kp (bd__law_bar_1 T) (fun _ => .nil) (sa_cons (se_var 4) sa_nil) sk_nil) (sa_cons (se_tup sa_nil) (sa_cons (se_tup sa_nil) sa_nil)))) (sg_tp rfl (sgs_cons (sg_nm 6 sc_law.nd) (sgs_cons (sg_nm 7 sc_law.nd) (sgs_cons (sg_nm 8 sc_law.nd) sgs_nil)))))
 (sss_cons (ss_for (passes_of rfl) rfl (si_seq (se_var 4)) (sg_nm 5 sc_law.nd) (sss_one (ss_expr (se_append (se_var 5) se_int))))
 (sss_cons (ss_if (st_not (st_tru (se_call (g__law_bar_right T) hc (hr.mono (by decide)) tk T.m__law_bar_right T.F__law_bar_right.kp (bd__law_bar_right_2 T) (fun _ => .nil) (sa_cons (se_var 6) (sa_cons (se_var 3) sa_nil)) sk_nil))) (sss_one (ss_ret se_bl)) sss_nil)
 (sss_cons (ss_for (passes_of rfl) rfl (si_range1 T.b_range (sa_cons se_int sa_nil)) (sg_nm 9 sc_law.nd) (sss_cons (ss_set 10 sc_law.nd (se_call (g__law_next T) hc (hr.mono (by decide)) tk T.m__law_next T.F__law_next.kp (bd__law_next_4 T) (fun _ => .nil) (sa_cons (se_var 1) (sa_cons (se_var 3) (sa_cons (se_var 8) (sa_cons (se_var 2) sa_nil)))) sk_nil))
 (sss_cons (ss_set 11 sc_law.nd (se_t cg_list T.b_list (by decide +kernel) (sa_cons (se_var 7) sa_nil)))
 (sss_cons (ss_set 12 sc_law.nd (se_call (g__law_far T) hc (hr.mono (by decide)) tk T.m__law_far T.F__law_far.kp (bd__law_far_2 T) (fun _ => .nil) (sa_cons (se_var 3) (sa_cons (se_op og_add (se_var 7) (se_tup (sa_cons (se_var 10) sa_nil))) sa_nil)) sk_nil))
 (sss_cons (ss_if (st_w (sw_or (st_not (st_tru (se_call (g__law_plain T) hc (hr.mono (by decide)) tk T.m__law_plain T.F__law_plain.kp (bd__law_plain_2 T) (fun _ => .nil) (sa_cons (se_call (g_far T) hc (hr.mono (by decide)) tk T.m_far T.F_far.kp (bd_far_3 T) (fun _ => .nil) (sa_cons (se_var 6) (sa_cons (se_var 8) (sa_cons (se_var 10) sa_nil))) sk_nil) (sa_cons (se_var 12) sa_nil)) sk_nil))) (sw_or1 (st_not (st_tru (se_call (g__law_plain T) hc (hr.mono (by decide)) tk T.m__law_plain T.F__law_plain.kp (bd__law_plain_2 T) (fun _ => .nil) (sa_cons (se_call (g_far T) hc (hr.mono (by decide)) tk T.m_far T.F_far.kp (bd_far_3 T) (fun _ => .nil) (sa_cons (se_var 6) (sa_cons (se_var 11) (sa_cons (se_var 10) sa_nil))) sk_nil) (sa_cons (se_var 12) sa_nil)) sk_nil)))))) (sss_one (ss_ret se_bl)) sss_nil)
 (sss_cons (ss_if (st_cmp (og_ne hu64) (se_var 11) (se_t cg_list T.b_list (by decide +kernel) (sa_cons (se_var 7) sa_nil))) (sss_one (ss_ret se_bl)) sss_nil)
 (sss_cons (ss_asgT (se_tup (sa_cons (se_op og_add (se_var 7) (se_tup (sa_cons (se_var 10) sa_nil))) (sa_cons (se_var 12) sa_nil))) (sg_tp rfl (sgs_cons (sg_nm 7 sc_law.nd) (sgs_cons (sg_nm 8 sc_law.nd) sgs_nil))))
 (sss_cons (ss_set 13 sc_law.nd (se_b (cg_any rfl) T.b_any (by decide +kernel) (sa_cons (se_lc exD_ok rfl sc_law.nd (own := [("word", 5)]) (show blkC N_law (defScope s_law) _ [("word", 5)] = true from by decide +kernel) (by simp [Tgt.ixs, Tgt.ixss]) (si_seq (se_var 3)) (fun _ _ _ _ _ => (sg_nm 5 sc_law.nd)) (fun _ _ _ _ _ => spt_nil) (fun _ _ _ _ _ => (se_cmp (og_eq hu64) (se_sl (se_var 7) (so_some (se_un og_neg (se_b cg_len T.b_len (by decide +kernel) (sa_cons (se_var 5) sa_nil)))) so_none) (se_var 5)))) sa_nil)))
 (sss_one (ss_if (st_w (sw_or (st_not (st_tru (se_call (g__law_truth T) hc (hr.mono (by decide)) tk T.m__law_truth T.F__law_truth.kp (bd__law_truth_2 T) (fun _ => .nil) (sa_cons (se_call (g_is_broken T) hc (hr.mono (by decide)) tk T.m_is_broken T.F_is_broken.kp (bd_is_broken_2 T) (fun _ => .nil) (sa_cons (se_var 6) (sa_cons (se_var 8) sa_nil)) sk_nil) (sa_cons (se_var 13) sa_nil)) sk_nil))) (sw_or1 (st_not (st_tru (se_call (g__law_truth T) hc (hr.mono (by decide)) tk T.m__law_truth T.F__law_truth.kp (bd__law_truth_2 T) (fun _ => .nil) (sa_cons (se_callk (g_is_broken T) hc (hr.mono (by decide)) tk T.m_is_broken T.F_is_broken.kp (bd_is_broken_0_bar_how T) (fun _ => .nil) (sk_cons (se_var 6) (sk_cons (se_var 7) sk_nil))) (sa_cons (se_var 13) sa_nil)) sk_nil)))))) (sss_one (ss_ret se_bl)) sss_nil))))))))))
 (sss_cons (ss_asgT (se_tup (sa_cons (se_sl (se_op og_mulS (se_var 7) se_int) (so_some (se_un og_neg se_int)) so_none) (sa_cons (se_call (g__law_draw T) hc (hr.mono (by decide)) tk T.m__law_draw T.F__law_draw.kp (bd__law_draw_2 T) (fun _ => .nil) (sa_cons (se_var 1) (sa_cons se_int sa_nil)) sk_nil) sa_nil))) (sg_tp rfl (sgs_cons (sg_nm 14 sc_law.nd) (sgs_cons (sg_nm 10 sc_law.nd) sgs_nil))))
 (sss_cons (ss_set 13 sc_law.nd (se_b (cg_any rfl) T.b_any (by decide +kernel) (sa_cons (se_lc exD_ok rfl sc_law.nd (own := [("word", 5)]) (show blkC N_law (defScope s_law) _ [("word", 5)] = true from by decide +kernel) (by simp [Tgt.ixs, Tgt.ixss]) (si_seq (se_var 3)) (fun _ _ _ _ _ => (sg_nm 5 sc_law.nd)) (fun _ _ _ _ _ => spt_nil) (fun _ _ _ _ _ => (se_cmp (og_eq hu64) (se_sl (se_var 14) (so_some (se_un og_neg (se_b cg_len T.b_len (by decide +kernel) (sa_cons (se_var 5) sa_nil)))) so_none) (se_var 5)))) sa_nil)))
 (sss_cons (ss_if (st_w (sw_or (st_not (st_tru (se_call (g__law_truth T) hc (hr.mono (by decide)) tk T.m__law_truth T.F__law_truth.kp (bd__law_truth_2 T) (fun _ => .nil) (sa_cons (se_call (g_is_broken T) hc (hr.mono (by decide)) tk T.m_is_broken T.F_is_broken.kp (bd_is_broken_2 T) (fun _ => .nil) (sa_cons (se_var 6) (sa_cons (se_var 14) sa_nil)) sk_nil) (sa_cons (se_var 13) sa_nil)) sk_nil))) (sw_or1 (st_not (st_tru (se_call (g__law_truth T) hc (hr.mono (by decide)) tk T.m__law_truth T.F__law_truth.kp (bd__law_truth_2 T) (fun _ => .nil) (sa_cons (se_call (g_is_broken T) hc (hr.mono (by decide)) tk T.m_is_broken T.F_is_broken.kp (bd_is_broken_2 T) (fun _ => .nil) (sa_cons (se_var 6) (sa_cons (se_lst sa_nil) sa_nil)) sk_nil) (sa_cons se_bl sa_nil)) sk_nil)))))) (sss_one (ss_ret se_bl)) sss_nil)
 (sss_one (ss_ret (se_call (g__law_plain T) hc (hr.mono (by decide)) tk T.m__law_plain T.F__law_plain.kp (bd__law_plain_2 T) (fun _ => .nil) (sa_cons (se_callk (g_far T) hc (hr.mono (by decide)) tk T.m_far T.F_far.kp (bd_far_0_bar_how_letter T) (fun _ => .nil) (sk_cons (se_var 6) (sk_cons (se_var 14) (sk_cons (se_var 10) sk_nil)))) (sa_cons (se_call (g__law_far T) hc (hr.mono (by decide)) tk T.m__law_far T.F__law_far.kp (bd__law_far_2 T) (fun _ => .nil) (sa_cons (se_var 3) (sa_cons (se_op og_add (se_var 14) (se_tup (sa_cons (se_var 10) sa_nil))) sa_nil)) sk_nil) sa_nil)) sk_nil))))))))))))))
end
end K15
end

section
/-! Sim P1: reasoning about mirrors. -/
namespace Sim
open PySem PySem.Spec PyProof.Rows L2 RZ

/-! ### data without references -/
theorem lows_of {n : Nat} : ∀ {ds : List D}, (∀ d ∈ ds, D.low n d = true) → D.lows n ds = true
  | [], _ => by simp only [D.lows]
  | d :: r, h => by simp only [D.lows, Bool.and_eq_true]; exact ⟨h d List.mem_cons_self, lows_of fun x hx => h x (List.mem_cons_of_mem _ hx)⟩
theorem lows_mem {n : Nat} : ∀ {ds : List D}, D.lows n ds = true → ∀ d ∈ ds, D.low n d = true
  | d :: r, h, x, hx => by
    simp only [D.lows, Bool.and_eq_true] at h
    rcases List.mem_cons.mp hx with rfl | hx
    · exact h.1
    · exact lows_mem h.2 x hx
theorem low0 {n : Nat} {d : D} (h : D.low 0 d = true) : D.low n d = true := D.low_mono (Nat.zero_le n) h
theorem lows0 {n : Nat} {ds : List D} (h : D.lows 0 ds = true) : D.lows n ds = true := D.lows_mono (Nat.zero_le n) h
theorem lows_ints {n : Nat} (is : List Int) : D.lows n (is.map D.int) = true := lows_of fun d hd => by obtain ⟨i, _, rfl⟩ := List.mem_map.mp hd; simp only [D.low]
theorem CutOk.app {st ext : Store} : CutOk st.length st (st ++ ext) := fun k hk c e => .inl (by rw [List.getElem?_append_left hk] at e; exact e)
theorem set_same {k : Nat} {st : Store} {c : Cell} (h : st[k]? = some c) : st.set k c = st := by
  apply List.ext_getElem?
  intro j
  rw [List.getElem?_set]
  split
  · rename_i e; subst e; rw [h]; rw [if_pos (List.getElem?_eq_some_iff.mp h).1]
  · rfl
/-- what m does without the store -/
def Pu {α : Type} (m : M α) (a : α) : Prop := ∀ st, m st = .ok a st
theorem take_len (st : Store) : st.take st.length = st := List.take_length
theorem Pu.bind {α β : Type} {m : M α} {f : α → M β} {a : α} {b : β} (h : Pu m a) (h2 : Pu (f a) b) : Pu (m.bind f) b := fun st => by
  show (match m st with | .ok a st' => f a st' | .exn e st' => .exn e st' | .stuck => .stuck) = _
  rw [h st]
  exact h2 st
theorem bind_ok {α β : Type} {m : M α} {f : α → M β} {a : α} {st st' : Store} (h : m st = .ok a st') : m.bind f st = f a st' := by
  show (match m st with | .ok a st' => f a st' | .exn e st' => .exn e st' | .stuck => .stuck) = _
  rw [h]
theorem bind_exn {α β : Type} {m : M α} {f : α → M β} {e : Exn} {st st' : Store} (h : m st = .exn e st') : m.bind f st = .exn e st' := by
  show (match m st with | .ok a st' => f a st' | .exn e st' => .exn e st' | .stuck => .stuck) = _
  rw [h]
/-- a comprehension over data that stays, element by element -/
theorem compN_pure {t : Tgt} {c : MT} {m : ME} {k : Nat} {ev : Ev} {v : D} {xs : List D} (hv : ∀ st, seqV st v = some xs) (p : D → Bool) (f : D → D) :
    ∀ (rest done : List D) (n : Nat) (acc : List D) (st : Store), xs = done ++ rest → rest.length < n → acc.length + rest.length ≤ 16777216 → st[k]? = some (.lst acc) →
      (∀ d ∈ rest, ∃ ev1, t.put d ev = some ev1 ∧ (∀ st, c ev1 st = .ok (p d) st) ∧ (p d = true → ∀ st, m ev1 st = .ok ((f d)) st)) →
      compN (.seq v) t c m k ev n done.length st = some (st.set k (.lst (acc ++ (rest.filter p).map f)))
  | [], done, n, acc, st, hx, hn, hz, hk, _ => by
    obtain ⟨n, rfl⟩ : ∃ j, n = j + 1 := ⟨n - 1, by simp at hn; omega⟩
    have e : xs[done.length]? = none := by rw [hx]; simp
    simp only [compN, Src.item, hv, Option.map_some, e, List.filter_nil, List.map_nil, List.append_nil, set_same hk]
  | d :: rest, done, n, acc, st, hx, hn, hz, hk, h => by
    obtain ⟨n, rfl⟩ : ∃ j, n = j + 1 := ⟨n - 1, by simp at hn; omega⟩
    have e : xs[done.length]? = some d := by rw [hx]; simp
    obtain ⟨ev1, h1, h2, h3⟩ := h d List.mem_cons_self
    have hlt : k < st.length := (List.getElem?_eq_some_iff.mp hk).1
    have hl : (done ++ [d]).length = done.length + 1 := by simp
    cases hp : p d with
    | false =>
      have ih := compN_pure (t := t) (c := c) (m := m) (ev := ev) hv p f rest (done ++ [d]) n acc st (by rw [hx]; simp) (by simp at hn; omega) (by simp at hz; omega) hk fun x hx => h x (List.mem_cons_of_mem _ hx)
      rw [hl] at ih
      simp only [compN, Src.item, hv, Option.map_some, e, h1, h2, hp, List.filter_cons, ih, Bool.false_eq_true, if_false]
    | true =>
      have hpush : pushC k ((f d)) st = some ((), st.set k (.lst (acc ++ [f d]))) := by
        simp only [pushC, hk]
        rw [if_pos (by simp at hz; omega)]
      have ih := compN_pure (t := t) (c := c) (m := m) (ev := ev) hv p f rest (done ++ [d]) n (acc ++ [f d]) (st.set k (.lst (acc ++ [f d]))) (by rw [hx]; simp) (by simp at hn; omega) (by simp at hz ⊢; omega) (by rw [List.getElem?_set_self hlt]) fun x hx => h x (List.mem_cons_of_mem _ hx)
      rw [hl] at ih
      simp only [compN, Src.item, hv, Option.map_some, e, h1, h2, hp, List.filter_cons, h3 hp, hpush, ih, if_true, List.map_cons, List.set_set, List.append_assoc, List.singleton_append]
theorem FU_gt {n : Nat} (h : n ≤ 16777216) : n < FU := Nat.lt_of_le_of_lt h (Nat.lt_of_lt_of_le (by decide) FU_big)
/-- .. the whole of it -/
theorem comp_pure {mi : MI} {t : Tgt} {c : MT} {m : ME} {vs : List Nat} {ev : Ev} {v : D} {xs : List D} (hi : ∀ st, mi ev st = .ok (.seq v) st) (hv : ∀ st, seqV st v = some xs) (p : D → Bool) (f : D → D) (hz : xs.length ≤ 16777216)
    (h : ∀ d ∈ xs, ∃ ev1, t.put d (wipeE ev vs) = some ev1 ∧ (∀ st, c ev1 st = .ok (p d) st) ∧ (p d = true → (∀ st, m ev1 st = .ok (f d) st) ∧ D.low 0 (f d) = true)) :
    ∀ st, eComp mi t c m vs ev st = .ok ((.lst ((xs.filter p).map f))) st := fun st => by
  have hk : (st ++ [Cell.lst []])[st.length]? = some (.lst []) := by simp
  have q := compN_pure (t := t) (c := c) (m := m) (k := st.length) (ev := wipeE ev vs) hv p f xs [] FU [] (st ++ [.lst []]) (by simp) (FU_gt hz) (by simpa using hz) hk (fun d hd => by obtain ⟨ev1, h1, h2, h3⟩ := h d hd; exact ⟨ev1, h1, h2, fun e => (h3 e).1⟩)
  have hlow : D.lows st.length ((xs.filter p).map f) = true := lows_of fun x hx => by
    obtain ⟨d, hd, rfl⟩ := List.mem_map.mp hx
    obtain ⟨hd1, hd2⟩ := List.mem_filter.mp hd
    obtain ⟨_, _, _, h3⟩ := h d hd1
    exact low0 (h3 hd2).2
  show (mi ev).bind _ st = _
  rw [bind_ok (hi st)]
  have q : compN (.seq v) t c m st.length (wipeE ev vs) FU 0 (st ++ [.lst []]) = some ((st ++ [Cell.lst []]).set st.length (.lst ((xs.filter p).map f))) := by simpa using q
  have e2 : ((st ++ [Cell.lst []]).set st.length (.lst ((xs.filter p).map f))) = st ++ [.lst ((xs.filter p).map f)] := by
    rw [List.set_append_right _ _ (Nat.le_refl _)]; simp
  rw [e2] at q
  simp only [q]
  rw [exitV_new (Nat.le_refl _) (by simp) hlow CutOk.app]
  simp
theorem comp_all {mi : MI} {t : Tgt} {m : ME} {vs : List Nat} {ev : Ev} {v : D} {xs : List D} (hi : ∀ st, mi ev st = .ok (.seq v) st) (hv : ∀ st, seqV st v = some xs) (f : D → D) (hz : xs.length ≤ 16777216)
    (h : ∀ d ∈ xs, ∃ ev1, t.put d (wipeE ev vs) = some ev1 ∧ (∀ st, m ev1 st = .ok (f d) st) ∧ D.low 0 (f d) = true) : ∀ st, eComp mi t tYesM m vs ev st = .ok (.lst (xs.map f)) st := fun st => by
  have q := comp_pure (c := tYesM) hi hv (fun _ => true) f hz (fun d hd => by obtain ⟨ev1, h1, h2, h3⟩ := h d hd; exact ⟨ev1, h1, fun _ => rfl, fun _ => ⟨h2, h3⟩⟩) st
  have e : xs.filter (fun _ => true) = xs := List.filter_eq_self.mpr fun _ _ => rfl
  rw [e] at q
  exact q

/-! ### runs over a vessel: the cell k holds [cells, turn, rest] -/
def ves (cells : List Int) (t r : Int) : Cell := .lst [.lst (cells.map D.int), .int t, .int r]
theorem ves_low {cells : List Int} {t r : Int} {n : Nat} : (ves cells t r).low n = true := by
  show D.lows n [.lst (cells.map D.int), .int t, .int r] = true
  simp only [D.lows, D.low, lows_ints, Bool.and_self]
theorem CutOk.vs {cells : List Int} {t r : Int} {k : Nat} {st : Store} {n : Nat} : CutOk n st (st.set k (ves cells t r)) := fun j hj c e => by
  rw [List.getElem?_set] at e
  split at e
  · split at e
    · cases e; exact .inr ves_low
    · cases e
  · exact .inl e
theorem CutOk.vsApp {cells : List Int} {t r : Int} {k : Nat} {st ext : Store} : CutOk st.length st (st.set k (ves cells t r) ++ ext) := fun j hj c e => by
  have hl : (st.set k (ves cells t r)).length = st.length := List.length_set
  rw [List.getElem?_append_left (by rw [hl]; exact hj)] at e
  exact CutOk.vs j hj c e
/-- m runs, at most c turns more; its value is such -/
def Rn (cells : List Int) (k : Nat) {α : Type} (m : M α) (c : Nat) (P : α → Prop) : Prop := ∀ (st : Store) (t r : Int), st[k]? = some (ves cells t r) → 0 ≤ t → t + c ≤ 1000000 → 0 ≤ r →
  ∃ a t' r', m st = .ok a (st.set k (ves cells t' r')) ∧ 0 ≤ t' ∧ t' ≤ t + c ∧ 0 ≤ r' ∧ P a
section
variable {cells : List Int} {k : Nat} {α β : Type}
theorem Rn.pu {m : M α} {a : α} (h : Pu m a) {P : α → Prop} (p : P a) {c : Nat} : Rn cells k m c P := fun st t r hk h0 hc hr =>
  ⟨a, t, r, by rw [set_same hk]; exact h st, h0, by omega, hr, p⟩
theorem Rn.imp {m : M α} {c c' : Nat} {P P' : α → Prop} (h : Rn cells k m c P) (hc : c ≤ c') (hp : ∀ a, P a → P' a) : Rn cells k m c' P' := fun st t r hk h0 hb hr => by
  obtain ⟨a, t', r', e, h1, h2, h3, p⟩ := h st t r hk h0 (by omega) hr
  exact ⟨a, t', r', e, h1, by omega, h3, hp a p⟩
theorem Rn.bind {m : M α} {f : α → M β} {c c' : Nat} {P : α → Prop} {Q : β → Prop} (h : Rn cells k m c P) (h2 : ∀ a, P a → Rn cells k (f a) c' Q) : Rn cells k (m.bind f) (c + c') Q := fun st t r hk h0 hb hr => by
  obtain ⟨a, t1, r1, e, a1, a2, a3, p⟩ := h st t r hk h0 (by omega) hr
  have hlt : k < st.length := (List.getElem?_eq_some_iff.mp hk).1
  obtain ⟨b, t2, r2, e2, b1, b2, b3, q⟩ := h2 a p (st.set k (ves cells t1 r1)) t1 r1 (by rw [List.getElem?_set_self hlt]) a1 (by omega) a3
  refine ⟨b, t2, r2, ?_, b1, by omega, b3, q⟩
  rw [bind_ok e, e2, List.set_set]
/-- the vessel's part of the store -/
theorem Rn.at {m : M α} {c : Nat} {P : α → Prop} (h : Rn cells k m c P) {st : Store} {t r : Int} (hk : st[k]? = some (ves cells t r)) (h0 : 0 ≤ t) (hb : t + c ≤ 1000000) (hr : 0 ≤ r) :
    ∃ a t' r', m st = .ok a (st.set k (ves cells t' r')) ∧ 0 ≤ t' ∧ t' ≤ t + c ∧ 0 ≤ r' ∧ P a := h st t r hk h0 hb hr

/-! ### statements as one chain -/
/-- a statement: on with names, or handed back -/
def sM (s : MS) (ev : Ev) : M (Ev ⊕ D) := fun st => match s ev st with
  | .nx ev' st' => .ok (.inl ev') st'
  | .rt v st' => .ok (.inr v) st'
  | .ex e _ st' => .exn e st'
  | _ => .stuck
def M.ret (a : α) : M α := fun st => .ok a st
theorem ret_bind (a : α) (f : α → M β) : (M.ret a).bind f = f a := rfl
theorem sM_pass (ev : Ev) : sM sPass ev = M.ret (.inl ev) := rfl
theorem sM_seq (a b : MS) (ev : Ev) : sM (sSeq a b) ev = (sM a ev).bind fun r => match r with | .inl ev' => sM b ev' | .inr v => M.ret (.inr v) := by
  funext st
  simp only [sM, sSeq, M.bind]
  generalize a ev st = q
  cases q <;> rfl
theorem sM_bind {γ : Type} (m : Ev → M γ) (f : γ → MS) (ev : Ev) : sM (sBind m f) ev = (m ev).bind fun a => sM (f a) ev := by
  funext st
  simp only [sM, sBind, M.bind]
  generalize m ev st = q
  cases q <;> rfl
theorem sM_asg (i : Nat) (m : ME) (ev : Ev) : sM (sAsg i m) ev = (m ev).bind fun v => M.ret (.inl (ev.set i (some v))) := by unfold sAsg; rw [sM_bind]; rfl
theorem sM_ret (m : ME) (ev : Ev) : sM (sRet m) ev = (m ev).bind fun v => M.ret (.inr v) := by unfold sRet; rw [sM_bind]; rfl
theorem sM_expr (m : ME) (ev : Ev) : sM (sExpr m) ev = (m ev).bind fun _ => M.ret (.inl ev) := by unfold sExpr; rw [sM_bind]; rfl
theorem sM_if (t : MT) (a b : MS) (ev : Ev) : sM (Sim.sIf t a b) ev = (t ev).bind fun k => if k = true then sM a ev else sM b ev := by
  unfold Sim.sIf
  rw [sM_bind]
  congr 1
  funext k
  cases k <;> rfl
theorem sM_par (i j : Nat) (m : MA) (ev : Ev) : sM (sPar i j m) ev = (m ev).bind fun vs => match vs with | [v, u] => M.ret (.inl ((ev.set i (some v)).set j (some u))) | _ => fun _ => .stuck := by
  unfold sPar
  rw [sM_bind]
  congr 1
  funext vs
  match vs with
  | [] => rfl
  | [_] => rfl
  | [_, _] => rfl
  | _ :: _ :: _ :: _ => rfl
theorem sM_par3 (i j l : Nat) (m : MA) (ev : Ev) : sM (sPar3 i j l m) ev = (m ev).bind fun vs => match vs with | [v, u, w] => M.ret (.inl (((ev.set i (some v)).set j (some u)).set l (some w))) | _ => fun _ => .stuck := by
  unfold sPar3
  rw [sM_bind]
  congr 1
  funext vs
  match vs with
  | [] => rfl
  | [_] => rfl
  | [_, _] => rfl
  | [_, _, _] => rfl
  | _ :: _ :: _ :: _ :: _ => rfl
theorem sM_asgT (t : Tgt) (m : ME) (ev : Ev) : sM (sAsgT t m) ev = (m ev).bind fun v => match t.put v ev with | some ev' => M.ret (.inl ev') | none => fun _ => .stuck := by
  unfold sAsgT
  rw [sM_bind]
  congr 1
  funext v
  funext st
  show sM (fun ev st => match t.put v ev with | some ev' => .nx ev' st | none => .stuck) ev st = _
  cases h : t.put v ev <;> simp only [sM, h, M.ret]
theorem sM_set (mo mi mv : ME) (ev : Ev) : sM (sSet mo mi mv) ev = (mv ev).bind fun v => (mo ev).bind fun o => (mi ev).bind fun i => (M.of (gSet o i v)).bind fun _ => M.ret (.inl ev) := by
  unfold sSet
  rw [sM_bind]
  congr 1; funext v
  rw [sM_bind]
  congr 1; funext o
  rw [sM_bind]
  congr 1; funext i
  rw [sM_bind]
  rfl
/-- what is handed back -/
def outV : Ev ⊕ D → D
  | .inl _ => .non
  | .inr v => v
/-- a def from its chain -/
theorem fun_okW {ex : Store → D → Store → Res D} {n N : Nat} {body : MS} {as : List D} {st st' : Store} {r : Ev ⊕ D} (h : sM body (as.map some ++ List.replicate (N - n) none) st = .ok r st') : mFunWith ex n N body as st = ex st (outV r) st' := by
  show exitR ex st (body (as.map some ++ List.replicate (N - n) none) st) = _
  unfold sM at h
  cases q : body (as.map some ++ List.replicate (N - n) none) st with
  | stuck => rw [q] at h; cases h
  | bk _ _ => rw [q] at h; cases h
  | ct _ _ => rw [q] at h; cases h
  | ex _ _ _ => rw [q] at h; cases h
  | nx ev' st' => rw [q] at h; cases h; rfl
  | rt v st' => rw [q] at h; cases h; rfl
theorem fun_ok {n N : Nat} {body : MS} {as : List D} {st st' : Store} {r : Ev ⊕ D} (h : sM body (as.map some ++ List.replicate (N - n) none) st = .ok r st') : mFun n N body as st = exitV st (outV r) st' := fun_okW h
theorem Rn.fn {n N : Nat} {body : MS} {as : List D} {c : Nat} {P : D → Prop} (h : Rn cells k (sM body (as.map some ++ List.replicate (N - n) none)) c fun r => match r with | .inl _ => P .non | .inr v => D.low 0 v = true ∧ P v) :
    Rn cells k (mFun n N body as) c P := fun st t r hk h0 hb hr => by
  obtain ⟨a, t', r', e, h1, h2, h3, p⟩ := h st t r hk h0 hb hr
  have hl : (st.set k (ves cells t' r')).length = st.length := List.length_set
  have ht : (st.set k (ves cells t' r')).take st.length = st.set k (ves cells t' r') := by rw [← hl]; exact take_len _
  refine ⟨outV a, t', r', ?_, h1, h2, h3, ?_⟩
  · rw [fun_ok e]
    have hlow : D.low st.length (outV a) = true := by
      cases a with
      | inl _ => simp only [outV, D.low]
      | inr v => exact low0 p.1
    rw [exitV_low hlow CutOk.vs, ht]
  · cases a with
    | inl _ => exact p
    | inr v => exact p.2
/-- pure defs -/
theorem Pu.fn {n N : Nat} {body : MS} {as : List D} {d : D} (h : Pu (sM body (as.map some ++ List.replicate (N - n) none)) (.inr d)) (hd : D.low 0 d = true) : Pu (mFun n N body as) d := fun st => by
  rw [fun_ok (h st)]
  show exitV st d st = _
  rw [exitV_low (low0 hd) CutOk.same, take_len]
/-- a comprehension whose elements draw -/
theorem compN_run {src : Src} {t : Tgt} {m : ME} {ev : Ev} {n : Nat} {item : Nat → D} {P : Nat → D → Prop} {c : Nat} (hs : ∀ i st, src.item i st = some (if i < n then some (item i) else none))
    (h : ∀ i, i < n → ∃ ev1, t.put (item i) ev = some ev1 ∧ Rn cells k (m ev1) c fun d => P i d) :
    ∀ (left i f : Nat) (acc : List D) (st : Store) (tt r : Int), i + left = n → left < f → acc.length = i → n ≤ 16777216 → (∀ j d, acc[j]? = some d → P j d) → k < st.length → st[k]? = some (ves cells tt r) → 0 ≤ tt → tt + (left * c : Nat) ≤ 1000000 → 0 ≤ r →
      ∃ ds t' r', compN src t tYesM m st.length ev f i (st ++ [.lst acc]) = some (st.set k (ves cells t' r') ++ [.lst ds]) ∧ 0 ≤ t' ∧ t' ≤ tt + (left * c : Nat) ∧ 0 ≤ r' ∧ ds.length = n ∧ ∀ j d, ds[j]? = some d → P j d
  | 0, i, f, acc, st, tt, r, hi, hf, ha, hz, hP, hk, hv, h0, hb, hr => by
    obtain ⟨f, rfl⟩ : ∃ j, f = j + 1 := ⟨f - 1, by omega⟩
    refine ⟨acc, tt, r, ?_, h0, by omega, hr, by omega, hP⟩
    have e : ¬ i < n := by omega
    simp only [compN, hs, if_neg e, set_same hv]
  | left + 1, i, f, acc, st, tt, r, hi, hf, ha, hz, hP, hk, hv, h0, hb, hr => by
    obtain ⟨f, rfl⟩ : ∃ j, f = j + 1 := ⟨f - 1, by omega⟩
    have hin : i < n := by omega
    obtain ⟨ev1, h1, h2⟩ := h i hin
    have hc : ((left + 1) * c : Nat) = left * c + c := Nat.succ_mul _ _
    obtain ⟨d, t1, r1, e1, a1, a2, a3, p⟩ := h2 (st ++ [.lst acc]) tt r (by rw [List.getElem?_append_left hk]; exact hv) h0 (by omega) hr
    have e2 : (st ++ [Cell.lst acc]).set k (ves cells t1 r1) = st.set k (ves cells t1 r1) ++ [.lst acc] := by rw [List.set_append_left _ _ hk]
    rw [e2] at e1
    have hpush : pushC st.length d (st.set k (ves cells t1 r1) ++ [.lst acc]) = some ((), st.set k (ves cells t1 r1) ++ [.lst (acc ++ [d])]) := by
      have hl : (st.set k (ves cells t1 r1)).length = st.length := List.length_set
      generalize st.set k (ves cells t1 r1) = S at hl ⊢
      rw [← hl]
      have g : (S ++ [Cell.lst acc])[S.length]? = some (.lst acc) := by rw [List.getElem?_append_right (Nat.le_refl _)]; simp
      simp only [pushC, g]
      rw [if_pos (by omega), List.set_append_right _ _ (Nat.le_refl _)]
      simp
    have hl : (st.set k (ves cells t1 r1)).length = st.length := List.length_set
    obtain ⟨ds, t2, r2, e3, b1, b2, b3, b4, b5⟩ := compN_run (src := src) (t := t) (m := m) (ev := ev) hs h left (i + 1) f (acc ++ [d]) (st.set k (ves cells t1 r1)) t1 r1 (by omega) (by omega) (by simp [ha]) hz (fun j x hx => by
      by_cases hj : j < acc.length
      · rw [List.getElem?_append_left hj] at hx; exact hP j x hx
      · have e4 : j = acc.length := by
          have := (List.getElem?_eq_some_iff.mp hx).1
          simp at this; omega
        subst e4
        rw [List.getElem?_append_right (Nat.le_refl _)] at hx
        simp at hx
        subst hx
        rw [ha]; exact p) (by rw [hl]; exact hk) (by rw [List.getElem?_set_self hk]) a1 (by omega) a3
    rw [hl, List.set_set] at e3
    refine ⟨ds, t2, r2, ?_, b1, by omega, b3, b4, b5⟩
    simp only [compN, hs, if_pos hin, h1, tYesM, e1, hpush, e3]
theorem Rn.comp {mi : MI} {src : Src} {t : Tgt} {m : ME} {vs : List Nat} {ev : Ev} {n : Nat} {item : Nat → D} {P : Nat → D → Prop} {c : Nat} (hi : Pu (mi ev) src) (hs : ∀ i st, src.item i st = some (if i < n then some (item i) else none)) (hz : n ≤ 16777216)
    (h : ∀ i, i < n → ∃ ev1, t.put (item i) (wipeE ev vs) = some ev1 ∧ Rn cells k (m ev1) c fun d => P i d) (hlow : ∀ i d, P i d → D.low 0 d = true) :
    Rn cells k (eComp mi t tYesM m vs ev) (n * c) fun v => ∃ ds, v = .lst ds ∧ ds.length = n ∧ ∀ j d, ds[j]? = some d → P j d := fun st tt r hk h0 hb hr => by
  have hlt : k < st.length := (List.getElem?_eq_some_iff.mp hk).1
  obtain ⟨ds, t', r', e, a1, a2, a3, a4, a5⟩ := compN_run hs h n 0 FU [] st tt r (by omega) (FU_gt hz) rfl hz (fun j d hd => by simp at hd) hlt hk h0 hb hr
  refine ⟨.lst ds, t', r', ?_, a1, a2, a3, ds, rfl, a4, a5⟩
  have hl : (st.set k (ves cells t' r')).length = st.length := List.length_set
  have hlows : D.lows st.length ds = true := lows_of fun d hd => by
    obtain ⟨j, hj⟩ := List.getElem?_of_mem hd
    exact low0 (hlow j d (a5 j d hj))
  have g : (st.set k (ves cells t' r') ++ [Cell.lst ds])[st.length]? = some (.lst ds) := by
    generalize st.set k (ves cells t' r') = S at hl ⊢
    rw [← hl, List.getElem?_append_right (Nat.le_refl _)]; simp
  show (mi ev).bind _ st = _
  rw [bind_ok (hi st)]
  simp only [e]
  rw [exitV_new (Nat.le_refl _) g hlows CutOk.vsApp]
  generalize st.set k (ves cells t' r') = S at hl ⊢
  simp only [← hl, List.take_left]
/-! a for over ints -/
theorem forN_run {t : Tgt} {body : MS} {lo : Int} {n : Nat} {c : Nat} {I : Nat → Ev → Prop} {R : D → Prop}
    (h : ∀ i ev, i < n → I i ev → ∃ ev1, t.put (.int (lo + (i : Nat))) ev = some ev1 ∧ Rn cells k (sM body ev1) c fun r => match r with | .inl ev' => I (i + 1) ev' | .inr v => R v) :
    ∀ (left i f : Nat) (ev : Ev) (st : Store) (tt r : Int), i + left = n → left < f → I i ev → st[k]? = some (ves cells tt r) → 0 ≤ tt → tt + (left * c : Nat) ≤ 1000000 → 0 ≤ r →
      ∃ t' r', 0 ≤ t' ∧ t' ≤ tt + (left * c : Nat) ∧ 0 ≤ r' ∧ ((∃ ev', forN (.ints lo n) t body f i ev st = .nx ev' (st.set k (ves cells t' r')) ∧ I n ev') ∨ ∃ v, forN (.ints lo n) t body f i ev st = .rt v (st.set k (ves cells t' r')) ∧ R v)
  | 0, i, f, ev, st, tt, r, hi, hf, hI, hk, h0, hb, hr => by
    obtain ⟨f, rfl⟩ : ∃ j, f = j + 1 := ⟨f - 1, by omega⟩
    refine ⟨tt, r, h0, by omega, hr, .inl ⟨ev, ?_, by have : i = n := by omega
                                                      subst this; exact hI⟩⟩
    have e : ¬ i < n := by omega
    simp only [forN, Src.item, if_neg e, set_same hk]
  | left + 1, i, f, ev, st, tt, r, hi, hf, hI, hk, h0, hb, hr => by
    obtain ⟨f, rfl⟩ : ∃ j, f = j + 1 := ⟨f - 1, by omega⟩
    have hin : i < n := by omega
    obtain ⟨ev1, h1, h2⟩ := h i ev hin hI
    have hc : ((left + 1) * c : Nat) = left * c + c := Nat.succ_mul _ _
    have hlt : k < st.length := (List.getElem?_eq_some_iff.mp hk).1
    obtain ⟨a, t1, r1, e1, a1, a2, a3, p⟩ := h2 st tt r hk h0 (by omega) hr
    unfold sM at e1
    cases q : body ev1 st with
    | stuck => rw [q] at e1; cases e1
    | bk _ _ => rw [q] at e1; cases e1
    | ct _ _ => rw [q] at e1; cases e1
    | ex _ _ _ => rw [q] at e1; cases e1
    | rt v st' =>
      rw [q] at e1
      cases e1
      refine ⟨t1, r1, a1, by omega, a3, .inr ⟨v, ?_, p⟩⟩
      simp only [forN, Src.item, if_pos hin, h1, q]
    | nx ev' st' =>
      rw [q] at e1
      cases e1
      obtain ⟨t2, r2, b1, b2, b3, b4⟩ := forN_run (t := t) (body := body) h left (i + 1) f ev' (st.set k (ves cells t1 r1)) t1 r1 (by omega) (by omega) p (by rw [List.getElem?_set_self hlt]) a1 (by omega) a3
      rw [List.set_set] at b4
      have e : forN (.ints lo n) t body (f + 1) i ev st = forN (.ints lo n) t body f (i + 1) ev' (st.set k (ves cells t1 r1)) := by simp only [forN, Src.item, if_pos hin, h1, q]
      rw [e]
      exact ⟨t2, r2, b1, by omega, b3, b4⟩
theorem Rn.for {mi : MI} {t : Tgt} {body : MS} {lo : Int} {n : Nat} {c : Nat} {I : Nat → Ev → Prop} {R : D → Prop} {ev : Ev} (hi : Pu (mi ev) (.ints lo n)) (hz : n ≤ 16777216) (h0 : I 0 ev)
    (h : ∀ i ev, i < n → I i ev → ∃ ev1, t.put (.int (lo + (i : Nat))) ev = some ev1 ∧ Rn cells k (sM body ev1) c fun r => match r with | .inl ev' => I (i + 1) ev' | .inr v => R v) :
    Rn cells k (sM (sFor mi t body) ev) (n * c) fun r => match r with | .inl ev' => I n ev' | .inr v => R v := fun st tt r hk h1 hb hr => by
  obtain ⟨t', r', a1, a2, a3, a4⟩ := forN_run h n 0 FU ev st tt r (by omega) (FU_gt hz) h0 hk h1 hb hr
  have e : sM (sFor mi t body) ev st = sM (fun ev st => forN (.ints lo n) t body FU 0 ev st) ev st := by
    unfold sFor
    rw [sM_bind, bind_ok (hi st)]
  rw [e]
  unfold sM
  rcases a4 with ⟨ev', q, p⟩ | ⟨v, q, p⟩
  · exact ⟨.inl ev', t', r', by simp only [q], a1, a2, a3, p⟩
  · exact ⟨.inr v, t', r', by simp only [q], a1, a2, a3, p⟩
theorem Rn.run {m : M α} {f : α → M β} {R : Res β → Prop} {c : Nat} {P : α → Prop} {st : Store} {t r : Int} (h : Rn cells k m c P) (hk : st[k]? = some (ves cells t r)) (h0 : 0 ≤ t) (hb : t + c ≤ 1000000) (hr : 0 ≤ r) (h2 : ∀ a t' r', 0 ≤ t' → P a → R (f a (st.set k (ves cells t' r')))) : R ((m.bind f) st) := by
  obtain ⟨a, t', r', e, a1, a2, a3, p⟩ := h st t r hk h0 hb hr
  rw [bind_ok e]
  exact h2 a t' r' a1 p
end
end Sim
end

section
/-! Sim P2: mirrors run by rewriting; the draught. -/
namespace Sim
open PySem PySem.Spec PyProof.Rows L2 RZ

section
variable {α β γ : Type}
theorem bind_assoc (m : M α) (f : α → M β) (g : β → M γ) : (m.bind f).bind g = m.bind fun a => (f a).bind g := by
  funext st
  simp only [M.bind]
  generalize m st = q
  cases q <;> rfl
theorem bind_ret (m : M α) : m.bind M.ret = m := by
  funext st
  simp only [M.bind]
  generalize m st = q
  cases q <;> rfl
theorem Pu.eq {m : M α} {a : α} (h : Pu m a) : m = M.ret a := funext h
theorem Pu.ret (a : α) : Pu (M.ret a) a := fun _ => rfl
end
section
variable {ev : Ev} {v x y : D} {m m1 m2 m3 : ME} {a : MA} {t u : MT} {d d1 d2 : D}
theorem x_var0 : eVar 0 (some v :: ev) = M.ret v := rfl
theorem x_varS {i : Nat} {o : Option D} : eVar (i + 1) (o :: ev) = eVar i ev := rfl
theorem x_C : eC d ev = M.ret (d) := rfl
theorem x_op {g : D → D → O D} : eOp g m1 m2 ev = (m1 ev).bind fun x => (m2 ev).bind fun y => M.of (g x y) := rfl
theorem x_un {g : D → O D} : eUn g m ev = (m ev).bind fun x => M.of (g x) := rfl
theorem x_A {g : List D → O D} : eA g a ev = (a ev).bind fun vs => M.of (g vs) := rfl
theorem x_nil : aNil ev = M.ret [] := rfl
theorem x_cons : aCons m a ev = (m ev).bind fun x => (a ev).bind fun xs => M.ret (x :: xs) := rfl
def callM (n k N : Nat) (dfl : List D) (perm : List Nat) (m : List D → M D) (vs zs : List D) : M D := if vs.length = n ∧ zs.length = k ∧ (arrOf perm vs dfl zs).length = N then m (arrOf perm vs dfl zs) else fun _ => .stuck
theorem x_call {n k N : Nat} {dfl : List D} {perm : List Nat} {f : List D → M D} {as ks : MA} : eCall n k N dfl perm f as ks ev = (as ev).bind fun vs => (ks ev).bind fun zs => callM n k N dfl perm f vs zs := rfl
theorem x_and : eAnd m1 m2 ev = (m1 ev).bind fun x => (M.of (truth x)).bind fun k => if k = true then m2 ev else M.ret x := rfl
theorem x_or : eOr m1 m2 ev = (m1 ev).bind fun x => (M.of (truth x)).bind fun k => if k = true then M.ret x else m2 ev := rfl
theorem x_not : eNot m ev = (m ev).bind fun x => (M.of (truth x)).bind fun k => M.ret ((.bl (!k))) := rfl
theorem x_if : eIf t m1 m2 ev = (t ev).bind fun k => if k = true then m1 ev else m2 ev := rfl
theorem x_tV : tV m ev = (m ev).bind asB := rfl
theorem x_tCmp {g : D → D → O D} : tCmp g m1 m2 ev = (m1 ev).bind fun x => (m2 ev).bind fun y => (M.of (g x y)).bind asB := by
  show tV (eOp g m1 m2) ev = _
  rw [x_tV, x_op, bind_assoc]
  congr 1; funext x
  rw [bind_assoc]
theorem x_tTru : tTru m ev = (m ev).bind fun v => M.of (truth v) := rfl
theorem x_tNot : tNot t ev = (t ev).bind fun k => M.ret (!k) := rfl
theorem x_tAnd : tAnd t u ev = (t ev).bind fun k => if k = true then u ev else M.ret false := rfl
theorem x_tOr : tOr t u ev = (t ev).bind fun k => if k = true then M.ret true else u ev := rfl
theorem x_asB {k : Bool} : asB ((.bl k)) = M.ret k := rfl
theorem x_sl {lo hi : MO} : eSl m lo hi ev = (m ev).bind fun x => (lo ev).bind fun l => (hi ev).bind fun u => M.of (gSl x l u) := rfl
theorem x_oNone : oNone ev = M.ret none := rfl
theorem x_oSome : oSome m ev = (m ev).bind asI := rfl
theorem x_asI {i : Int} : asI ((.int i)) = M.ret (some i) := rfl
/-! truth -/
theorem x_trN : M.of (truth (.non)) = M.ret false := rfl
theorem x_trB {k : Bool} : M.of (truth ((.bl k))) = M.ret k := rfl
theorem x_trI {i : Int} : M.of (truth ((.int i))) = M.ret (i != 0) := rfl
theorem x_trL {xs : List D} : M.of (truth ((.lst xs))) = M.ret (!xs.isEmpty) := rfl
theorem x_trR {xs : List D} : M.of (truth ((.rl xs))) = M.ret (!xs.isEmpty) := rfl
theorem x_trT {xs : List D} : M.of (truth ((.tup xs))) = M.ret (!xs.isEmpty) := rfl
/-! ints -/
variable {i j : Int}
theorem x_add : M.of (gAdd ((.int i)) ((.int j))) = M.ret ((.int (i + j))) := rfl
theorem x_sub : M.of (gSub ((.int i)) ((.int j))) = M.ret ((.int (i - j))) := rfl
theorem x_neg : M.of (gNeg ((.int i))) = M.ret ((.int (-i))) := rfl
theorem x_lt : M.of (gLt ((.int i)) ((.int j))) = M.ret ((.bl (decide (i < j)))) := rfl
theorem x_le : M.of (gLe ((.int i)) ((.int j))) = M.ret ((.bl (decide (i ≤ j)))) := rfl
theorem x_gt : M.of (gGt ((.int i)) ((.int j))) = M.ret ((.bl (decide (j < i)))) := rfl
theorem x_ge : M.of (gGe ((.int i)) ((.int j))) = M.ret ((.bl (decide (j ≤ i)))) := rfl
theorem x_abs : M.of (gAbs [(.int i)]) = M.ret ((.int (if i < 0 then -i else i))) := rfl
theorem x_max2 : M.of (gMax2 [(.int i), (.int j)]) = M.ret ((.int (if j > i then j else i))) := rfl
theorem x_min2 : M.of (gMin2 [(.int i), (.int j)]) = M.ret ((.int (if j < i then j else i))) := rfl
theorem x_intI : M.of (gInt [(.int i)]) = M.ret ((.int i)) := rfl
theorem x_intB {k : Bool} : M.of (gInt [(.bl k)]) = M.ret ((.int (if k then 1 else 0))) := rfl
theorem of_some {α : Type} {o : O α} {a : α} (h : ∀ st, o st = some (a, st)) : M.of o = M.ret a := funext fun st => by
  show (match o st with | some (a, st') => Res.ok a st' | none => .stuck) = _
  rw [h]; rfl
theorem x_mod (h : j ≠ 0) : M.of (gMod ((.int i)) ((.int j))) = M.ret ((.int (i.fmod j))) := of_some fun st => by
  simp only [gMod, gI, if_pos h, Option.map_some]
theorem x_fdiv (h : divOk j = true) : M.of (gFdiv ((.int i)) ((.int j))) = M.ret ((.int (i.fdiv j))) := of_some fun st => by
  simp only [gFdiv, gI, if_pos h, Option.map_some]
theorem x_mulI (h : mulOk i j = true) : M.of (gMulI ((.int i)) ((.int j))) = M.ret ((.int (i * j))) := of_some fun st => by
  simp only [gMulI, gI, if_pos h, Option.map_some]
theorem x_mulS (h : mulOk i j = true) : M.of (gMulS ((.int i)) ((.int j))) = M.ret ((.int (i * j))) := of_some fun st => by
  simp only [gMulS, gMul, eitherG, gMulI, gI, if_pos h, Option.map_some, Option.some_or]
theorem x_pow (h : 0 ≤ j ∧ j ≤ 1000000 ∧ i.natAbs < 2 ^ 64) : M.of (gPow ((.int i)) ((.int j))) = M.ret ((.int (i ^ j.toNat))) := of_some fun st => by
  simp only [gPow, gI, if_pos h, Option.map_some]
theorem divOk_small {j : Int} (h : 0 < j) (h2 : j < 1073741824) : divOk j = true := by
  unfold divOk
  rw [Bool.or_eq_true, decide_eq_true_eq, decide_eq_true_eq]
  exact .inr ⟨by omega, by omega⟩
theorem mulOk_small {i j : Int} (h : -(2 ^ 64) < i ∧ i < 2 ^ 64) : mulOk i j = true := by
  unfold mulOk
  rw [Bool.or_eq_true, Bool.or_eq_true, decide_eq_true_eq]
  exact .inl (.inl h)
/-! equality -/
theorem pys_ints : ∀ ns : List Int, D.pys (ns.map D.int) = some (ns.map PyData.int)
  | [] => rfl
  | n :: r => by
    show (match D.py (.int n), D.pys (r.map D.int) with | some a, some b => some (a :: b) | _, _ => none) = _
    rw [pys_ints r]; rfl
theorem lay_ints : ∀ ns : List Int, PyData.canLayAll0 (ns.map PyData.int) = true
  | [] => by simp [PyData.canLayAll0]
  | n :: r => by simp [PyData.canLayAll0, PyData.canLay0, lay_ints r]
theorem dep_ints : ∀ ns : List Int, PyData.depthAll (ns.map PyData.int) ≤ 1
  | [] => by simp [PyData.depthAll]
  | n :: r => by have := dep_ints r; simp only [List.map_cons, PyData.depthAll, PyData.depth]; omega
theorem sh_int (i : Int) : SeqAt.shaped (.int i) = true := by simp [SeqAt.shaped, PyData.canLay0, PyData.depth]
theorem sh_ints (ns : List Int) : SeqAt.shaped (.list (ns.map .int)) = true := by
  have := dep_ints ns
  have e : (PyData.list (ns.map .int)).depth = PyData.depthAll (ns.map .int) + 1 := by simp only [PyData.depth]; try omega
  unfold SeqAt.shaped
  rw [e, Bool.and_eq_true, decide_eq_true_eq]
  exact ⟨by simp [PyData.canLay0, lay_ints], by omega⟩
theorem eqv_nil_ints : ∀ ns : List Int, PyData.eqv (.list (ns.map .int)) (.list []) = ns.isEmpty
  | [] => by simp [PyData.eqv, PyData.eqvAll]
  | n :: r => by simp [PyData.eqv, PyData.eqvAll]
theorem x_eqI : M.of (gEq ((.int i)) ((.int j))) = M.ret ((.bl (decide (i = j)))) := of_some fun st => by
  simp only [gEq, eitherG, gStr2, gPy2, pyV, D.py, Option.some_or, D.py, sh_int, and_self, if_true, PyData.eqv, id, Option.none_or]
  by_cases h : i = j <;> simp [h]
theorem x_neI : M.of (gNe ((.int i)) ((.int j))) = M.ret ((.bl (!decide (i = j)))) := of_some fun st => by
  simp only [gNe, eitherG, gStr2, gPy2, pyV, D.py, Option.some_or, D.py, sh_int, and_self, if_true, PyData.eqv, id, Option.none_or]
  by_cases h : i = j <;> simp [h]
variable {s z : Str}
theorem x_eqS : M.of (gEq ((.str s)) ((.str z))) = M.ret ((.bl (decide (s = z)))) := of_some fun st => by simp only [gEq, eitherG, gStr2, id, Option.some_or]
theorem x_neS : M.of (gNe ((.str s)) ((.str z))) = M.ret ((.bl (!decide (s = z)))) := of_some fun st => by simp only [gNe, eitherG, gStr2, id, Option.some_or]
theorem x_isN : M.of (gIs false (d) (.non)) = M.ret ((.bl (match d with | .non => true | _ => false))) := by cases d <;> rfl
theorem x_isnN : M.of (gIs true (d) (.non)) = M.ret ((.bl (match d with | .non => false | _ => true))) := by cases d <;> rfl
/-! displays -/
def sized (f : List D → D) (ds : List D) : M D := if ds.length ≤ 16777216 then M.ret (f ds) else fun _ => .stuck
theorem x_lst {vs : List D} : M.of (gLst vs) = sized .lst vs := by
  funext st
  simp only [M.of, gLst, sized]
  by_cases h : vs.length ≤ 16777216
  · simp only [if_pos h]; rfl
  · simp only [if_neg h]
theorem x_tup {vs : List D} : M.of (gTup vs) = sized .tup vs := by
  funext st
  simp only [M.of, gTup, sized]
  by_cases h : vs.length ≤ 16777216
  · simp only [if_pos h]; rfl
  · simp only [if_neg h]
theorem x_sized {f : List D → D} {ds : List D} (h : ds.length ≤ 16777216) : sized f ds = M.ret (f ds) := if_pos h
variable {xs ys : List D}
theorem x_addL (h : xs.length + ys.length ≤ 16777216) : M.of (gAdd ((.lst xs)) ((.lst ys))) = M.ret ((.lst (xs ++ ys))) := of_some fun st => by
  simp only [gAdd, ownV, if_pos h]
theorem x_addT (h : xs.length + ys.length ≤ 16777216) : M.of (gAdd ((.tup xs)) ((.tup ys))) = M.ret ((.tup (xs ++ ys))) := of_some fun st => by
  simp only [gAdd, if_pos h]
theorem x_lenL : M.of (gLen [(.lst xs)]) = M.ret ((.int xs.length)) := rfl
theorem x_lenT : M.of (gLen [(.tup xs)]) = M.ret ((.int xs.length)) := rfl
theorem x_lenR : M.of (gLen [(.rl xs)]) = M.ret ((.int xs.length)) := rfl
theorem x_tupleL : M.of (gTuple [(.lst xs)]) = M.ret ((.tup xs)) := rfl
theorem x_listL : M.of (gList [(.lst xs)]) = M.ret ((.lst xs)) := rfl
theorem x_listT : M.of (gList [(.tup xs)]) = M.ret ((.lst xs)) := rfl
theorem x_slL {lo hi : Option Int} : M.of (gSl ((.lst xs)) lo hi) = M.ret ((.lst (cutD xs lo hi))) := rfl
theorem x_slR {lo hi : Option Int} : M.of (gSl ((.rl xs)) lo hi) = M.ret ((.lst (cutD xs lo hi))) := rfl
theorem x_slT {lo hi : Option Int} : M.of (gSl ((.tup xs)) lo hi) = M.ret ((.tup (cutD xs lo hi))) := rfl
theorem x_ixL (h : atI xs i = some d) : M.of (gIx ((.lst xs)) ((.int i))) = M.ret (d) := of_some fun st => by
  simp only [gIx, seqV, listV, Option.some_or, h, Option.map_some]
theorem x_ixT (h : atI xs i = some d) : M.of (gIx ((.tup xs)) ((.int i))) = M.ret (d) := of_some fun st => by
  simp only [gIx, seqV, listV, tupV, Option.none_or, h, Option.map_some]
theorem x_all {bs : List Bool} : M.of (gAll [(.lst (bs.map D.bl))]) = M.ret ((.bl (bs.all id))) := of_some fun st => by
  simp only [gAll, listV, Option.bind_some, asBls_map, Option.map_some]
theorem x_any {bs : List Bool} : M.of (gAny [(.lst (bs.map D.bl))]) = M.ret ((.bl (bs.any id))) := of_some fun st => by
  simp only [gAny, listV, Option.bind_some, asBls_map, Option.map_some]
theorem x_sum {bs : List Int} : M.of (gSum [(.lst (bs.map D.int))]) = M.ret ((.int bs.sum)) := of_some fun st => by
  simp only [gSum, listV, Option.bind_some, asInts_map, Option.map_some]
theorem x_iSeq : iSeq m ev = (m ev).bind fun v st => match seqV st v with | some _ => .ok (.seq v) st | none => .stuck := rfl
end
/-! what isinstance says -/
def isIntD : D → Bool | .int _ => true | _ => false
def isListD : D → Bool | .lst _ => true | .rl _ => true | .tup _ => true | _ => false
def seqD : D → Option (List D) | .lst xs => some xs | .rl xs => some xs | .tup xs => some xs | _ => none
theorem isi_int {d : D} (h : tyN d ≠ none) : M.of (gIsi [d, (.ty "int")]) = M.ret ((.bl (match d with | .int _ => true | .bl _ => true | _ => false))) := by
  cases d <;> first | rfl | exact absurd rfl h
theorem isi_bool {d : D} (h : tyN d ≠ none) : M.of (gIsi [d, (.ty "bool")]) = M.ret ((.bl (match d with | .bl _ => true | _ => false))) := by
  cases d <;> first | rfl | exact absurd rfl h
theorem isi_list {d : D} (h : tyN d ≠ none) : M.of (gIsi [d, (.tup [.ty "list", .ty "tuple"])]) = M.ret ((.bl (isListD d))) := by
  cases d <;> first | rfl | exact absurd rfl h
theorem isi_str {d : D} (h : tyN d ≠ none) : M.of (gIsi [d, (.ty "str")]) = M.ret ((.bl (match d with | .str _ => true | _ => false))) := by
  cases d <;> first | rfl | exact absurd rfl h
theorem isi_dict {d : D} (h : tyN d ≠ none) : M.of (gIsi [d, (.ty "dict")]) = M.ret ((.bl (match d with | .dic _ => true | _ => false))) := by
  cases d <;> first | rfl | exact absurd rfl h
theorem atI_mem {α : Type} {xs : List α} {i : Int} (h0 : 0 ≤ i) (h1 : i < xs.length) : ∃ d, atI xs i = some d ∧ d ∈ xs ∧ xs[i.toNat]? = some d := by
  have h : i.toNat < xs.length := by omega
  refine ⟨xs[i.toNat], ?_, List.getElem_mem h, List.getElem?_eq_getElem h⟩
  unfold L2.atI L2.ixN
  rw [if_pos h0, if_pos h1]
  exact List.getElem?_eq_getElem h
theorem fn_eq {n N : Nat} {body : MS} {as : List D} {d : D} (h : sM body (as.map some ++ List.replicate (N - n) none) = M.ret (.inr d)) (hd : D.low 0 d = true := by first | rfl | simp only [D.low, D.lows, Bool.and_self]) : mFun n N body as = M.ret d :=
  Pu.eq (Pu.fn (fun st => by rw [h]; rfl) hd)
section
variable {cells : List Int} {k : Nat} {α β : Type}
theorem Rn.ret {a : α} {c : Nat} {P : α → Prop} (p : P a) : Rn cells k (M.ret a) c P := Rn.pu (Pu.ret a) p
theorem Rn.step {m : M α} {f : α → M β} {c N : Nat} {P : α → Prop} {Q : β → Prop} (h : Rn cells k m c P) (h2 : ∀ a, P a → Rn cells k (f a) (N - c) Q) (hc : c ≤ N := by decide) : Rn cells k (m.bind f) N Q :=
  (Rn.bind h h2).imp (by omega) fun _ q => q
theorem Rn.last {m : M α} {c N : Nat} {P Q : α → Prop} (h : Rn cells k m c P) (h2 : ∀ a, P a → Q a) (hc : c ≤ N := by decide) : Rn cells k m N Q := h.imp hc h2
end
end Sim
end

section
/-! Sim P3: the draught, the cupful. -/
namespace Sim
open PySem PySem.Spec PyProof.Rows L2 RZ
noncomputable def dDraught : MS := (sSeq (Sim.sIf (Sim.tCmp gEq (eOp gIx (eVar 0) (eC (.int 0))) (eA gLst aNil)) (sRet (eC (.int 0))) sPass)
 (sSeq (Sim.sIf (Sim.tCmp gGt (eOp gIx (eVar 0) (eC (.int 2))) (eC (.int 0))) (sSeq (sAsg 2 (eA gInt (aCons (eOp gIx (eVar 0) (eC (.int 2))) aNil)))
 (sSeq (sSet (eVar 0) (eC (.int 2)) (eOp gFdiv (eVar 2) (eVar 1)))
 (sRet (eOp gMod (eA gInt (aCons (eVar 2) aNil)) (eVar 1))))) sPass)
 (sSeq (sAsg 3 (eOp gIx (eVar 0) (eC (.int 1))))
 (sSeq (sSet (eVar 0) (eC (.int 1)) (eOp gAdd (eVar 3) (eC (.int 1))))
 (sSeq (sAsg 4 (eOp gIx (eOp gIx (eVar 0) (eC (.int 0))) (eOp gMod (eA gInt (aCons (eVar 3) aNil)) (eA gLen (aCons (eOp gIx (eVar 0) (eC (.int 0))) aNil)))))
 (sSeq (Sim.sIf (Sim.tAnd (Sim.tCmp gLt (eVar 3) (eA gLen (aCons (eOp gIx (eVar 0) (eC (.int 0))) aNil))) (Sim.tCmp gGe (eA gAbs (aCons (eVar 4) aNil)) (eOp gPow (eC (.int 10)) (eC (.int 18))))) (sSeq (sAsg 2 (eOp gAdd (eOp gMulS (eC (.int 2)) (eOp gSub (eA gAbs (aCons (eVar 4) aNil)) (eOp gPow (eC (.int 10)) (eC (.int 18))))) (eA gInt (aCons (eOp gLt (eVar 4) (eC (.int 0))) aNil))))
 (sSeq (sSet (eVar 0) (eC (.int 2)) (eOp gFdiv (eVar 2) (eVar 1)))
 (sRet (eOp gMod (eA gInt (aCons (eVar 2) aNil)) (eVar 1))))) sPass)
 (sSeq (sAsg 5 (eOp gMod (eA gInt (aCons (eOp gPow (eOp gAdd (eOp gAdd (eOp gMod (eA gInt (aCons (eVar 4) aNil)) (eC (.int 2147483563))) (eOp gMulS (eC (.int 41081)) (eVar 3))) (eC (.int 2633))) (eC (.int 5))) aNil)) (eC (.int 2147483549))))
 (sSeq (sAsg 5 (eOp gMod (eA gInt (aCons (eOp gPow (eOp gAdd (eOp gAdd (eOp gMulS (eVar 5) (eOp gAdd (eOp gMulS (eC (.int 2)) (eVar 3)) (eC (.int 6151)))) (eOp gMulS (eOp gMulS (eC (.int 90121)) (eVar 3)) (eVar 3))) (eC (.int 41081))) (eC (.int 3))) aNil)) (eC (.int 2147483587))))
 (sRet (eOp gMod (eA gInt (aCons (eOp gFdiv (eVar 5) (eC (.int 64))) aNil)) (eVar 1)))))))))))
section
variable {cells : List Int} {k : Nat} {α β : Type} {t r : Int}
/-- a run from one vessel -/
def Vs (cells : List Int) (k : Nat) (t r : Int) (m : M α) (Q : α → Int → Int → Prop) : Prop := ∀ st : Store, st[k]? = some (ves cells t r) → ∃ a t' r', m st = .ok a (st.set k (ves cells t' r')) ∧ Q a t' r'
theorem Vs.ret {a : α} {Q : α → Int → Int → Prop} (p : Q a t r) : Vs cells k t r (M.ret a) Q := fun st hk => ⟨a, t, r, by rw [set_same hk]; rfl, p⟩
theorem Vs.bind {m : M α} {f : α → M β} {P : α → Int → Int → Prop} {Q : β → Int → Int → Prop} (h : Vs cells k t r m P) (h2 : ∀ a t' r', P a t' r' → Vs cells k t' r' (f a) Q) : Vs cells k t r (m.bind f) Q := fun st hk => by
  obtain ⟨a, t1, r1, e, p⟩ := h st hk
  have hlt : k < st.length := (List.getElem?_eq_some_iff.mp hk).1
  obtain ⟨b, t2, r2, e2, q⟩ := h2 a t1 r1 p (st.set k (ves cells t1 r1)) (by rw [List.getElem?_set_self hlt])
  exact ⟨b, t2, r2, by rw [bind_ok e, e2, List.set_set], q⟩
theorem Vs.one {m : M α} {f : α → M β} {a : α} {t1 r1 : Int} {Q : β → Int → Int → Prop} (h : ∀ st : Store, st[k]? = some (ves cells t r) → m st = .ok a (st.set k (ves cells t1 r1))) (h2 : Vs cells k t1 r1 (f a) Q) : Vs cells k t r (m.bind f) Q :=
  Vs.bind (P := fun b t' r' => b = a ∧ t' = t1 ∧ r' = r1) (fun st hk => ⟨a, t1, r1, h st hk, rfl, rfl, rfl⟩) fun b t' r' ⟨e1, e2, e3⟩ => by subst e1 e2 e3; exact h2
theorem of_at {o : O α} {a : α} {st st' : Store} (h : o st = some (a, st')) : M.of o st = .ok a st' := by
  simp only [M.of, h]
theorem Vs.ix0 {f : D → M β} {Q : β → Int → Int → Prop} (h : Vs cells k t r (f ((.lst (cells.map D.int)))) Q) : Vs cells k t r ((M.of (gIx (.cl k) ((.int 0)))).bind f) Q :=
  Vs.one (fun st hk => by
    rw [set_same hk]
    refine of_at ?_
    simp only [gIx, seqV, listV, hk, ves, Option.some_or]
    rfl) h
theorem Vs.ix1 {f : D → M β} {Q : β → Int → Int → Prop} (h : Vs cells k t r (f ((.int t))) Q) : Vs cells k t r ((M.of (gIx (.cl k) ((.int 1)))).bind f) Q :=
  Vs.one (fun st hk => by
    rw [set_same hk]
    refine of_at ?_
    simp only [gIx, seqV, listV, hk, ves, Option.some_or]
    rfl) h
theorem Vs.ix2 {f : D → M β} {Q : β → Int → Int → Prop} (h : Vs cells k t r (f ((.int r))) Q) : Vs cells k t r ((M.of (gIx (.cl k) ((.int 2)))).bind f) Q :=
  Vs.one (fun st hk => by
    rw [set_same hk]
    refine of_at ?_
    simp only [gIx, seqV, listV, hk, ves, Option.some_or]
    rfl) h
theorem Vs.set1 {f : Unit → M β} {v : Int} {Q : β → Int → Int → Prop} (h : Vs cells k v r (f ()) Q) : Vs cells k t r ((M.of (gSet (.cl k) ((.int 1)) ((.int v)))).bind f) Q :=
  Vs.one (fun st hk => by
    refine of_at ?_
    simp only [gSet, hk, ves]
    rfl) h
theorem Vs.set2 {f : Unit → M β} {v : Int} {Q : β → Int → Int → Prop} (h : Vs cells k t v (f ()) Q) : Vs cells k t r ((M.of (gSet (.cl k) ((.int 2)) ((.int v)))).bind f) Q :=
  Vs.one (fun st hk => by
    refine of_at ?_
    simp only [gSet, hk, ves]
    rfl) h
/-- [] is compared with the cells -/
theorem x_eqNil {ns : List Int} : M.of (gEq ((.lst (ns.map D.int))) ((.lst []))) = M.ret ((.bl ns.isEmpty)) := of_some fun st => by
  have e : D.py (.lst (ns.map D.int)) = some (.list (ns.map PyData.int)) := by
    show (D.pys (ns.map D.int)).map PyData.list = _
    rw [pys_ints]; rfl
  have e2 : D.py (.lst []) = some (.list []) := rfl
  have h2 : SeqAt.shaped (.list []) = true := sh_ints []
  have hp1 : pyV st (.lst (ns.map D.int)) = some (.list (ns.map PyData.int)) := by unfold pyV; rw [e]; rfl
  have hp2 : pyV st (.lst []) = some (.list []) := by unfold pyV; rw [e2]; rfl
  simp only [gEq, eitherG, gStr2, gPy2, hp1, hp2, sh_ints ns, h2, and_self, if_true, id, Option.none_or, eqv_nil_ints]
theorem fmod_lt {a b : Int} (h : 0 < b) : 0 ≤ a.fmod b ∧ a.fmod b < b := by
  rw [Int.fmod_eq_emod_of_nonneg _ (Int.le_of_lt h)]
  exact ⟨Int.emod_nonneg _ (by omega), Int.emod_lt_of_pos _ h⟩
theorem fdiv_nn {a b : Int} (ha : 0 ≤ a) (h : 0 < b) : 0 ≤ a.fdiv b := by
  rw [Int.fdiv_eq_ediv_of_nonneg _ (Int.le_of_lt h)]
  exact Int.ediv_nonneg ha (Int.le_of_lt h)
theorem atI_ints {ns : List Int} {i : Int} (h0 : 0 ≤ i) (h1 : i < ns.length) : ∃ n, atI (ns.map D.int) i = some (.int n) := by
  obtain ⟨d, e, m, _⟩ := atI_mem (xs := ns.map D.int) h0 (by simpa using h1)
  obtain ⟨n, _, rfl⟩ := List.mem_map.mp m
  exact ⟨n, e⟩
theorem draught_vs {many : Int} (h0 : 0 < many) (h1 : many < 1073741824) (ht : 0 ≤ t) (ht2 : t < 1000000) (hr : 0 ≤ r) :
    Vs cells k t r (sM dDraught [some (.cl k), some ((.int many)), none, none, none, none]) fun x t' r' => (∃ d, x = .inr ((.int d)) ∧ 0 ≤ d ∧ d < many) ∧ 0 ≤ t' ∧ t' ≤ t + 1 ∧ 0 ≤ r' := by
  have hm : many ≠ 0 := by omega
  have hd := divOk_small h0 h1
  have x_mod' : ∀ i : Int, M.of (gMod ((.int i)) ((.int many))) = M.ret ((.int (i.fmod many))) := fun i => x_mod hm
  have x_div' : ∀ i : Int, M.of (gFdiv ((.int i)) ((.int many))) = M.ret ((.int (i.fdiv many))) := fun i => x_fdiv hd
  unfold dDraught
  try simp -implicitDefEqProofs only [Sim.sM_pass, Sim.sM_seq, Sim.sM_asg, Sim.sM_ret, Sim.sM_expr, Sim.sM_if, Sim.sM_par, Sim.sM_asgT, Sim.sM_set, Sim.ret_bind, Sim.bind_assoc, Sim.x_var0, Sim.x_varS, Sim.x_C, Sim.x_op, Sim.x_un, Sim.x_A, Sim.x_nil, Sim.x_cons, Sim.x_call, Sim.x_and, Sim.x_or, Sim.x_not, Sim.x_if, Sim.x_tV, Sim.x_tCmp, Sim.x_tTru, Sim.x_tNot, Sim.x_tAnd, Sim.x_tOr, Sim.x_asB, Sim.x_sl, Sim.x_oNone, Sim.x_oSome, Sim.x_asI, Sim.x_trN, Sim.x_trB, Sim.x_trI, Sim.x_trL, Sim.x_trR, Sim.x_trT, Sim.x_add, Sim.x_sub, Sim.x_neg, Sim.x_lt, Sim.x_le, Sim.x_gt, Sim.x_ge, Sim.x_abs, Sim.x_max2, Sim.x_min2, Sim.x_intI, Sim.x_intB, Sim.x_eqI, Sim.x_neI, Sim.x_eqS, Sim.x_neS, Sim.x_lst, Sim.x_tup, Sim.x_lenL, Sim.x_lenT, Sim.x_lenR, Sim.x_tupleL, Sim.x_listL, Sim.x_listT, Sim.x_slL, Sim.x_slR, Sim.x_slT, Sim.callM, Sim.arrOf, List.filterMap_cons, List.filterMap_nil, List.getElem?_cons_zero, List.getElem?_cons_succ, List.cons_append, List.nil_append, List.append_nil, List.length_cons, List.length_nil, and_self, if_true, List.set_cons_zero, List.set_cons_succ, Bool.false_eq_true, if_false, Nat.reduceAdd, Nat.reduceSub, List.map_cons, List.map_nil, List.replicate_succ, List.replicate_zero, Bool.not_true, Bool.not_false, Sim.x_sized, Nat.reduceLeDiff, Nat.zero_add]
  refine Vs.ix0 ?_
  try simp -implicitDefEqProofs only [Sim.sM_pass, Sim.sM_seq, Sim.sM_asg, Sim.sM_ret, Sim.sM_expr, Sim.sM_if, Sim.sM_par, Sim.sM_asgT, Sim.sM_set, Sim.ret_bind, Sim.bind_assoc, Sim.x_var0, Sim.x_varS, Sim.x_C, Sim.x_op, Sim.x_un, Sim.x_A, Sim.x_nil, Sim.x_cons, Sim.x_call, Sim.x_and, Sim.x_or, Sim.x_not, Sim.x_if, Sim.x_tV, Sim.x_tCmp, Sim.x_tTru, Sim.x_tNot, Sim.x_tAnd, Sim.x_tOr, Sim.x_asB, Sim.x_sl, Sim.x_oNone, Sim.x_oSome, Sim.x_asI, Sim.x_trN, Sim.x_trB, Sim.x_trI, Sim.x_trL, Sim.x_trR, Sim.x_trT, Sim.x_add, Sim.x_sub, Sim.x_neg, Sim.x_lt, Sim.x_le, Sim.x_gt, Sim.x_ge, Sim.x_abs, Sim.x_max2, Sim.x_min2, Sim.x_intI, Sim.x_intB, Sim.x_eqI, Sim.x_neI, Sim.x_eqS, Sim.x_neS, Sim.x_lst, Sim.x_tup, Sim.x_lenL, Sim.x_lenT, Sim.x_lenR, Sim.x_tupleL, Sim.x_listL, Sim.x_listT, Sim.x_slL, Sim.x_slR, Sim.x_slT, Sim.callM, Sim.arrOf, List.filterMap_cons, List.filterMap_nil, List.getElem?_cons_zero, List.getElem?_cons_succ, List.cons_append, List.nil_append, List.append_nil, List.length_cons, List.length_nil, and_self, if_true, List.set_cons_zero, List.set_cons_succ, Bool.false_eq_true, if_false, Nat.reduceAdd, Nat.reduceSub, List.map_cons, List.map_nil, List.replicate_succ, List.replicate_zero, Bool.not_true, Bool.not_false, Sim.x_sized, Nat.reduceLeDiff, Nat.zero_add]
  try simp -implicitDefEqProofs only [Sim.sM_pass, Sim.sM_seq, Sim.sM_asg, Sim.sM_ret, Sim.sM_expr, Sim.sM_if, Sim.sM_par, Sim.sM_asgT, Sim.sM_set, Sim.ret_bind, Sim.bind_assoc, Sim.x_var0, Sim.x_varS, Sim.x_C, Sim.x_op, Sim.x_un, Sim.x_A, Sim.x_nil, Sim.x_cons, Sim.x_call, Sim.x_and, Sim.x_or, Sim.x_not, Sim.x_if, Sim.x_tV, Sim.x_tCmp, Sim.x_tTru, Sim.x_tNot, Sim.x_tAnd, Sim.x_tOr, Sim.x_asB, Sim.x_sl, Sim.x_oNone, Sim.x_oSome, Sim.x_asI, Sim.x_trN, Sim.x_trB, Sim.x_trI, Sim.x_trL, Sim.x_trR, Sim.x_trT, Sim.x_add, Sim.x_sub, Sim.x_neg, Sim.x_lt, Sim.x_le, Sim.x_gt, Sim.x_ge, Sim.x_abs, Sim.x_max2, Sim.x_min2, Sim.x_intI, Sim.x_intB, Sim.x_eqI, Sim.x_neI, Sim.x_eqS, Sim.x_neS, Sim.x_lst, Sim.x_tup, Sim.x_lenL, Sim.x_lenT, Sim.x_lenR, Sim.x_tupleL, Sim.x_listL, Sim.x_listT, Sim.x_slL, Sim.x_slR, Sim.x_slT, Sim.callM, Sim.arrOf, List.filterMap_cons, List.filterMap_nil, List.getElem?_cons_zero, List.getElem?_cons_succ, List.cons_append, List.nil_append, List.append_nil, List.length_cons, List.length_nil, and_self, if_true, List.set_cons_zero, List.set_cons_succ, Bool.false_eq_true, if_false, Nat.reduceAdd, Nat.reduceSub, List.map_cons, List.map_nil, List.replicate_succ, List.replicate_zero, Bool.not_true, Bool.not_false, Sim.x_sized, Nat.reduceLeDiff, Nat.zero_add, x_eqNil]
  cases hc : cells with
  | nil =>
    try simp -implicitDefEqProofs only [Sim.sM_pass, Sim.sM_seq, Sim.sM_asg, Sim.sM_ret, Sim.sM_expr, Sim.sM_if, Sim.sM_par, Sim.sM_asgT, Sim.sM_set, Sim.ret_bind, Sim.bind_assoc, Sim.x_var0, Sim.x_varS, Sim.x_C, Sim.x_op, Sim.x_un, Sim.x_A, Sim.x_nil, Sim.x_cons, Sim.x_call, Sim.x_and, Sim.x_or, Sim.x_not, Sim.x_if, Sim.x_tV, Sim.x_tCmp, Sim.x_tTru, Sim.x_tNot, Sim.x_tAnd, Sim.x_tOr, Sim.x_asB, Sim.x_sl, Sim.x_oNone, Sim.x_oSome, Sim.x_asI, Sim.x_trN, Sim.x_trB, Sim.x_trI, Sim.x_trL, Sim.x_trR, Sim.x_trT, Sim.x_add, Sim.x_sub, Sim.x_neg, Sim.x_lt, Sim.x_le, Sim.x_gt, Sim.x_ge, Sim.x_abs, Sim.x_max2, Sim.x_min2, Sim.x_intI, Sim.x_intB, Sim.x_eqI, Sim.x_neI, Sim.x_eqS, Sim.x_neS, Sim.x_lst, Sim.x_tup, Sim.x_lenL, Sim.x_lenT, Sim.x_lenR, Sim.x_tupleL, Sim.x_listL, Sim.x_listT, Sim.x_slL, Sim.x_slR, Sim.x_slT, Sim.callM, Sim.arrOf, List.filterMap_cons, List.filterMap_nil, List.getElem?_cons_zero, List.getElem?_cons_succ, List.cons_append, List.nil_append, List.append_nil, List.length_cons, List.length_nil, and_self, if_true, List.set_cons_zero, List.set_cons_succ, Bool.false_eq_true, if_false, Nat.reduceAdd, Nat.reduceSub, List.map_cons, List.map_nil, List.replicate_succ, List.replicate_zero, Bool.not_true, Bool.not_false, Sim.x_sized, Nat.reduceLeDiff, Nat.zero_add, List.isEmpty_nil]
    exact Vs.ret ⟨⟨0, rfl, by omega, h0⟩, ht, by omega, hr⟩
  | cons c0 rest =>
    rw [← hc]
    have he : cells.isEmpty = false := by rw [hc]; rfl
    have hl : 0 < (cells.length : Int) := by rw [hc, List.length_cons]; omega
    try simp -implicitDefEqProofs only [Sim.sM_pass, Sim.sM_seq, Sim.sM_asg, Sim.sM_ret, Sim.sM_expr, Sim.sM_if, Sim.sM_par, Sim.sM_asgT, Sim.sM_set, Sim.ret_bind, Sim.bind_assoc, Sim.x_var0, Sim.x_varS, Sim.x_C, Sim.x_op, Sim.x_un, Sim.x_A, Sim.x_nil, Sim.x_cons, Sim.x_call, Sim.x_and, Sim.x_or, Sim.x_not, Sim.x_if, Sim.x_tV, Sim.x_tCmp, Sim.x_tTru, Sim.x_tNot, Sim.x_tAnd, Sim.x_tOr, Sim.x_asB, Sim.x_sl, Sim.x_oNone, Sim.x_oSome, Sim.x_asI, Sim.x_trN, Sim.x_trB, Sim.x_trI, Sim.x_trL, Sim.x_trR, Sim.x_trT, Sim.x_add, Sim.x_sub, Sim.x_neg, Sim.x_lt, Sim.x_le, Sim.x_gt, Sim.x_ge, Sim.x_abs, Sim.x_max2, Sim.x_min2, Sim.x_intI, Sim.x_intB, Sim.x_eqI, Sim.x_neI, Sim.x_eqS, Sim.x_neS, Sim.x_lst, Sim.x_tup, Sim.x_lenL, Sim.x_lenT, Sim.x_lenR, Sim.x_tupleL, Sim.x_listL, Sim.x_listT, Sim.x_slL, Sim.x_slR, Sim.x_slT, Sim.callM, Sim.arrOf, List.filterMap_cons, List.filterMap_nil, List.getElem?_cons_zero, List.getElem?_cons_succ, List.cons_append, List.nil_append, List.append_nil, List.length_cons, List.length_nil, and_self, if_true, List.set_cons_zero, List.set_cons_succ, Bool.false_eq_true, if_false, Nat.reduceAdd, Nat.reduceSub, List.map_cons, List.map_nil, List.replicate_succ, List.replicate_zero, Bool.not_true, Bool.not_false, Sim.x_sized, Nat.reduceLeDiff, Nat.zero_add, he]
    refine Vs.ix2 ?_
    try simp -implicitDefEqProofs only [Sim.sM_pass, Sim.sM_seq, Sim.sM_asg, Sim.sM_ret, Sim.sM_expr, Sim.sM_if, Sim.sM_par, Sim.sM_asgT, Sim.sM_set, Sim.ret_bind, Sim.bind_assoc, Sim.x_var0, Sim.x_varS, Sim.x_C, Sim.x_op, Sim.x_un, Sim.x_A, Sim.x_nil, Sim.x_cons, Sim.x_call, Sim.x_and, Sim.x_or, Sim.x_not, Sim.x_if, Sim.x_tV, Sim.x_tCmp, Sim.x_tTru, Sim.x_tNot, Sim.x_tAnd, Sim.x_tOr, Sim.x_asB, Sim.x_sl, Sim.x_oNone, Sim.x_oSome, Sim.x_asI, Sim.x_trN, Sim.x_trB, Sim.x_trI, Sim.x_trL, Sim.x_trR, Sim.x_trT, Sim.x_add, Sim.x_sub, Sim.x_neg, Sim.x_lt, Sim.x_le, Sim.x_gt, Sim.x_ge, Sim.x_abs, Sim.x_max2, Sim.x_min2, Sim.x_intI, Sim.x_intB, Sim.x_eqI, Sim.x_neI, Sim.x_eqS, Sim.x_neS, Sim.x_lst, Sim.x_tup, Sim.x_lenL, Sim.x_lenT, Sim.x_lenR, Sim.x_tupleL, Sim.x_listL, Sim.x_listT, Sim.x_slL, Sim.x_slR, Sim.x_slT, Sim.callM, Sim.arrOf, List.filterMap_cons, List.filterMap_nil, List.getElem?_cons_zero, List.getElem?_cons_succ, List.cons_append, List.nil_append, List.append_nil, List.length_cons, List.length_nil, and_self, if_true, List.set_cons_zero, List.set_cons_succ, Bool.false_eq_true, if_false, Nat.reduceAdd, Nat.reduceSub, List.map_cons, List.map_nil, List.replicate_succ, List.replicate_zero, Bool.not_true, Bool.not_false, Sim.x_sized, Nat.reduceLeDiff, Nat.zero_add]
    by_cases hr0 : 0 < r
    · try simp -implicitDefEqProofs only [hr0, decide_true, Sim.sM_pass, Sim.sM_seq, Sim.sM_asg, Sim.sM_ret, Sim.sM_expr, Sim.sM_if, Sim.sM_par, Sim.sM_asgT, Sim.sM_set, Sim.ret_bind, Sim.bind_assoc, Sim.x_var0, Sim.x_varS, Sim.x_C, Sim.x_op, Sim.x_un, Sim.x_A, Sim.x_nil, Sim.x_cons, Sim.x_call, Sim.x_and, Sim.x_or, Sim.x_not, Sim.x_if, Sim.x_tV, Sim.x_tCmp, Sim.x_tTru, Sim.x_tNot, Sim.x_tAnd, Sim.x_tOr, Sim.x_asB, Sim.x_sl, Sim.x_oNone, Sim.x_oSome, Sim.x_asI, Sim.x_trN, Sim.x_trB, Sim.x_trI, Sim.x_trL, Sim.x_trR, Sim.x_trT, Sim.x_add, Sim.x_sub, Sim.x_neg, Sim.x_lt, Sim.x_le, Sim.x_gt, Sim.x_ge, Sim.x_abs, Sim.x_max2, Sim.x_min2, Sim.x_intI, Sim.x_intB, Sim.x_eqI, Sim.x_neI, Sim.x_eqS, Sim.x_neS, Sim.x_lst, Sim.x_tup, Sim.x_lenL, Sim.x_lenT, Sim.x_lenR, Sim.x_tupleL, Sim.x_listL, Sim.x_listT, Sim.x_slL, Sim.x_slR, Sim.x_slT, Sim.callM, Sim.arrOf, List.filterMap_cons, List.filterMap_nil, List.getElem?_cons_zero, List.getElem?_cons_succ, List.cons_append, List.nil_append, List.append_nil, List.length_cons, List.length_nil, and_self, if_true, List.set_cons_zero, List.set_cons_succ, Bool.false_eq_true, if_false, Nat.reduceAdd, Nat.reduceSub, List.map_cons, List.map_nil, List.replicate_succ, List.replicate_zero, Bool.not_true, Bool.not_false, Sim.x_sized, Nat.reduceLeDiff, Nat.zero_add]
      refine Vs.ix2 ?_
      try simp -implicitDefEqProofs only [Sim.sM_pass, Sim.sM_seq, Sim.sM_asg, Sim.sM_ret, Sim.sM_expr, Sim.sM_if, Sim.sM_par, Sim.sM_asgT, Sim.sM_set, Sim.ret_bind, Sim.bind_assoc, Sim.x_var0, Sim.x_varS, Sim.x_C, Sim.x_op, Sim.x_un, Sim.x_A, Sim.x_nil, Sim.x_cons, Sim.x_call, Sim.x_and, Sim.x_or, Sim.x_not, Sim.x_if, Sim.x_tV, Sim.x_tCmp, Sim.x_tTru, Sim.x_tNot, Sim.x_tAnd, Sim.x_tOr, Sim.x_asB, Sim.x_sl, Sim.x_oNone, Sim.x_oSome, Sim.x_asI, Sim.x_trN, Sim.x_trB, Sim.x_trI, Sim.x_trL, Sim.x_trR, Sim.x_trT, Sim.x_add, Sim.x_sub, Sim.x_neg, Sim.x_lt, Sim.x_le, Sim.x_gt, Sim.x_ge, Sim.x_abs, Sim.x_max2, Sim.x_min2, Sim.x_intI, Sim.x_intB, Sim.x_eqI, Sim.x_neI, Sim.x_eqS, Sim.x_neS, Sim.x_lst, Sim.x_tup, Sim.x_lenL, Sim.x_lenT, Sim.x_lenR, Sim.x_tupleL, Sim.x_listL, Sim.x_listT, Sim.x_slL, Sim.x_slR, Sim.x_slT, Sim.callM, Sim.arrOf, List.filterMap_cons, List.filterMap_nil, List.getElem?_cons_zero, List.getElem?_cons_succ, List.cons_append, List.nil_append, List.append_nil, List.length_cons, List.length_nil, and_self, if_true, List.set_cons_zero, List.set_cons_succ, Bool.false_eq_true, if_false, Nat.reduceAdd, Nat.reduceSub, List.map_cons, List.map_nil, List.replicate_succ, List.replicate_zero, Bool.not_true, Bool.not_false, Sim.x_sized, Nat.reduceLeDiff, Nat.zero_add, x_div']
      refine Vs.set2 ?_
      try simp -implicitDefEqProofs only [Sim.sM_pass, Sim.sM_seq, Sim.sM_asg, Sim.sM_ret, Sim.sM_expr, Sim.sM_if, Sim.sM_par, Sim.sM_asgT, Sim.sM_set, Sim.ret_bind, Sim.bind_assoc, Sim.x_var0, Sim.x_varS, Sim.x_C, Sim.x_op, Sim.x_un, Sim.x_A, Sim.x_nil, Sim.x_cons, Sim.x_call, Sim.x_and, Sim.x_or, Sim.x_not, Sim.x_if, Sim.x_tV, Sim.x_tCmp, Sim.x_tTru, Sim.x_tNot, Sim.x_tAnd, Sim.x_tOr, Sim.x_asB, Sim.x_sl, Sim.x_oNone, Sim.x_oSome, Sim.x_asI, Sim.x_trN, Sim.x_trB, Sim.x_trI, Sim.x_trL, Sim.x_trR, Sim.x_trT, Sim.x_add, Sim.x_sub, Sim.x_neg, Sim.x_lt, Sim.x_le, Sim.x_gt, Sim.x_ge, Sim.x_abs, Sim.x_max2, Sim.x_min2, Sim.x_intI, Sim.x_intB, Sim.x_eqI, Sim.x_neI, Sim.x_eqS, Sim.x_neS, Sim.x_lst, Sim.x_tup, Sim.x_lenL, Sim.x_lenT, Sim.x_lenR, Sim.x_tupleL, Sim.x_listL, Sim.x_listT, Sim.x_slL, Sim.x_slR, Sim.x_slT, Sim.callM, Sim.arrOf, List.filterMap_cons, List.filterMap_nil, List.getElem?_cons_zero, List.getElem?_cons_succ, List.cons_append, List.nil_append, List.append_nil, List.length_cons, List.length_nil, and_self, if_true, List.set_cons_zero, List.set_cons_succ, Bool.false_eq_true, if_false, Nat.reduceAdd, Nat.reduceSub, List.map_cons, List.map_nil, List.replicate_succ, List.replicate_zero, Bool.not_true, Bool.not_false, Sim.x_sized, Nat.reduceLeDiff, Nat.zero_add, x_mod']
      exact Vs.ret ⟨⟨_, rfl, (fmod_lt h0).1, (fmod_lt h0).2⟩, ht, by omega, fdiv_nn hr h0⟩
    · try simp -implicitDefEqProofs only [hr0, decide_false, Sim.sM_pass, Sim.sM_seq, Sim.sM_asg, Sim.sM_ret, Sim.sM_expr, Sim.sM_if, Sim.sM_par, Sim.sM_asgT, Sim.sM_set, Sim.ret_bind, Sim.bind_assoc, Sim.x_var0, Sim.x_varS, Sim.x_C, Sim.x_op, Sim.x_un, Sim.x_A, Sim.x_nil, Sim.x_cons, Sim.x_call, Sim.x_and, Sim.x_or, Sim.x_not, Sim.x_if, Sim.x_tV, Sim.x_tCmp, Sim.x_tTru, Sim.x_tNot, Sim.x_tAnd, Sim.x_tOr, Sim.x_asB, Sim.x_sl, Sim.x_oNone, Sim.x_oSome, Sim.x_asI, Sim.x_trN, Sim.x_trB, Sim.x_trI, Sim.x_trL, Sim.x_trR, Sim.x_trT, Sim.x_add, Sim.x_sub, Sim.x_neg, Sim.x_lt, Sim.x_le, Sim.x_gt, Sim.x_ge, Sim.x_abs, Sim.x_max2, Sim.x_min2, Sim.x_intI, Sim.x_intB, Sim.x_eqI, Sim.x_neI, Sim.x_eqS, Sim.x_neS, Sim.x_lst, Sim.x_tup, Sim.x_lenL, Sim.x_lenT, Sim.x_lenR, Sim.x_tupleL, Sim.x_listL, Sim.x_listT, Sim.x_slL, Sim.x_slR, Sim.x_slT, Sim.callM, Sim.arrOf, List.filterMap_cons, List.filterMap_nil, List.getElem?_cons_zero, List.getElem?_cons_succ, List.cons_append, List.nil_append, List.append_nil, List.length_cons, List.length_nil, and_self, if_true, List.set_cons_zero, List.set_cons_succ, Bool.false_eq_true, if_false, Nat.reduceAdd, Nat.reduceSub, List.map_cons, List.map_nil, List.replicate_succ, List.replicate_zero, Bool.not_true, Bool.not_false, Sim.x_sized, Nat.reduceLeDiff, Nat.zero_add]
      refine Vs.ix1 ?_
      try simp -implicitDefEqProofs only [Sim.sM_pass, Sim.sM_seq, Sim.sM_asg, Sim.sM_ret, Sim.sM_expr, Sim.sM_if, Sim.sM_par, Sim.sM_asgT, Sim.sM_set, Sim.ret_bind, Sim.bind_assoc, Sim.x_var0, Sim.x_varS, Sim.x_C, Sim.x_op, Sim.x_un, Sim.x_A, Sim.x_nil, Sim.x_cons, Sim.x_call, Sim.x_and, Sim.x_or, Sim.x_not, Sim.x_if, Sim.x_tV, Sim.x_tCmp, Sim.x_tTru, Sim.x_tNot, Sim.x_tAnd, Sim.x_tOr, Sim.x_asB, Sim.x_sl, Sim.x_oNone, Sim.x_oSome, Sim.x_asI, Sim.x_trN, Sim.x_trB, Sim.x_trI, Sim.x_trL, Sim.x_trR, Sim.x_trT, Sim.x_add, Sim.x_sub, Sim.x_neg, Sim.x_lt, Sim.x_le, Sim.x_gt, Sim.x_ge, Sim.x_abs, Sim.x_max2, Sim.x_min2, Sim.x_intI, Sim.x_intB, Sim.x_eqI, Sim.x_neI, Sim.x_eqS, Sim.x_neS, Sim.x_lst, Sim.x_tup, Sim.x_lenL, Sim.x_lenT, Sim.x_lenR, Sim.x_tupleL, Sim.x_listL, Sim.x_listT, Sim.x_slL, Sim.x_slR, Sim.x_slT, Sim.callM, Sim.arrOf, List.filterMap_cons, List.filterMap_nil, List.getElem?_cons_zero, List.getElem?_cons_succ, List.cons_append, List.nil_append, List.append_nil, List.length_cons, List.length_nil, and_self, if_true, List.set_cons_zero, List.set_cons_succ, Bool.false_eq_true, if_false, Nat.reduceAdd, Nat.reduceSub, List.map_cons, List.map_nil, List.replicate_succ, List.replicate_zero, Bool.not_true, Bool.not_false, Sim.x_sized, Nat.reduceLeDiff, Nat.zero_add]
      refine Vs.set1 ?_
      try simp -implicitDefEqProofs only [Sim.sM_pass, Sim.sM_seq, Sim.sM_asg, Sim.sM_ret, Sim.sM_expr, Sim.sM_if, Sim.sM_par, Sim.sM_asgT, Sim.sM_set, Sim.ret_bind, Sim.bind_assoc, Sim.x_var0, Sim.x_varS, Sim.x_C, Sim.x_op, Sim.x_un, Sim.x_A, Sim.x_nil, Sim.x_cons, Sim.x_call, Sim.x_and, Sim.x_or, Sim.x_not, Sim.x_if, Sim.x_tV, Sim.x_tCmp, Sim.x_tTru, Sim.x_tNot, Sim.x_tAnd, Sim.x_tOr, Sim.x_asB, Sim.x_sl, Sim.x_oNone, Sim.x_oSome, Sim.x_asI, Sim.x_trN, Sim.x_trB, Sim.x_trI, Sim.x_trL, Sim.x_trR, Sim.x_trT, Sim.x_add, Sim.x_sub, Sim.x_neg, Sim.x_lt, Sim.x_le, Sim.x_gt, Sim.x_ge, Sim.x_abs, Sim.x_max2, Sim.x_min2, Sim.x_intI, Sim.x_intB, Sim.x_eqI, Sim.x_neI, Sim.x_eqS, Sim.x_neS, Sim.x_lst, Sim.x_tup, Sim.x_lenL, Sim.x_lenT, Sim.x_lenR, Sim.x_tupleL, Sim.x_listL, Sim.x_listT, Sim.x_slL, Sim.x_slR, Sim.x_slT, Sim.callM, Sim.arrOf, List.filterMap_cons, List.filterMap_nil, List.getElem?_cons_zero, List.getElem?_cons_succ, List.cons_append, List.nil_append, List.append_nil, List.length_cons, List.length_nil, and_self, if_true, List.set_cons_zero, List.set_cons_succ, Bool.false_eq_true, if_false, Nat.reduceAdd, Nat.reduceSub, List.map_cons, List.map_nil, List.replicate_succ, List.replicate_zero, Bool.not_true, Bool.not_false, Sim.x_sized, Nat.reduceLeDiff, Nat.zero_add]
      refine Vs.ix0 ?_
      try simp -implicitDefEqProofs only [Sim.sM_pass, Sim.sM_seq, Sim.sM_asg, Sim.sM_ret, Sim.sM_expr, Sim.sM_if, Sim.sM_par, Sim.sM_asgT, Sim.sM_set, Sim.ret_bind, Sim.bind_assoc, Sim.x_var0, Sim.x_varS, Sim.x_C, Sim.x_op, Sim.x_un, Sim.x_A, Sim.x_nil, Sim.x_cons, Sim.x_call, Sim.x_and, Sim.x_or, Sim.x_not, Sim.x_if, Sim.x_tV, Sim.x_tCmp, Sim.x_tTru, Sim.x_tNot, Sim.x_tAnd, Sim.x_tOr, Sim.x_asB, Sim.x_sl, Sim.x_oNone, Sim.x_oSome, Sim.x_asI, Sim.x_trN, Sim.x_trB, Sim.x_trI, Sim.x_trL, Sim.x_trR, Sim.x_trT, Sim.x_add, Sim.x_sub, Sim.x_neg, Sim.x_lt, Sim.x_le, Sim.x_gt, Sim.x_ge, Sim.x_abs, Sim.x_max2, Sim.x_min2, Sim.x_intI, Sim.x_intB, Sim.x_eqI, Sim.x_neI, Sim.x_eqS, Sim.x_neS, Sim.x_lst, Sim.x_tup, Sim.x_lenL, Sim.x_lenT, Sim.x_lenR, Sim.x_tupleL, Sim.x_listL, Sim.x_listT, Sim.x_slL, Sim.x_slR, Sim.x_slT, Sim.callM, Sim.arrOf, List.filterMap_cons, List.filterMap_nil, List.getElem?_cons_zero, List.getElem?_cons_succ, List.cons_append, List.nil_append, List.append_nil, List.length_cons, List.length_nil, and_self, if_true, List.set_cons_zero, List.set_cons_succ, Bool.false_eq_true, if_false, Nat.reduceAdd, Nat.reduceSub, List.map_cons, List.map_nil, List.replicate_succ, List.replicate_zero, Bool.not_true, Bool.not_false, Sim.x_sized, Nat.reduceLeDiff, Nat.zero_add]
      refine Vs.ix0 ?_
      try simp -implicitDefEqProofs only [Sim.sM_pass, Sim.sM_seq, Sim.sM_asg, Sim.sM_ret, Sim.sM_expr, Sim.sM_if, Sim.sM_par, Sim.sM_asgT, Sim.sM_set, Sim.ret_bind, Sim.bind_assoc, Sim.x_var0, Sim.x_varS, Sim.x_C, Sim.x_op, Sim.x_un, Sim.x_A, Sim.x_nil, Sim.x_cons, Sim.x_call, Sim.x_and, Sim.x_or, Sim.x_not, Sim.x_if, Sim.x_tV, Sim.x_tCmp, Sim.x_tTru, Sim.x_tNot, Sim.x_tAnd, Sim.x_tOr, Sim.x_asB, Sim.x_sl, Sim.x_oNone, Sim.x_oSome, Sim.x_asI, Sim.x_trN, Sim.x_trB, Sim.x_trI, Sim.x_trL, Sim.x_trR, Sim.x_trT, Sim.x_add, Sim.x_sub, Sim.x_neg, Sim.x_lt, Sim.x_le, Sim.x_gt, Sim.x_ge, Sim.x_abs, Sim.x_max2, Sim.x_min2, Sim.x_intI, Sim.x_intB, Sim.x_eqI, Sim.x_neI, Sim.x_eqS, Sim.x_neS, Sim.x_lst, Sim.x_tup, Sim.x_lenL, Sim.x_lenT, Sim.x_lenR, Sim.x_tupleL, Sim.x_listL, Sim.x_listT, Sim.x_slL, Sim.x_slR, Sim.x_slT, Sim.callM, Sim.arrOf, List.filterMap_cons, List.filterMap_nil, List.getElem?_cons_zero, List.getElem?_cons_succ, List.cons_append, List.nil_append, List.append_nil, List.length_cons, List.length_nil, and_self, if_true, List.set_cons_zero, List.set_cons_succ, Bool.false_eq_true, if_false, Nat.reduceAdd, Nat.reduceSub, List.map_cons, List.map_nil, List.replicate_succ, List.replicate_zero, Bool.not_true, Bool.not_false, Sim.x_sized, Nat.reduceLeDiff, Nat.zero_add, List.length_map]
      rw [x_mod (by omega)]
      try simp -implicitDefEqProofs only [Sim.sM_pass, Sim.sM_seq, Sim.sM_asg, Sim.sM_ret, Sim.sM_expr, Sim.sM_if, Sim.sM_par, Sim.sM_asgT, Sim.sM_set, Sim.ret_bind, Sim.bind_assoc, Sim.x_var0, Sim.x_varS, Sim.x_C, Sim.x_op, Sim.x_un, Sim.x_A, Sim.x_nil, Sim.x_cons, Sim.x_call, Sim.x_and, Sim.x_or, Sim.x_not, Sim.x_if, Sim.x_tV, Sim.x_tCmp, Sim.x_tTru, Sim.x_tNot, Sim.x_tAnd, Sim.x_tOr, Sim.x_asB, Sim.x_sl, Sim.x_oNone, Sim.x_oSome, Sim.x_asI, Sim.x_trN, Sim.x_trB, Sim.x_trI, Sim.x_trL, Sim.x_trR, Sim.x_trT, Sim.x_add, Sim.x_sub, Sim.x_neg, Sim.x_lt, Sim.x_le, Sim.x_gt, Sim.x_ge, Sim.x_abs, Sim.x_max2, Sim.x_min2, Sim.x_intI, Sim.x_intB, Sim.x_eqI, Sim.x_neI, Sim.x_eqS, Sim.x_neS, Sim.x_lst, Sim.x_tup, Sim.x_lenL, Sim.x_lenT, Sim.x_lenR, Sim.x_tupleL, Sim.x_listL, Sim.x_listT, Sim.x_slL, Sim.x_slR, Sim.x_slT, Sim.callM, Sim.arrOf, List.filterMap_cons, List.filterMap_nil, List.getElem?_cons_zero, List.getElem?_cons_succ, List.cons_append, List.nil_append, List.append_nil, List.length_cons, List.length_nil, and_self, if_true, List.set_cons_zero, List.set_cons_succ, Bool.false_eq_true, if_false, Nat.reduceAdd, Nat.reduceSub, List.map_cons, List.map_nil, List.replicate_succ, List.replicate_zero, Bool.not_true, Bool.not_false, Sim.x_sized, Nat.reduceLeDiff, Nat.zero_add]
      obtain ⟨n, hn⟩ := atI_ints (ns := cells) (fmod_lt (a := t) hl).1 (fmod_lt hl).2
      rw [x_ixL hn]
      try simp -implicitDefEqProofs only [Sim.sM_pass, Sim.sM_seq, Sim.sM_asg, Sim.sM_ret, Sim.sM_expr, Sim.sM_if, Sim.sM_par, Sim.sM_asgT, Sim.sM_set, Sim.ret_bind, Sim.bind_assoc, Sim.x_var0, Sim.x_varS, Sim.x_C, Sim.x_op, Sim.x_un, Sim.x_A, Sim.x_nil, Sim.x_cons, Sim.x_call, Sim.x_and, Sim.x_or, Sim.x_not, Sim.x_if, Sim.x_tV, Sim.x_tCmp, Sim.x_tTru, Sim.x_tNot, Sim.x_tAnd, Sim.x_tOr, Sim.x_asB, Sim.x_sl, Sim.x_oNone, Sim.x_oSome, Sim.x_asI, Sim.x_trN, Sim.x_trB, Sim.x_trI, Sim.x_trL, Sim.x_trR, Sim.x_trT, Sim.x_add, Sim.x_sub, Sim.x_neg, Sim.x_lt, Sim.x_le, Sim.x_gt, Sim.x_ge, Sim.x_abs, Sim.x_max2, Sim.x_min2, Sim.x_intI, Sim.x_intB, Sim.x_eqI, Sim.x_neI, Sim.x_eqS, Sim.x_neS, Sim.x_lst, Sim.x_tup, Sim.x_lenL, Sim.x_lenT, Sim.x_lenR, Sim.x_tupleL, Sim.x_listL, Sim.x_listT, Sim.x_slL, Sim.x_slR, Sim.x_slT, Sim.callM, Sim.arrOf, List.filterMap_cons, List.filterMap_nil, List.getElem?_cons_zero, List.getElem?_cons_succ, List.cons_append, List.nil_append, List.append_nil, List.length_cons, List.length_nil, and_self, if_true, List.set_cons_zero, List.set_cons_succ, Bool.false_eq_true, if_false, Nat.reduceAdd, Nat.reduceSub, List.map_cons, List.map_nil, List.replicate_succ, List.replicate_zero, Bool.not_true, Bool.not_false, Sim.x_sized, Nat.reduceLeDiff, Nat.zero_add]
      refine Vs.ix0 ?_
      try simp -implicitDefEqProofs only [Sim.sM_pass, Sim.sM_seq, Sim.sM_asg, Sim.sM_ret, Sim.sM_expr, Sim.sM_if, Sim.sM_par, Sim.sM_asgT, Sim.sM_set, Sim.ret_bind, Sim.bind_assoc, Sim.x_var0, Sim.x_varS, Sim.x_C, Sim.x_op, Sim.x_un, Sim.x_A, Sim.x_nil, Sim.x_cons, Sim.x_call, Sim.x_and, Sim.x_or, Sim.x_not, Sim.x_if, Sim.x_tV, Sim.x_tCmp, Sim.x_tTru, Sim.x_tNot, Sim.x_tAnd, Sim.x_tOr, Sim.x_asB, Sim.x_sl, Sim.x_oNone, Sim.x_oSome, Sim.x_asI, Sim.x_trN, Sim.x_trB, Sim.x_trI, Sim.x_trL, Sim.x_trR, Sim.x_trT, Sim.x_add, Sim.x_sub, Sim.x_neg, Sim.x_lt, Sim.x_le, Sim.x_gt, Sim.x_ge, Sim.x_abs, Sim.x_max2, Sim.x_min2, Sim.x_intI, Sim.x_intB, Sim.x_eqI, Sim.x_neI, Sim.x_eqS, Sim.x_neS, Sim.x_lst, Sim.x_tup, Sim.x_lenL, Sim.x_lenT, Sim.x_lenR, Sim.x_tupleL, Sim.x_listL, Sim.x_listT, Sim.x_slL, Sim.x_slR, Sim.x_slT, Sim.callM, Sim.arrOf, List.filterMap_cons, List.filterMap_nil, List.getElem?_cons_zero, List.getElem?_cons_succ, List.cons_append, List.nil_append, List.append_nil, List.length_cons, List.length_nil, and_self, if_true, List.set_cons_zero, List.set_cons_succ, Bool.false_eq_true, if_false, Nat.reduceAdd, Nat.reduceSub, List.map_cons, List.map_nil, List.replicate_succ, List.replicate_zero, Bool.not_true, Bool.not_false, Sim.x_sized, Nat.reduceLeDiff, Nat.zero_add, List.length_map]
      have h18 : M.of (gPow ((.int 10)) ((.int 18))) = M.ret ((.int (10 ^ 18))) := x_pow (by decide)
      have hb : ∀ (n : Int), M.of (gPow ((.int 10)) ((.int 18))) = M.ret ((.int (10 ^ 18))) := fun _ => h18
      try simp -implicitDefEqProofs only [h18, Sim.sM_pass, Sim.sM_seq, Sim.sM_asg, Sim.sM_ret, Sim.sM_expr, Sim.sM_if, Sim.sM_par, Sim.sM_asgT, Sim.sM_set, Sim.ret_bind, Sim.bind_assoc, Sim.x_var0, Sim.x_varS, Sim.x_C, Sim.x_op, Sim.x_un, Sim.x_A, Sim.x_nil, Sim.x_cons, Sim.x_call, Sim.x_and, Sim.x_or, Sim.x_not, Sim.x_if, Sim.x_tV, Sim.x_tCmp, Sim.x_tTru, Sim.x_tNot, Sim.x_tAnd, Sim.x_tOr, Sim.x_asB, Sim.x_sl, Sim.x_oNone, Sim.x_oSome, Sim.x_asI, Sim.x_trN, Sim.x_trB, Sim.x_trI, Sim.x_trL, Sim.x_trR, Sim.x_trT, Sim.x_add, Sim.x_sub, Sim.x_neg, Sim.x_lt, Sim.x_le, Sim.x_gt, Sim.x_ge, Sim.x_abs, Sim.x_max2, Sim.x_min2, Sim.x_intI, Sim.x_intB, Sim.x_eqI, Sim.x_neI, Sim.x_eqS, Sim.x_neS, Sim.x_lst, Sim.x_tup, Sim.x_lenL, Sim.x_lenT, Sim.x_lenR, Sim.x_tupleL, Sim.x_listL, Sim.x_listT, Sim.x_slL, Sim.x_slR, Sim.x_slT, Sim.callM, Sim.arrOf, List.filterMap_cons, List.filterMap_nil, List.getElem?_cons_zero, List.getElem?_cons_succ, List.cons_append, List.nil_append, List.append_nil, List.length_cons, List.length_nil, and_self, if_true, List.set_cons_zero, List.set_cons_succ, Bool.false_eq_true, if_false, Nat.reduceAdd, Nat.reduceSub, List.map_cons, List.map_nil, List.replicate_succ, List.replicate_zero, Bool.not_true, Bool.not_false, Sim.x_sized, Nat.reduceLeDiff, Nat.zero_add]
      have hif : ∀ (p q : Bool), (if p = true then M.ret q else M.ret false) = M.ret (p && q) := fun p q => by cases p <;> rfl
      rw [hif, ret_bind]
      have hnn : 0 ≤ (if n < 0 then -n else n) := by split <;> omega
      generalize hab : (if n < 0 then -n else n) = ab at hnn ⊢
      cases hbig : (decide (t < (cells.length : Int)) && decide (10 ^ 18 ≤ ab)) with
      | true =>
        rw [Bool.and_eq_true, decide_eq_true_eq, decide_eq_true_eq] at hbig
        have hm2 : M.of (gMulS ((.int 2)) ((.int (ab - 10 ^ 18)))) = M.ret ((.int (2 * (ab - 10 ^ 18)))) := x_mulS (mulOk_small (by decide))
        try simp -implicitDefEqProofs only [hm2, x_div', Sim.sM_pass, Sim.sM_seq, Sim.sM_asg, Sim.sM_ret, Sim.sM_expr, Sim.sM_if, Sim.sM_par, Sim.sM_asgT, Sim.sM_set, Sim.ret_bind, Sim.bind_assoc, Sim.x_var0, Sim.x_varS, Sim.x_C, Sim.x_op, Sim.x_un, Sim.x_A, Sim.x_nil, Sim.x_cons, Sim.x_call, Sim.x_and, Sim.x_or, Sim.x_not, Sim.x_if, Sim.x_tV, Sim.x_tCmp, Sim.x_tTru, Sim.x_tNot, Sim.x_tAnd, Sim.x_tOr, Sim.x_asB, Sim.x_sl, Sim.x_oNone, Sim.x_oSome, Sim.x_asI, Sim.x_trN, Sim.x_trB, Sim.x_trI, Sim.x_trL, Sim.x_trR, Sim.x_trT, Sim.x_add, Sim.x_sub, Sim.x_neg, Sim.x_lt, Sim.x_le, Sim.x_gt, Sim.x_ge, Sim.x_abs, Sim.x_max2, Sim.x_min2, Sim.x_intI, Sim.x_intB, Sim.x_eqI, Sim.x_neI, Sim.x_eqS, Sim.x_neS, Sim.x_lst, Sim.x_tup, Sim.x_lenL, Sim.x_lenT, Sim.x_lenR, Sim.x_tupleL, Sim.x_listL, Sim.x_listT, Sim.x_slL, Sim.x_slR, Sim.x_slT, Sim.callM, Sim.arrOf, List.filterMap_cons, List.filterMap_nil, List.getElem?_cons_zero, List.getElem?_cons_succ, List.cons_append, List.nil_append, List.append_nil, List.length_cons, List.length_nil, and_self, if_true, List.set_cons_zero, List.set_cons_succ, Bool.false_eq_true, if_false, Nat.reduceAdd, Nat.reduceSub, List.map_cons, List.map_nil, List.replicate_succ, List.replicate_zero, Bool.not_true, Bool.not_false, Sim.x_sized, Nat.reduceLeDiff, Nat.zero_add]
        refine Vs.set2 ?_
        try simp -implicitDefEqProofs only [x_mod', Sim.sM_pass, Sim.sM_seq, Sim.sM_asg, Sim.sM_ret, Sim.sM_expr, Sim.sM_if, Sim.sM_par, Sim.sM_asgT, Sim.sM_set, Sim.ret_bind, Sim.bind_assoc, Sim.x_var0, Sim.x_varS, Sim.x_C, Sim.x_op, Sim.x_un, Sim.x_A, Sim.x_nil, Sim.x_cons, Sim.x_call, Sim.x_and, Sim.x_or, Sim.x_not, Sim.x_if, Sim.x_tV, Sim.x_tCmp, Sim.x_tTru, Sim.x_tNot, Sim.x_tAnd, Sim.x_tOr, Sim.x_asB, Sim.x_sl, Sim.x_oNone, Sim.x_oSome, Sim.x_asI, Sim.x_trN, Sim.x_trB, Sim.x_trI, Sim.x_trL, Sim.x_trR, Sim.x_trT, Sim.x_add, Sim.x_sub, Sim.x_neg, Sim.x_lt, Sim.x_le, Sim.x_gt, Sim.x_ge, Sim.x_abs, Sim.x_max2, Sim.x_min2, Sim.x_intI, Sim.x_intB, Sim.x_eqI, Sim.x_neI, Sim.x_eqS, Sim.x_neS, Sim.x_lst, Sim.x_tup, Sim.x_lenL, Sim.x_lenT, Sim.x_lenR, Sim.x_tupleL, Sim.x_listL, Sim.x_listT, Sim.x_slL, Sim.x_slR, Sim.x_slT, Sim.callM, Sim.arrOf, List.filterMap_cons, List.filterMap_nil, List.getElem?_cons_zero, List.getElem?_cons_succ, List.cons_append, List.nil_append, List.append_nil, List.length_cons, List.length_nil, and_self, if_true, List.set_cons_zero, List.set_cons_succ, Bool.false_eq_true, if_false, Nat.reduceAdd, Nat.reduceSub, List.map_cons, List.map_nil, List.replicate_succ, List.replicate_zero, Bool.not_true, Bool.not_false, Sim.x_sized, Nat.reduceLeDiff, Nat.zero_add]
        refine Vs.ret ⟨⟨_, rfl, (fmod_lt h0).1, (fmod_lt h0).2⟩, by omega, by omega, fdiv_nn ?_ h0⟩
        have : 0 ≤ (if decide (n < 0) = true then (1 : Int) else 0) := by split <;> omega
        omega
      | false =>
        try simp -implicitDefEqProofs only [Sim.sM_pass, Sim.sM_seq, Sim.sM_asg, Sim.sM_ret, Sim.sM_expr, Sim.sM_if, Sim.sM_par, Sim.sM_asgT, Sim.sM_set, Sim.ret_bind, Sim.bind_assoc, Sim.x_var0, Sim.x_varS, Sim.x_C, Sim.x_op, Sim.x_un, Sim.x_A, Sim.x_nil, Sim.x_cons, Sim.x_call, Sim.x_and, Sim.x_or, Sim.x_not, Sim.x_if, Sim.x_tV, Sim.x_tCmp, Sim.x_tTru, Sim.x_tNot, Sim.x_tAnd, Sim.x_tOr, Sim.x_asB, Sim.x_sl, Sim.x_oNone, Sim.x_oSome, Sim.x_asI, Sim.x_trN, Sim.x_trB, Sim.x_trI, Sim.x_trL, Sim.x_trR, Sim.x_trT, Sim.x_add, Sim.x_sub, Sim.x_neg, Sim.x_lt, Sim.x_le, Sim.x_gt, Sim.x_ge, Sim.x_abs, Sim.x_max2, Sim.x_min2, Sim.x_intI, Sim.x_intB, Sim.x_eqI, Sim.x_neI, Sim.x_eqS, Sim.x_neS, Sim.x_lst, Sim.x_tup, Sim.x_lenL, Sim.x_lenT, Sim.x_lenR, Sim.x_tupleL, Sim.x_listL, Sim.x_listT, Sim.x_slL, Sim.x_slR, Sim.x_slT, Sim.callM, Sim.arrOf, List.filterMap_cons, List.filterMap_nil, List.getElem?_cons_zero, List.getElem?_cons_succ, List.cons_append, List.nil_append, List.append_nil, List.length_cons, List.length_nil, and_self, if_true, List.set_cons_zero, List.set_cons_succ, Bool.false_eq_true, if_false, Nat.reduceAdd, Nat.reduceSub, List.map_cons, List.map_nil, List.replicate_succ, List.replicate_zero, Bool.not_true, Bool.not_false, Sim.x_sized, Nat.reduceLeDiff, Nat.zero_add]
        rw [x_mod (by decide)]
        have q1 : M.of (gMulS ((.int 41081)) ((.int t))) = M.ret ((.int (41081 * t))) := x_mulS (mulOk_small (by decide))
        have m1 := fmod_lt (a := n) (b := 2147483563) (by decide)
        generalize n.fmod 2147483563 = a1 at m1 ⊢
        try simp -implicitDefEqProofs only [q1, Sim.sM_pass, Sim.sM_seq, Sim.sM_asg, Sim.sM_ret, Sim.sM_expr, Sim.sM_if, Sim.sM_par, Sim.sM_asgT, Sim.sM_set, Sim.ret_bind, Sim.bind_assoc, Sim.x_var0, Sim.x_varS, Sim.x_C, Sim.x_op, Sim.x_un, Sim.x_A, Sim.x_nil, Sim.x_cons, Sim.x_call, Sim.x_and, Sim.x_or, Sim.x_not, Sim.x_if, Sim.x_tV, Sim.x_tCmp, Sim.x_tTru, Sim.x_tNot, Sim.x_tAnd, Sim.x_tOr, Sim.x_asB, Sim.x_sl, Sim.x_oNone, Sim.x_oSome, Sim.x_asI, Sim.x_trN, Sim.x_trB, Sim.x_trI, Sim.x_trL, Sim.x_trR, Sim.x_trT, Sim.x_add, Sim.x_sub, Sim.x_neg, Sim.x_lt, Sim.x_le, Sim.x_gt, Sim.x_ge, Sim.x_abs, Sim.x_max2, Sim.x_min2, Sim.x_intI, Sim.x_intB, Sim.x_eqI, Sim.x_neI, Sim.x_eqS, Sim.x_neS, Sim.x_lst, Sim.x_tup, Sim.x_lenL, Sim.x_lenT, Sim.x_lenR, Sim.x_tupleL, Sim.x_listL, Sim.x_listT, Sim.x_slL, Sim.x_slR, Sim.x_slT, Sim.callM, Sim.arrOf, List.filterMap_cons, List.filterMap_nil, List.getElem?_cons_zero, List.getElem?_cons_succ, List.cons_append, List.nil_append, List.append_nil, List.length_cons, List.length_nil, and_self, if_true, List.set_cons_zero, List.set_cons_succ, Bool.false_eq_true, if_false, Nat.reduceAdd, Nat.reduceSub, List.map_cons, List.map_nil, List.replicate_succ, List.replicate_zero, Bool.not_true, Bool.not_false, Sim.x_sized, Nat.reduceLeDiff, Nat.zero_add]
        rw [x_pow (by omega)]
        try simp -implicitDefEqProofs only [Sim.sM_pass, Sim.sM_seq, Sim.sM_asg, Sim.sM_ret, Sim.sM_expr, Sim.sM_if, Sim.sM_par, Sim.sM_asgT, Sim.sM_set, Sim.ret_bind, Sim.bind_assoc, Sim.x_var0, Sim.x_varS, Sim.x_C, Sim.x_op, Sim.x_un, Sim.x_A, Sim.x_nil, Sim.x_cons, Sim.x_call, Sim.x_and, Sim.x_or, Sim.x_not, Sim.x_if, Sim.x_tV, Sim.x_tCmp, Sim.x_tTru, Sim.x_tNot, Sim.x_tAnd, Sim.x_tOr, Sim.x_asB, Sim.x_sl, Sim.x_oNone, Sim.x_oSome, Sim.x_asI, Sim.x_trN, Sim.x_trB, Sim.x_trI, Sim.x_trL, Sim.x_trR, Sim.x_trT, Sim.x_add, Sim.x_sub, Sim.x_neg, Sim.x_lt, Sim.x_le, Sim.x_gt, Sim.x_ge, Sim.x_abs, Sim.x_max2, Sim.x_min2, Sim.x_intI, Sim.x_intB, Sim.x_eqI, Sim.x_neI, Sim.x_eqS, Sim.x_neS, Sim.x_lst, Sim.x_tup, Sim.x_lenL, Sim.x_lenT, Sim.x_lenR, Sim.x_tupleL, Sim.x_listL, Sim.x_listT, Sim.x_slL, Sim.x_slR, Sim.x_slT, Sim.callM, Sim.arrOf, List.filterMap_cons, List.filterMap_nil, List.getElem?_cons_zero, List.getElem?_cons_succ, List.cons_append, List.nil_append, List.append_nil, List.length_cons, List.length_nil, and_self, if_true, List.set_cons_zero, List.set_cons_succ, Bool.false_eq_true, if_false, Nat.reduceAdd, Nat.reduceSub, List.map_cons, List.map_nil, List.replicate_succ, List.replicate_zero, Bool.not_true, Bool.not_false, Sim.x_sized, Nat.reduceLeDiff, Nat.zero_add]
        rw [x_mod (by decide)]
        generalize (a1 + 41081 * t + 2633) ^ (5 : Int).toNat = a2
        have m2 := fmod_lt (a := a2) (b := 2147483549) (by decide)
        generalize a2.fmod 2147483549 = a3 at m2 ⊢
        have q2 : M.of (gMulS ((.int 2)) ((.int t))) = M.ret ((.int (2 * t))) := x_mulS (mulOk_small (by decide))
        have q3 : M.of (gMulS ((.int a3)) ((.int (2 * t + 6151)))) = M.ret ((.int (a3 * (2 * t + 6151)))) := x_mulS (mulOk_small (by omega))
        have q4 : M.of (gMulS ((.int 90121)) ((.int t))) = M.ret ((.int (90121 * t))) := x_mulS (mulOk_small (by decide))
        have q5 : M.of (gMulS ((.int (90121 * t))) ((.int t))) = M.ret ((.int (90121 * t * t))) := x_mulS (mulOk_small (by omega))
        try simp -implicitDefEqProofs only [q2, q3, q4, q5, Sim.sM_pass, Sim.sM_seq, Sim.sM_asg, Sim.sM_ret, Sim.sM_expr, Sim.sM_if, Sim.sM_par, Sim.sM_asgT, Sim.sM_set, Sim.ret_bind, Sim.bind_assoc, Sim.x_var0, Sim.x_varS, Sim.x_C, Sim.x_op, Sim.x_un, Sim.x_A, Sim.x_nil, Sim.x_cons, Sim.x_call, Sim.x_and, Sim.x_or, Sim.x_not, Sim.x_if, Sim.x_tV, Sim.x_tCmp, Sim.x_tTru, Sim.x_tNot, Sim.x_tAnd, Sim.x_tOr, Sim.x_asB, Sim.x_sl, Sim.x_oNone, Sim.x_oSome, Sim.x_asI, Sim.x_trN, Sim.x_trB, Sim.x_trI, Sim.x_trL, Sim.x_trR, Sim.x_trT, Sim.x_add, Sim.x_sub, Sim.x_neg, Sim.x_lt, Sim.x_le, Sim.x_gt, Sim.x_ge, Sim.x_abs, Sim.x_max2, Sim.x_min2, Sim.x_intI, Sim.x_intB, Sim.x_eqI, Sim.x_neI, Sim.x_eqS, Sim.x_neS, Sim.x_lst, Sim.x_tup, Sim.x_lenL, Sim.x_lenT, Sim.x_lenR, Sim.x_tupleL, Sim.x_listL, Sim.x_listT, Sim.x_slL, Sim.x_slR, Sim.x_slT, Sim.callM, Sim.arrOf, List.filterMap_cons, List.filterMap_nil, List.getElem?_cons_zero, List.getElem?_cons_succ, List.cons_append, List.nil_append, List.append_nil, List.length_cons, List.length_nil, and_self, if_true, List.set_cons_zero, List.set_cons_succ, Bool.false_eq_true, if_false, Nat.reduceAdd, Nat.reduceSub, List.map_cons, List.map_nil, List.replicate_succ, List.replicate_zero, Bool.not_true, Bool.not_false, Sim.x_sized, Nat.reduceLeDiff, Nat.zero_add]
        have b1 : 0 ≤ a3 * (2 * t + 6151) := Int.mul_nonneg m2.1 (by omega)
        have b2 : a3 * (2 * t + 6151) ≤ 2147483549 * 2006151 := Int.le_trans (Int.mul_le_mul_of_nonneg_right (Int.le_of_lt m2.2) (by omega)) (Int.mul_le_mul_of_nonneg_left (by omega) (by decide))
        have b3 : 0 ≤ 90121 * t * t := Int.mul_nonneg (by omega) ht
        have b4 : 90121 * t * t ≤ 90121000000 * 1000000 := Int.le_trans (Int.mul_le_mul_of_nonneg_right (by omega) ht) (Int.mul_le_mul_of_nonneg_left (by omega) (by decide))
        rw [x_pow (by omega)]
        try simp -implicitDefEqProofs only [Sim.sM_pass, Sim.sM_seq, Sim.sM_asg, Sim.sM_ret, Sim.sM_expr, Sim.sM_if, Sim.sM_par, Sim.sM_asgT, Sim.sM_set, Sim.ret_bind, Sim.bind_assoc, Sim.x_var0, Sim.x_varS, Sim.x_C, Sim.x_op, Sim.x_un, Sim.x_A, Sim.x_nil, Sim.x_cons, Sim.x_call, Sim.x_and, Sim.x_or, Sim.x_not, Sim.x_if, Sim.x_tV, Sim.x_tCmp, Sim.x_tTru, Sim.x_tNot, Sim.x_tAnd, Sim.x_tOr, Sim.x_asB, Sim.x_sl, Sim.x_oNone, Sim.x_oSome, Sim.x_asI, Sim.x_trN, Sim.x_trB, Sim.x_trI, Sim.x_trL, Sim.x_trR, Sim.x_trT, Sim.x_add, Sim.x_sub, Sim.x_neg, Sim.x_lt, Sim.x_le, Sim.x_gt, Sim.x_ge, Sim.x_abs, Sim.x_max2, Sim.x_min2, Sim.x_intI, Sim.x_intB, Sim.x_eqI, Sim.x_neI, Sim.x_eqS, Sim.x_neS, Sim.x_lst, Sim.x_tup, Sim.x_lenL, Sim.x_lenT, Sim.x_lenR, Sim.x_tupleL, Sim.x_listL, Sim.x_listT, Sim.x_slL, Sim.x_slR, Sim.x_slT, Sim.callM, Sim.arrOf, List.filterMap_cons, List.filterMap_nil, List.getElem?_cons_zero, List.getElem?_cons_succ, List.cons_append, List.nil_append, List.append_nil, List.length_cons, List.length_nil, and_self, if_true, List.set_cons_zero, List.set_cons_succ, Bool.false_eq_true, if_false, Nat.reduceAdd, Nat.reduceSub, List.map_cons, List.map_nil, List.replicate_succ, List.replicate_zero, Bool.not_true, Bool.not_false, Sim.x_sized, Nat.reduceLeDiff, Nat.zero_add]
        rw [x_mod (by decide)]
        try simp -implicitDefEqProofs only [Sim.sM_pass, Sim.sM_seq, Sim.sM_asg, Sim.sM_ret, Sim.sM_expr, Sim.sM_if, Sim.sM_par, Sim.sM_asgT, Sim.sM_set, Sim.ret_bind, Sim.bind_assoc, Sim.x_var0, Sim.x_varS, Sim.x_C, Sim.x_op, Sim.x_un, Sim.x_A, Sim.x_nil, Sim.x_cons, Sim.x_call, Sim.x_and, Sim.x_or, Sim.x_not, Sim.x_if, Sim.x_tV, Sim.x_tCmp, Sim.x_tTru, Sim.x_tNot, Sim.x_tAnd, Sim.x_tOr, Sim.x_asB, Sim.x_sl, Sim.x_oNone, Sim.x_oSome, Sim.x_asI, Sim.x_trN, Sim.x_trB, Sim.x_trI, Sim.x_trL, Sim.x_trR, Sim.x_trT, Sim.x_add, Sim.x_sub, Sim.x_neg, Sim.x_lt, Sim.x_le, Sim.x_gt, Sim.x_ge, Sim.x_abs, Sim.x_max2, Sim.x_min2, Sim.x_intI, Sim.x_intB, Sim.x_eqI, Sim.x_neI, Sim.x_eqS, Sim.x_neS, Sim.x_lst, Sim.x_tup, Sim.x_lenL, Sim.x_lenT, Sim.x_lenR, Sim.x_tupleL, Sim.x_listL, Sim.x_listT, Sim.x_slL, Sim.x_slR, Sim.x_slT, Sim.callM, Sim.arrOf, List.filterMap_cons, List.filterMap_nil, List.getElem?_cons_zero, List.getElem?_cons_succ, List.cons_append, List.nil_append, List.append_nil, List.length_cons, List.length_nil, and_self, if_true, List.set_cons_zero, List.set_cons_succ, Bool.false_eq_true, if_false, Nat.reduceAdd, Nat.reduceSub, List.map_cons, List.map_nil, List.replicate_succ, List.replicate_zero, Bool.not_true, Bool.not_false, Sim.x_sized, Nat.reduceLeDiff, Nat.zero_add]
        rw [x_fdiv (by decide)]
        try simp -implicitDefEqProofs only [x_mod', Sim.sM_pass, Sim.sM_seq, Sim.sM_asg, Sim.sM_ret, Sim.sM_expr, Sim.sM_if, Sim.sM_par, Sim.sM_asgT, Sim.sM_set, Sim.ret_bind, Sim.bind_assoc, Sim.x_var0, Sim.x_varS, Sim.x_C, Sim.x_op, Sim.x_un, Sim.x_A, Sim.x_nil, Sim.x_cons, Sim.x_call, Sim.x_and, Sim.x_or, Sim.x_not, Sim.x_if, Sim.x_tV, Sim.x_tCmp, Sim.x_tTru, Sim.x_tNot, Sim.x_tAnd, Sim.x_tOr, Sim.x_asB, Sim.x_sl, Sim.x_oNone, Sim.x_oSome, Sim.x_asI, Sim.x_trN, Sim.x_trB, Sim.x_trI, Sim.x_trL, Sim.x_trR, Sim.x_trT, Sim.x_add, Sim.x_sub, Sim.x_neg, Sim.x_lt, Sim.x_le, Sim.x_gt, Sim.x_ge, Sim.x_abs, Sim.x_max2, Sim.x_min2, Sim.x_intI, Sim.x_intB, Sim.x_eqI, Sim.x_neI, Sim.x_eqS, Sim.x_neS, Sim.x_lst, Sim.x_tup, Sim.x_lenL, Sim.x_lenT, Sim.x_lenR, Sim.x_tupleL, Sim.x_listL, Sim.x_listT, Sim.x_slL, Sim.x_slR, Sim.x_slT, Sim.callM, Sim.arrOf, List.filterMap_cons, List.filterMap_nil, List.getElem?_cons_zero, List.getElem?_cons_succ, List.cons_append, List.nil_append, List.append_nil, List.length_cons, List.length_nil, and_self, if_true, List.set_cons_zero, List.set_cons_succ, Bool.false_eq_true, if_false, Nat.reduceAdd, Nat.reduceSub, List.map_cons, List.map_nil, List.replicate_succ, List.replicate_zero, Bool.not_true, Bool.not_false, Sim.x_sized, Nat.reduceLeDiff, Nat.zero_add]
        exact Vs.ret ⟨⟨_, rfl, (fmod_lt h0).1, (fmod_lt h0).2⟩, by omega, by omega, hr⟩
theorem draught {many : Int} (h0 : 0 < many) (h1 : many < 1073741824) : Rn cells k (mFun 2 6 dDraught [.cl k, (.int many)]) 1 fun v => ∃ d, v = .int d ∧ 0 ≤ d ∧ d < many := by
  refine Rn.fn fun st t r hk ht hb hr => ?_
  obtain ⟨a, t', r', e, ⟨d, hd, d0, d1⟩, h2, h3, h4⟩ := draught_vs (cells := cells) h0 h1 ht (by omega) hr st hk
  subst hd
  exact ⟨_, t', r', e, h2, h3, h4, by simp only [D.low], d, rfl, d0, d1⟩
/-- one of some -/
noncomputable def dCupful (mD : List D → M D) : MS := (sRet (eOp gIx (eVar 1) (eCall 2 0 2 [] [0, 1] mD (aCons (eVar 0) (aCons (eA gLen (aCons (eVar 1) aNil)) aNil)) aNil)))
theorem cupful {xs : List D} (hlow : D.lows 0 xs = true) (h0 : xs ≠ []) (h1 : xs.length < 1073741824) : Rn cells k (mFun 2 2 (dCupful (mFun 2 6 dDraught)) [.cl k, (.lst xs)]) 1 fun d => d ∈ xs := by
  refine Rn.fn ?_
  unfold dCupful
  try simp -implicitDefEqProofs only [Sim.sM_pass, Sim.sM_seq, Sim.sM_asg, Sim.sM_ret, Sim.sM_expr, Sim.sM_if, Sim.sM_par, Sim.sM_asgT, Sim.sM_set, Sim.ret_bind, Sim.bind_assoc, Sim.x_var0, Sim.x_varS, Sim.x_C, Sim.x_op, Sim.x_un, Sim.x_A, Sim.x_nil, Sim.x_cons, Sim.x_call, Sim.x_and, Sim.x_or, Sim.x_not, Sim.x_if, Sim.x_tV, Sim.x_tCmp, Sim.x_tTru, Sim.x_tNot, Sim.x_tAnd, Sim.x_tOr, Sim.x_asB, Sim.x_sl, Sim.x_oNone, Sim.x_oSome, Sim.x_asI, Sim.x_trN, Sim.x_trB, Sim.x_trI, Sim.x_trL, Sim.x_trR, Sim.x_trT, Sim.x_add, Sim.x_sub, Sim.x_neg, Sim.x_lt, Sim.x_le, Sim.x_gt, Sim.x_ge, Sim.x_abs, Sim.x_max2, Sim.x_min2, Sim.x_intI, Sim.x_intB, Sim.x_eqI, Sim.x_neI, Sim.x_eqS, Sim.x_neS, Sim.x_lst, Sim.x_tup, Sim.x_lenL, Sim.x_lenT, Sim.x_lenR, Sim.x_tupleL, Sim.x_listL, Sim.x_listT, Sim.x_slL, Sim.x_slR, Sim.x_slT, Sim.callM, Sim.arrOf, List.filterMap_cons, List.filterMap_nil, List.getElem?_cons_zero, List.getElem?_cons_succ, List.cons_append, List.nil_append, List.append_nil, List.length_cons, List.length_nil, and_self, if_true, List.set_cons_zero, List.set_cons_succ, Bool.false_eq_true, if_false, Nat.reduceAdd, Nat.reduceSub, List.map_cons, List.map_nil, List.replicate_succ, List.replicate_zero, Bool.not_true, Bool.not_false, Sim.x_sized, Nat.reduceLeDiff, Nat.zero_add]
  have hl : 0 < xs.length := List.length_pos_iff.mpr h0
  refine Rn.step (draught (many := xs.length) (by omega) (by omega)) fun v ⟨d, e, d0, d1⟩ => ?_
  subst e
  obtain ⟨x, e, m, _⟩ := atI_mem d0 d1
  rw [x_ixL e]
  try simp -implicitDefEqProofs only [Sim.sM_pass, Sim.sM_seq, Sim.sM_asg, Sim.sM_ret, Sim.sM_expr, Sim.sM_if, Sim.sM_par, Sim.sM_asgT, Sim.sM_set, Sim.ret_bind, Sim.bind_assoc, Sim.x_var0, Sim.x_varS, Sim.x_C, Sim.x_op, Sim.x_un, Sim.x_A, Sim.x_nil, Sim.x_cons, Sim.x_call, Sim.x_and, Sim.x_or, Sim.x_not, Sim.x_if, Sim.x_tV, Sim.x_tCmp, Sim.x_tTru, Sim.x_tNot, Sim.x_tAnd, Sim.x_tOr, Sim.x_asB, Sim.x_sl, Sim.x_oNone, Sim.x_oSome, Sim.x_asI, Sim.x_trN, Sim.x_trB, Sim.x_trI, Sim.x_trL, Sim.x_trR, Sim.x_trT, Sim.x_add, Sim.x_sub, Sim.x_neg, Sim.x_lt, Sim.x_le, Sim.x_gt, Sim.x_ge, Sim.x_abs, Sim.x_max2, Sim.x_min2, Sim.x_intI, Sim.x_intB, Sim.x_eqI, Sim.x_neI, Sim.x_eqS, Sim.x_neS, Sim.x_lst, Sim.x_tup, Sim.x_lenL, Sim.x_lenT, Sim.x_lenR, Sim.x_tupleL, Sim.x_listL, Sim.x_listT, Sim.x_slL, Sim.x_slR, Sim.x_slT, Sim.callM, Sim.arrOf, List.filterMap_cons, List.filterMap_nil, List.getElem?_cons_zero, List.getElem?_cons_succ, List.cons_append, List.nil_append, List.append_nil, List.length_cons, List.length_nil, and_self, if_true, List.set_cons_zero, List.set_cons_succ, Bool.false_eq_true, if_false, Nat.reduceAdd, Nat.reduceSub, List.map_cons, List.map_nil, List.replicate_succ, List.replicate_zero, Bool.not_true, Bool.not_false, Sim.x_sized, Nat.reduceLeDiff, Nat.zero_add]
  exact Rn.ret ⟨lows_mem hlow x m, m⟩
end
end Sim
end

section
/-! Sim P4: total runs with a changing store; loops; data that is encoded. -/
namespace Sim
open PySem PySem.Spec PyProof.Rows L2 RZ

/-! ### total runs -/
section
variable {α β γ : Type}
/-- from such a store m runs, to such an end -/
def T (I : Store → Prop) (m : M α) (Q : α → Store → Prop) : Prop := ∀ st, I st → ∃ a st', m st = .ok a st' ∧ Q a st'
theorem T.ret {I : Store → Prop} {a : α} {Q : α → Store → Prop} (h : ∀ st, I st → Q a st) : T I (M.ret a) Q := fun st i => ⟨a, st, rfl, h st i⟩
theorem T.bind {I : Store → Prop} {m : M α} {f : α → M β} {P : α → Store → Prop} {Q : β → Store → Prop} (h : T I m P) (h2 : ∀ a, T (P a) (f a) Q) : T I (m.bind f) Q := fun st i => by
  obtain ⟨a, st1, e, p⟩ := h st i
  obtain ⟨b, st2, e2, q⟩ := h2 a st1 p
  exact ⟨b, st2, by rw [bind_ok e, e2], q⟩
theorem T.imp {I I' : Store → Prop} {m : M α} {Q Q' : α → Store → Prop} (h : T I m Q) (hi : ∀ st, I' st → I st) (hq : ∀ a st, Q a st → Q' a st) : T I' m Q' := fun st i => by
  obtain ⟨a, st1, e, p⟩ := h st (hi st i)
  exact ⟨a, st1, e, hq _ _ p⟩
theorem T.pre {I : Store → Prop} {p : Prop} {m : M α} {Q : α → Store → Prop} (h : p → T I m Q) : T (fun st => p ∧ I st) m Q := fun st i => h i.1 st i.2
theorem T.ex {X : Type} {I : X → Store → Prop} {m : M α} {Q : α → Store → Prop} (h : ∀ x, T (I x) m Q) : T (fun st => ∃ x, I x st) m Q := fun st ⟨x, i⟩ => h x st i
theorem T.pu {I : Store → Prop} {m : M α} {f : α → M β} {a : α} {Q : β → Store → Prop} (e : m = M.ret a) (h : T I (f a) Q) : T I (m.bind f) Q := by rw [e, ret_bind]; exact h
/-- a step known store by store -/
theorem T.one {I I' : Store → Prop} {m : M α} {f : α → M β} {a : α} {Q : β → Store → Prop} (e : ∀ st, I st → ∃ st', m st = .ok a st' ∧ I' st') (h : T I' (f a) Q) : T I (m.bind f) Q := fun st i => by
  obtain ⟨st1, e1, i1⟩ := e st i
  obtain ⟨b, st2, e2, q⟩ := h st1 i1
  exact ⟨b, st2, by rw [bind_ok e1, e2], q⟩
/-- a vessel in its base, cells behind it; N: the turns that are left, up to B -/
def Vt (cells : List Int) (k : Nat) (base : Store) (B : Int) (N : Nat) (ext : List Cell) (st : Store) : Prop := ∃ t r, st = base.set k (ves cells t r) ++ ext ∧ 0 ≤ t ∧ t + N ≤ B ∧ 0 ≤ r
theorem Vt.less {cells : List Int} {k N N' : Nat} {B : Int} {base : Store} {ext : List Cell} {st : Store} (h : Vt cells k base B N ext st) (l : N' ≤ N) : Vt cells k base B N' ext st := by
  obtain ⟨t, r, e, h0, h1, h2⟩ := h
  exact ⟨t, r, e, h0, by omega, h2⟩
theorem Vt.rn {cells : List Int} {k c N : Nat} {B : Int} {base : Store} {ext : List Cell} {m : M α} {P : α → Prop} (hk : k < base.length) (hB : B ≤ 1000000) (h : Rn cells k m c P) (hc : c ≤ N) :
    T (Vt cells k base B N ext) m fun a st => P a ∧ Vt cells k base B (N - c) ext st := fun st ⟨t, r, e, h0, h1, h2⟩ => by
  subst e
  have g : (base.set k (ves cells t r) ++ ext)[k]? = some (ves cells t r) := by
    rw [List.getElem?_append_left (by rw [List.length_set]; exact hk), List.getElem?_set_self hk]
  obtain ⟨a, t', r', e, a1, a2, a3, p⟩ := h _ t r g h0 (by omega) h2
  refine ⟨a, _, e, p, t', r', ?_, a1, by omega, a3⟩
  rw [List.set_append_left _ _ (by rw [List.length_set]; exact hk), List.set_set]
theorem T.rn {cells : List Int} {k c N : Nat} {B : Int} {base : Store} {ext : List Cell} {m : M α} {f : α → M β} {P : α → Prop} {Q : β → Store → Prop} (hk : k < base.length) (hB : B ≤ 1000000) (h : Rn cells k m c P)
    (h2 : ∀ a, P a → T (Vt cells k base B (N - c) ext) (f a) Q) (hc : c ≤ N := by omega) : T (Vt cells k base B N ext) (m.bind f) Q := T.bind (Vt.rn hk hB h hc) fun a => T.pre (h2 a)
theorem Vt.len {cells : List Int} {k N : Nat} {B : Int} {base : Store} {ext : List Cell} {st : Store} (h : Vt cells k base B N ext st) : st.length = base.length + ext.length := by
  obtain ⟨t, r, e, _⟩ := h
  rw [e, List.length_append, List.length_set]
/-- the cell j of the ext -/
theorem Vt.get {cells : List Int} {k N : Nat} {B : Int} {base : Store} {ext : List Cell} {st : Store} (h : Vt cells k base B N ext st) (j : Nat) : st[base.length + j]? = ext[j]? := by
  obtain ⟨t, r, e, _⟩ := h
  rw [e, List.getElem?_append_right (by rw [List.length_set]; omega), List.length_set]
  congr 1; omega
theorem Vt.set {cells : List Int} {k N : Nat} {B : Int} {base : Store} {ext : List Cell} {st : Store} (h : Vt cells k base B N ext st) (j : Nat) (c : Cell) : Vt cells k base B N (ext.set j c) (st.set (base.length + j) c) := by
  obtain ⟨t, r, e, h1⟩ := h
  refine ⟨t, r, ?_, h1⟩
  rw [e, List.set_append_right _ _ (by rw [List.length_set]; omega), List.length_set]
  congr 2; omega
theorem Vt.app {cells : List Int} {k N : Nat} {B : Int} {base : Store} {ext : List Cell} {st : Store} (h : Vt cells k base B N ext st) (more : List Cell) : Vt cells k base B N (ext ++ more) (st ++ more) := by
  obtain ⟨t, r, e, h1⟩ := h
  exact ⟨t, r, by rw [e, List.append_assoc], h1⟩
/-- what a def hands back: data, or a list cell of its own -/
def EndV (base : Store) (ext : List Cell) (v d : D) : Prop := (D.low 0 v = true ∧ d = v) ∨ ∃ j xs, v = .cl (base.length + j) ∧ ext[j]? = some (.lst xs) ∧ D.lows 0 xs = true ∧ d = .lst xs
/-- a def that makes cells of its own, and drops them -/
theorem Rn.fnT {cells : List Int} {k n N c : Nat} {body : MS} {as : List D} {P : D → Prop}
    (h : ∀ (base : Store) (B : Int), k < base.length → B ≤ 1000000 → T (Vt cells k base B c []) (sM body (as.map some ++ List.replicate (N - n) none)) fun r st => ∃ ext, Vt cells k base B 0 ext st ∧ ∃ v, r = .inr v ∧ ∃ d, EndV base ext v d ∧ P d) :
    Rn cells k (mFun n N body as) c P := fun st t r hk h0 hb hr => by
  have hlt : k < st.length := (List.getElem?_eq_some_iff.mp hk).1
  obtain ⟨a, st1, e, ext, ⟨t', r', e1, b1, b2, b3⟩, v, rfl, d, he, p⟩ := h st (t + c) hlt hb st ⟨t, r, by rw [set_same hk]; simp, h0, by omega, hr⟩
  refine ⟨d, t', r', ?_, b1, by omega, b3, p⟩
  rw [fun_ok e]
  subst e1
  have hl : (st.set k (ves cells t' r')).length = st.length := List.length_set
  have ht : (st.set k (ves cells t' r') ++ ext).take st.length = st.set k (ves cells t' r') := by
    generalize st.set k (ves cells t' r') = S at hl ⊢
    rw [← hl, List.take_left]
  rcases he with ⟨h1, rfl⟩ | ⟨j, xs, rfl, h1, h2, rfl⟩
  · show exitV st d _ = _
    rw [exitV_low (low0 h1) CutOk.vsApp, ht]
  · show exitV st (.cl (st.length + j)) _ = _
    rw [exitV_new (k := st.length + j) (ds := xs) (Nat.le_add_right _ _) (by
      rw [List.getElem?_append_right (by rw [hl]; omega), hl]
      rw [show st.length + j - st.length = j by omega]; exact h1) (lows0 h2) CutOk.vsApp, ht]
/-! a for, with a state -/
theorem forT {X : Type} {src : Src} {t : Tgt} {body : MS} {n : Nat} {item : Nat → D} {E : Nat → X → Ev → Prop} {S : Nat → X → Store → Prop} {R : D → Store → Prop}
    (hs : ∀ i x st, i ≤ n → S i x st → src.item i st = some (if i < n then some (item i) else none))
    (h : ∀ i x ev, i < n → E i x ev → ∃ ev1, t.put (item i) ev = some ev1 ∧ T (S i x) (sM body ev1) fun r st => match r with | .inl ev' => ∃ x', E (i + 1) x' ev' ∧ S (i + 1) x' st | .inr v => R v st) :
    ∀ (left i f : Nat) (x : X) (ev : Ev) (st : Store), i + left = n → left < f → E i x ev → S i x st →
      (∃ ev' st' x', forN src t body f i ev st = .nx ev' st' ∧ E n x' ev' ∧ S n x' st') ∨ ∃ v st', forN src t body f i ev st = .rt v st' ∧ R v st'
  | 0, i, f, x, ev, st, hi, hf, he, hS => by
    obtain ⟨f, rfl⟩ : ∃ j, f = j + 1 := ⟨f - 1, by omega⟩
    have e : i = n := by omega
    subst e
    refine .inl ⟨ev, st, x, ?_, he, hS⟩
    simp only [forN, hs i x st (Nat.le_refl _) hS, if_neg (Nat.lt_irrefl i)]
  | left + 1, i, f, x, ev, st, hi, hf, he, hS => by
    obtain ⟨f, rfl⟩ : ∃ j, f = j + 1 := ⟨f - 1, by omega⟩
    have hin : i < n := by omega
    obtain ⟨ev1, h1, h2⟩ := h i x ev hin he
    obtain ⟨a, st1, e1, p⟩ := h2 st hS
    unfold sM at e1
    cases q : body ev1 st with
    | stuck => rw [q] at e1; cases e1
    | bk _ _ => rw [q] at e1; cases e1
    | ct _ _ => rw [q] at e1; cases e1
    | ex _ _ _ => rw [q] at e1; cases e1
    | rt v st' =>
      rw [q] at e1
      cases e1
      refine .inr ⟨v, st1, ?_, p⟩
      simp only [forN, hs i x st (Nat.le_of_lt hin) hS, if_pos hin, h1, q]
    | nx ev' st' =>
      rw [q] at e1
      cases e1
      obtain ⟨x', he', hS'⟩ := p
      have ih := forT (src := src) (t := t) (body := body) hs h left (i + 1) f x' ev' st1 (by omega) (by omega) he' hS'
      have e : forN src t body (f + 1) i ev st = forN src t body f (i + 1) ev' st1 := by simp only [forN, hs i x st (Nat.le_of_lt hin) hS, if_pos hin, h1, q]
      rw [e]
      exact ih
/-- a for, its source known -/
def loopM (src : Src) (t : Tgt) (body : MS) (ev : Ev) : M (Ev ⊕ D) := sM (fun ev st => forN src t body FU 0 ev st) ev
theorem sM_for {mi : MI} {t : Tgt} {body : MS} {ev : Ev} : sM (sFor mi t body) ev = (mi ev).bind fun src => loopM src t body ev := by
  unfold sFor
  rw [sM_bind]; rfl
theorem T.forR {X : Type} {src : Src} {t : Tgt} {body : MS} {n : Nat} {item : Nat → D} {E : Nat → X → Ev → Prop} {S : Nat → X → Store → Prop} {R : D → Store → Prop} {ev : Ev} (x0 : X)
    (hz : n ≤ 16777216) (h0 : E 0 x0 ev)
    (hs : ∀ i x st, i ≤ n → S i x st → src.item i st = some (if i < n then some (item i) else none))
    (h : ∀ i x ev, i < n → E i x ev → ∃ ev1, t.put (item i) ev = some ev1 ∧ T (S i x) (sM body ev1) fun r st => match r with | .inl ev' => ∃ x', E (i + 1) x' ev' ∧ S (i + 1) x' st | .inr v => R v st) :
    T (S 0 x0) (loopM src t body ev) fun r st => match r with | .inl ev' => ∃ x', E n x' ev' ∧ S n x' st | .inr v => R v st := fun st hS => by
  unfold loopM sM
  rcases forT hs h n 0 FU x0 ev st (by omega) (FU_gt hz) h0 hS with ⟨ev', st', x', q, p1, p2⟩ | ⟨v, st', q, p⟩
  · exact ⟨.inl ev', st', by simp only [q], x', p1, p2⟩
  · exact ⟨.inr v, st', by simp only [q], p⟩
theorem T.for {X : Type} {mi : MI} {src : Src} {t : Tgt} {body : MS} {n : Nat} {item : Nat → D} {E : Nat → X → Ev → Prop} {S : Nat → X → Store → Prop} {R : D → Store → Prop} {ev : Ev} (x0 : X)
    (hi : ∀ st, S 0 x0 st → mi ev st = .ok src st) (hz : n ≤ 16777216) (h0 : E 0 x0 ev)
    (hs : ∀ i x st, i ≤ n → S i x st → src.item i st = some (if i < n then some (item i) else none))
    (h : ∀ i x ev, i < n → E i x ev → ∃ ev1, t.put (item i) ev = some ev1 ∧ T (S i x) (sM body ev1) fun r st => match r with | .inl ev' => ∃ x', E (i + 1) x' ev' ∧ S (i + 1) x' st | .inr v => R v st) :
    T (S 0 x0) (sM (sFor mi t body) ev) fun r st => match r with | .inl ev' => ∃ x', E n x' ev' ∧ S n x' st | .inr v => R v st := by
  rw [sM_for]
  exact T.one (fun st hS => ⟨st, hi st hS, hS⟩) (T.forR x0 hz h0 hs h)
/-- .. whose body does not touch the store -/
theorem for_pu {mi : MI} {src : Src} {t : Tgt} {body : MS} {n : Nat} {item : Nat → D} {E : Nat → Ev → Prop} {Q : Ev ⊕ D → Prop} {ev : Ev}
    (hi : mi ev = M.ret src) (hs : ∀ i st, src.item i st = some (if i < n then some (item i) else none)) (hz : n ≤ 16777216) (h0 : E 0 ev)
    (h : ∀ i ev, i < n → E i ev → ∃ ev1, t.put (item i) ev = some ev1 ∧ ∃ r, sM body ev1 = M.ret r ∧ match r with | .inl ev' => E (i + 1) ev' | .inr v => Q (.inr v))
    (h9 : ∀ ev', E n ev' → Q (.inl ev')) : ∃ r, sM (sFor mi t body) ev = M.ret r ∧ Q r := by
  have key : ∀ (left i : Nat) (ev : Ev), i + left = n → E i ev → ∃ r, Q r ∧ ∀ (f : Nat) (st : Store), left < f → (match forN src t body f i ev st with | .nx ev' st' => Res.ok (Sum.inl ev') st' | .rt v st' => .ok (.inr v) st' | .ex e _ st' => .exn e st' | _ => .stuck) = .ok r st := by
    intro left
    induction left with
    | zero =>
      intro i ev hi he
      have e : i = n := by omega
      subst e
      refine ⟨.inl ev, h9 ev he, fun f st hf => ?_⟩
      obtain ⟨f, rfl⟩ : ∃ j, f = j + 1 := ⟨f - 1, by omega⟩
      simp only [forN, hs, if_neg (Nat.lt_irrefl i)]
    | succ left ih =>
      intro i ev hi he
      have hin : i < n := by omega
      obtain ⟨ev1, h1, r, h2, h3⟩ := h i ev hin he
      have h2' : ∀ st, sM body ev1 st = .ok r st := fun st => by rw [h2]; rfl
      cases r with
      | inr v =>
        refine ⟨.inr v, h3, fun f st hf => ?_⟩
        obtain ⟨f, rfl⟩ : ∃ j, f = j + 1 := ⟨f - 1, by omega⟩
        have e1 := h2' st
        unfold sM at e1
        cases q : body ev1 st with
        | stuck => rw [q] at e1; cases e1
        | bk _ _ => rw [q] at e1; cases e1
        | ct _ _ => rw [q] at e1; cases e1
        | ex _ _ _ => rw [q] at e1; cases e1
        | nx _ _ => rw [q] at e1; cases e1
        | rt v st' =>
          rw [q] at e1
          cases e1
          simp only [forN, hs, if_pos hin, h1, q]
      | inl ev' =>
        obtain ⟨r, hr, hk⟩ := ih (i + 1) ev' (by omega) h3
        refine ⟨r, hr, fun f st hf => ?_⟩
        obtain ⟨f, rfl⟩ : ∃ j, f = j + 1 := ⟨f - 1, by omega⟩
        have e1 := h2' st
        unfold sM at e1
        cases q : body ev1 st with
        | stuck => rw [q] at e1; cases e1
        | bk _ _ => rw [q] at e1; cases e1
        | ct _ _ => rw [q] at e1; cases e1
        | ex _ _ _ => rw [q] at e1; cases e1
        | rt _ _ => rw [q] at e1; cases e1
        | nx _ st' =>
          rw [q] at e1
          cases e1
          have := hk f st (by omega)
          simp only [forN, hs, if_pos hin, h1, q]
          exact this
  obtain ⟨r, hr, hk⟩ := key n 0 ev (by omega) h0
  refine ⟨r, ?_, hr⟩
  funext st
  have e : sM (sFor mi t body) ev st = sM (fun ev st => forN src t body FU 0 ev st) ev st := by
    unfold sFor
    rw [sM_bind, hi, ret_bind]
  rw [e]
  have := hk FU st (FU_gt hz)
  unfold sM
  exact this
/-- a while, with a state; w: what grows less -/
theorem whileT {X : Type} {c : MT} {body : MS} {E : X → Ev → Prop} {S : X → Store → Prop} {w : X → Nat} {p : X → Bool} {R : D → Store → Prop}
    (hc : ∀ x ev, E x ev → ∀ st, S x st → c ev st = .ok (p x) st)
    (h : ∀ x ev, E x ev → p x = true → T (S x) (sM body ev) fun r st => match r with | .inl ev' => ∃ x', E x' ev' ∧ S x' st ∧ w x' < w x | .inr v => R v st) :
    ∀ (f : Nat) (x : X) (ev : Ev) (st : Store), w x < f → E x ev → S x st →
      (∃ ev' st' x', whN c body f ev st = .nx ev' st' ∧ E x' ev' ∧ S x' st' ∧ p x' = false) ∨ ∃ v st', whN c body f ev st = .rt v st' ∧ R v st'
  | 0, x, ev, st, hf, he, hS => absurd hf (Nat.not_lt_zero _)
  | f + 1, x, ev, st, hf, he, hS => by
    cases hp : p x with
    | false =>
      refine .inl ⟨ev, st, x, ?_, he, hS, hp⟩
      simp only [whN, hc x ev he st hS, hp]
    | true =>
      obtain ⟨a, st1, e1, q1⟩ := h x ev he hp st hS
      unfold sM at e1
      cases q : body ev st with
      | stuck => rw [q] at e1; cases e1
      | bk _ _ => rw [q] at e1; cases e1
      | ct _ _ => rw [q] at e1; cases e1
      | ex _ _ _ => rw [q] at e1; cases e1
      | rt v st' =>
        rw [q] at e1
        cases e1
        refine .inr ⟨v, st1, ?_, q1⟩
        simp only [whN, hc x ev he st hS, hp, q]
      | nx ev' st' =>
        rw [q] at e1
        cases e1
        obtain ⟨x', he', hS', hw⟩ := q1
        have ih := whileT (w := w) hc h f x' ev' st1 (by omega) he' hS'
        have e : whN c body (f + 1) ev st = whN c body f ev' st1 := by simp only [whN, hc x ev he st hS, hp, q]
        rw [e]
        exact ih
theorem T.while {X : Type} {c : MT} {body : MS} {E : X → Ev → Prop} {S : X → Store → Prop} {w : X → Nat} {p : X → Bool} {R : D → Store → Prop} {ev : Ev} (x0 : X) (hw : w x0 ≤ 16777216) (h0 : E x0 ev)
    (hc : ∀ x ev, E x ev → ∀ st, S x st → c ev st = .ok (p x) st)
    (h : ∀ x ev, E x ev → p x = true → T (S x) (sM body ev) fun r st => match r with | .inl ev' => ∃ x', E x' ev' ∧ S x' st ∧ w x' < w x | .inr v => R v st) :
    T (S x0) (sM (sWhile c body) ev) fun r st => match r with | .inl ev' => ∃ x', E x' ev' ∧ S x' st ∧ p x' = false | .inr v => R v st := fun st hS => by
  unfold sM sWhile
  rcases whileT hc h FU x0 ev st (FU_gt hw) h0 hS with ⟨ev', st', x', q, p1, p2, p3⟩ | ⟨v, st', q, p⟩
  · exact ⟨.inl ev', st', by simp only [q], x', p1, p2, p3⟩
  · exact ⟨.inr v, st', by simp only [q], p⟩
end

section
variable {I : Store → Prop} {a b : MS} {ev ev' : Ev} {Q : Ev ⊕ D → Store → Prop} {P : Ev → Store → Prop}
theorem T.seq (h : T I (sM a ev) fun r st => ∃ ev', r = .inl ev' ∧ P ev' st) (h2 : ∀ ev', T (P ev') (sM b ev') Q) : T I (sM (sSeq a b) ev) Q := by
  rw [sM_seq]
  refine T.bind h fun r => ?_
  rintro st ⟨ev', rfl, p⟩
  exact h2 ev' st p
theorem T.seqP (h : sM a ev = M.ret (.inl ev')) (h2 : T I (sM b ev') Q) : T I (sM (sSeq a b) ev) Q := by
  rw [sM_seq, h, ret_bind]
  exact h2
theorem T.and {α : Type} {m : M α} {p : Prop} {I : Store → Prop} {Q : α → Store → Prop} (hp : p) (h : T I m Q) : T I m fun a st => p ∧ Q a st := h.imp (fun _ i => i) fun _ _ q => ⟨hp, q⟩
end
/-- a law's def, from the empty store -/
theorem law_end {n N : Nat} {body : MS} {as : List D} (h : T (fun st => st = []) (sM body (as.map some ++ List.replicate (N - n) none)) fun r _ => r = .inr (.bl true)) : ∃ st', mFun n N body as [] = .ok (.bl true) st' := by
  obtain ⟨r, st', e, rfl⟩ := h [] rfl
  refine ⟨[], ?_⟩
  rw [fun_ok e]
  show exitV [] (.bl true) st' = _
  rw [exitV_low (by simp only [D.low]) fun k hk => absurd hk (Nat.not_lt_zero _)]
  rfl

/-! ### at one store -/
section
variable {α β : Type}
/-- what m does at this store: nothing to it -/
def At (st : Store) (m : M α) (a : α) : Prop := m st = .ok a st
theorem At.bind {st : Store} {m : M α} {f : α → M β} {a : α} {b : β} (h : At st m a) (h2 : At st (f a) b) : At st (m.bind f) b := by
  show m.bind f st = _
  rw [bind_ok h]; exact h2
theorem At.ret {st : Store} {a : α} : At st (M.ret a) a := rfl
theorem At.pu {st : Store} {m : M α} {a : α} (h : m = M.ret a) : At st m a := by rw [h]; rfl
theorem At.of {st : Store} {o : O α} {a : α} (h : o st = some (a, st)) : At st (M.of o) a := of_at h
theorem At.fn {st : Store} {n N : Nat} {body : MS} {as : List D} {d : D} (h : At st (sM body (as.map some ++ List.replicate (N - n) none)) (.inr d)) (hd : D.low st.length d = true) : At st (mFun n N body as) d := by
  show mFun n N body as st = _
  rw [fun_ok h]
  show exitV st d st = _
  rw [exitV_low hd CutOk.same, take_len]
section
variable {A : Type} {g : A → D}
theorem compN_at {t : Tgt} {c : MT} {m : ME} {st : Store} {ev : Ev} {src : Src} {xs : List A} (hv : ∀ i acc, i ≤ xs.length → Src.item i (st ++ [.lst acc]) src = some ((xs.map g)[i]?)) (p : A → Bool) (f : A → D) :
    ∀ (rest done : List A) (n : Nat) (acc : List D), xs = done ++ rest → rest.length < n → acc.length + rest.length ≤ 16777216 →
      (∀ d ∈ rest, ∃ ev1, t.put (g d) ev = some ev1 ∧ ∀ acc, c ev1 (st ++ [.lst acc]) = .ok (p d) (st ++ [.lst acc]) ∧ (p d = true → m ev1 (st ++ [.lst acc]) = .ok (f d) (st ++ [.lst acc]))) →
      compN src t c m st.length ev n done.length (st ++ [.lst acc]) = some (st ++ [.lst (acc ++ (rest.filter p).map f)])
  | [], done, n, acc, hx, hn, hz, _ => by
    obtain ⟨n, rfl⟩ : ∃ j, n = j + 1 := ⟨n - 1, by simp at hn; omega⟩
    have e : (xs.map g)[done.length]? = none := by rw [hx]; simp
    have hv' := hv done.length acc (by rw [hx]; simp)
    rw [e] at hv'
    simp only [compN, hv', List.filter_nil, List.map_nil, List.append_nil]
  | d :: rest, done, n, acc, hx, hn, hz, h => by
    obtain ⟨n, rfl⟩ : ∃ j, n = j + 1 := ⟨n - 1, by simp at hn; omega⟩
    have e : (xs.map g)[done.length]? = some (g d) := by rw [hx]; simp
    obtain ⟨ev1, h1, h2⟩ := h d List.mem_cons_self
    obtain ⟨h2, h3⟩ := h2 acc
    have hl : (done ++ [d]).length = done.length + 1 := by simp
    have hv' := hv done.length acc (by rw [hx]; simp)
    rw [e] at hv'
    cases hp : p d with
    | false =>
      have ih := compN_at (t := t) (c := c) (m := m) (ev := ev) hv p f rest (done ++ [d]) n acc (by rw [hx]; simp) (by simp at hn; omega) (by simp at hz; omega) fun x hx => h x (List.mem_cons_of_mem _ hx)
      rw [hl] at ih
      simp only [compN, hv', h1, h2, hp, List.filter_cons, ih, Bool.false_eq_true, if_false]
    | true =>
      have gg : (st ++ [Cell.lst acc])[st.length]? = some (.lst acc) := by simp
      have hpush : pushC st.length (f d) (st ++ [.lst acc]) = some ((), st ++ [.lst (acc ++ [f d])]) := by
        simp only [pushC, gg]
        rw [if_pos (by simp at hz; omega), List.set_append_right _ _ (Nat.le_refl _)]
        simp
      have ih := compN_at (t := t) (c := c) (m := m) (ev := ev) hv p f rest (done ++ [d]) n (acc ++ [f d]) (by rw [hx]; simp) (by simp at hn; omega) (by simp at hz ⊢; omega) fun x hx => h x (List.mem_cons_of_mem _ hx)
      rw [hl] at ih
      simp only [compN, hv', h1, h2, hp, List.filter_cons, h3 hp, hpush, ih, if_true, List.map_cons, List.append_assoc, List.singleton_append]
/-- a comprehension at one store -/
theorem comp_at {mi : MI} {t : Tgt} {c : MT} {m : ME} {vs : List Nat} {ev : Ev} {src : Src} {xs : List A} {st : Store} (hi : At st (mi ev) src) (hv : ∀ i acc, i ≤ xs.length → Src.item i (st ++ [.lst acc]) src = some ((xs.map g)[i]?)) (p : A → Bool) (f : A → D) (hz : xs.length ≤ 16777216)
    (h : ∀ d ∈ xs, ∃ ev1, t.put (g d) (wipeE ev vs) = some ev1 ∧ (p d = true → D.low st.length (f d) = true) ∧ ∀ acc, c ev1 (st ++ [.lst acc]) = .ok (p d) (st ++ [.lst acc]) ∧ (p d = true → m ev1 (st ++ [.lst acc]) = .ok (f d) (st ++ [.lst acc]))) :
    At st (eComp mi t c m vs ev) (.lst ((xs.filter p).map f)) := by
  have q := compN_at (t := t) (c := c) (m := m) (ev := wipeE ev vs) hv p f xs [] FU [] (by simp) (FU_gt hz) (by simpa using hz) fun d hd => by
    obtain ⟨ev1, h1, _, h2⟩ := h d hd
    exact ⟨ev1, h1, h2⟩
  have q : compN src t c m st.length (wipeE ev vs) FU 0 (st ++ [.lst []]) = some (st ++ [.lst ((xs.filter p).map f)]) := by simpa using q
  have hlow : D.lows st.length ((xs.filter p).map f) = true := lows_of fun x hx => by
    obtain ⟨d, hd, rfl⟩ := List.mem_map.mp hx
    obtain ⟨hd1, hd2⟩ := List.mem_filter.mp hd
    obtain ⟨_, _, h3, _⟩ := h d hd1
    exact h3 hd2
  show (mi ev).bind _ st = _
  rw [bind_ok hi]
  simp only [q]
  rw [exitV_new (Nat.le_refl _) (by simp) hlow CutOk.app]
  simp
theorem comp_atA {mi : MI} {t : Tgt} {m : ME} {vs : List Nat} {ev : Ev} {src : Src} {xs : List A} {st : Store} (hi : At st (mi ev) src) (hv : ∀ i acc, i ≤ xs.length → Src.item i (st ++ [.lst acc]) src = some ((xs.map g)[i]?)) (f : A → D) (hz : xs.length ≤ 16777216)
    (h : ∀ d ∈ xs, ∃ ev1, t.put (g d) (wipeE ev vs) = some ev1 ∧ D.low st.length (f d) = true ∧ ∀ acc, m ev1 (st ++ [.lst acc]) = .ok (f d) (st ++ [.lst acc])) : At st (eComp mi t tYesM m vs ev) (.lst (xs.map f)) := by
  have q := comp_at (c := tYesM) hi hv (fun _ => true) f hz fun d hd => by
    obtain ⟨ev1, h1, h2, h3⟩ := h d hd
    exact ⟨ev1, h1, fun _ => h2, fun acc => ⟨rfl, fun _ => h3 acc⟩⟩
  have e : xs.filter (fun _ => true) = xs := List.filter_eq_self.mpr fun _ _ => rfl
  rw [e] at q
  exact q
end
end

theorem sM_setF (tb : List (Str × Str)) (f : Str) (mo mv : ME) (ev : Ev) : sM (sSetF tb f mo mv) ev = (mv ev).bind fun v => (mo ev).bind fun o => (M.of (gSetF tb f o v)).bind fun _ => M.ret (.inl ev) := by
  unfold sSetF
  rw [sM_bind]
  congr 1; funext v
  rw [sM_bind]
  congr 1; funext o
  rw [sM_bind]
  rfl
theorem x_chain {g g' : D → D → O D} {ma mb mc : ME} {ev : Ev} : eChain g g' ma mb mc ev = (ma ev).bind fun x => (mb ev).bind fun y => (M.of (g x y)).bind fun z => (asB z).bind fun k => if k = true then (mc ev).bind fun w => M.of (g' y w) else M.ret (.bl false) := rfl
theorem x_frz {m : ME} {ev : Ev} : eFrz m ev = (m ev).bind fun v => M.of (frzV 0 v) := rfl
theorem x_makeS {c : Str} {m : List D → M D} {as : MA} {ev : Ev} : eMakeS c m as ev = (as ev).bind fun vs => makeSM c m vs := rfl
/-- a new instance of data is frozen -/
theorem frzV_ins {n k : Nat} {c : Str} {fs : List (Str × D)} {st : Store} (hk : n ≤ k) (e : st[k]? = some (.ins c fs)) (h : D.lowF n fs = true) : frzV n (.cl k) st = some (.ins c fs, st.set k .dead) := by
  obtain ⟨f, q⟩ := DEEP_eq
  unfold frzV
  rw [q]
  have hl : ¬ D.low n (.cl k) = true := by simp only [D.low, decide_eq_true_eq]; omega
  have hm : ∀ {gs : List (Str × D)}, D.lowF n gs = true → mapOF (frz n (f + 1)) gs st = some (gs, st) := by
    intro gs
    induction gs with
    | nil => intro _; rfl
    | cons p r ih =>
      intro hg
      obtain ⟨a, d⟩ := p
      simp only [D.lowF, Bool.and_eq_true] at hg
      simp only [mapOF, frz_low hg.1, ih hg.2]
  unfold frz
  rw [if_neg hl]
  simp only [e, hm h]
theorem x_eMtL {g : D → List D → O D} {mo : ME} {ma : MA} {ev : Ev} : eMtL g mo ma ev = (mo ev).bind fun x => fun st => if (listV st x).isSome = true then (((ma ev).bind fun vs => M.of (g x vs)) st) else .stuck := rfl

/-! ### ranges, targets -/
theorem x_rng1 {j : Int} (h : -(2 ^ 62) ≤ j ∧ j < 2 ^ 62) : srcR1 [(.int j)] = M.ret (.ints 0 j.toNat) := by
  funext st
  simp only [srcR1, if_pos h]
  rfl
theorem x_iRng1 {m : MA} {ev : Ev} : iRng1 m ev = (m ev).bind srcR1 := rfl
theorem x_rng2 {i j : Int} (h : -(2 ^ 62) ≤ i ∧ i < 2 ^ 62 ∧ -(2 ^ 62) ≤ j ∧ j < 2 ^ 62) : srcR2 [.int i, .int j] = M.ret (.ints i (j - i).toNat) := by
  funext st
  simp only [srcR2, if_pos h]
  rfl
theorem x_iRng2 {m : MA} {ev : Ev} : iRng2 m ev = (m ev).bind srcR2 := rfl
theorem x_iEnum {m : MA} {ev : Ev} : iEnum m ev = (m ev).bind srcE := rfl
theorem x_iZip {m : MA} {ev : Ev} : Sim.iZip m ev = (m ev).bind srcZ := rfl
theorem x_put1 {i : Nat} {d : D} {ev : Ev} : Tgt.put (.nm i) d ev = some (ev.set i (some d)) := by simp only [Tgt.put]
theorem item_ints {lo : Int} {n i : Nat} {st : Store} : Src.item i st (.ints lo n) = some (if i < n then some (.int (lo + (i : Nat))) else none) := rfl
theorem item_seqT {xs : List D} {i : Nat} {st : Store} {v : D} (h : seqV st v = some xs) : Src.item i st (.seq v) = some (xs[i]?) := by
  simp only [Src.item, h, Option.map_some]
theorem seq_some {v : D} {xs : List D} (h : seqD v = some xs) (st : Store) : seqV st v = some xs := by
  cases v <;> cases h <;> rfl
theorem iSeq_pu {m : ME} {ev : Ev} {v : D} {xs : List D} (hm : m ev = M.ret v) (h : seqD v = some xs) : iSeq m ev = M.ret (.seq v) := by
  funext st
  show ((m ev).bind fun v st => match seqV st v with | some _ => Res.ok (Src.seq v) st | none => .stuck) st = _
  rw [hm, ret_bind, seq_some h]
  rfl
theorem item_seq {xs : List D} {v : D} (h : seqD v = some xs) (i : Nat) (st : Store) : Src.item i st (.seq v) = some (if i < xs.length then some (xs.getD i .non) else none) := by
  rw [item_seqT (seq_some h st)]
  congr 1
  by_cases hi : i < xs.length
  · rw [if_pos hi, List.getElem?_eq_getElem hi, List.getD_eq_getElem?_getD, List.getElem?_eq_getElem hi]; rfl
  · rw [if_neg hi, List.getElem?_eq_none (by omega)]
section
variable {A : Type} {g : A → D} {mi : MI} {src : Src} {m : ME} {c : MT} {t : Tgt} {vs : List Nat} {ev : Ev} {xs : List A}
/-- mi walks the items g x -/
def Wk (mi : MI) (ev : Ev) (g : A → D) (xs : List A) : Prop := ∃ src, mi ev = M.ret src ∧ ∀ i st, i ≤ xs.length → Src.item i st src = some ((xs.map g)[i]?)
theorem wk_seq {m0 : ME} {v : D} (hm : m0 ev = M.ret v) (h : seqD v = some (xs.map g)) : Wk (iSeq m0) ev g xs := ⟨.seq v, iSeq_pu hm h, fun i st _ => item_seqT (seq_some h st)⟩
theorem wk_rng1 {ma : MA} {j : Int} {n : Nat} (hm : ma ev = M.ret [.int j]) (e : j.toNat = n) (hj : -(2 ^ 62) ≤ j ∧ j < 2 ^ 62) : Wk (iRng1 ma) ev (fun i : Nat => .int (i : Int)) (List.range n) := ⟨.ints 0 n, by rw [x_iRng1, hm, ret_bind, x_rng1 hj, e], fun i st hi => by
  rw [item_ints, List.getElem?_map, Int.zero_add]
  congr 1
  by_cases h : i < n
  · rw [if_pos h, List.getElem?_range h]; rfl
  · rw [if_neg h, List.getElem?_eq_none (by rw [List.length_range]; omega)]; rfl⟩
theorem wk_rng2 {ma : MA} {i0 j : Int} {n : Nat} (hm : ma ev = M.ret [.int i0, .int j]) (e : (j - i0).toNat = n) (hj : -(2 ^ 62) ≤ i0 ∧ i0 < 2 ^ 62 ∧ -(2 ^ 62) ≤ j ∧ j < 2 ^ 62) : Wk (iRng2 ma) ev (fun i : Nat => .int (i0 + (i : Int))) (List.range n) := ⟨.ints i0 n, by rw [x_iRng2, hm, ret_bind, x_rng2 hj, e], fun i st hi => by
  rw [item_ints, List.getElem?_map]
  congr 1
  by_cases h : i < n
  · rw [if_pos h, List.getElem?_range h]; rfl
  · rw [if_neg h, List.getElem?_eq_none (by rw [List.length_range]; omega)]; rfl⟩
theorem wk_zip {B : Type} {ga : A → D} {gb : B → D} {ys : List B} {ma : MA} {v u : D} (hm : ma ev = M.ret [v, u]) (h1 : seqD v = some (xs.map ga)) (h2 : seqD u = some (ys.map gb)) : Wk (Sim.iZip ma) ev (fun p : A × B => .tup [ga p.1, gb p.2]) (xs.zip ys) := ⟨.zip v u, by
  rw [x_iZip, hm, ret_bind]
  funext st
  simp only [srcZ, seq_some h1 st, seq_some h2 st]
  rfl, fun i st hi => by
  rw [List.length_zip] at hi
  simp only [Src.item, seq_some h1 st, seq_some h2 st, List.length_map]
  rw [if_pos (by omega), List.getElem?_map, List.getElem?_map, List.getElem?_map, List.zip, List.getElem?_zipWith]
  cases xs[i]? <;> cases ys[i]? <;> rfl⟩
theorem wk_enum {ma : MA} {v : D} (hm : ma ev = M.ret [v]) (h : seqD v = some (xs.map g)) (ht : tupV v = none) : Wk (iEnum ma) ev (fun p : A × Nat => .tup [.int (p.2 : Int), g p.1]) xs.zipIdx := by
  have hl : ∀ st, listV st v = some (xs.map g) := fun st => by
    have := seq_some h st
    unfold seqV at this
    rw [ht, Option.or_none] at this
    exact this
  refine ⟨.enum v, by
    rw [x_iEnum, hm, ret_bind]
    funext st
    simp only [srcE, hl st]
    rfl, fun i st hi => ?_⟩
  simp only [Src.item, hl st, Option.map_some, List.getElem?_map, List.getElem?_zipIdx]
  congr 1
  cases xs[i]? <;> simp
/-- a comprehension over data, without draws -/
theorem comp_retF (hw : Wk mi ev g xs) (p : A → Bool) (f : A → D) (hz : xs.length ≤ 16777216)
    (hx : ∀ d ∈ xs, ∃ ev1, t.put (g d) (wipeE ev vs) = some ev1 ∧ c ev1 = M.ret (p d) ∧ (p d = true → m ev1 = M.ret (f d) ∧ D.low 0 (f d) = true)) : eComp mi t c m vs ev = M.ret (.lst ((xs.filter p).map f)) := by
  obtain ⟨src, hm, hs⟩ := hw
  exact Pu.eq fun st => comp_at (src := src) (by rw [hm]; rfl) (fun i acc hi => hs i _ hi) p f hz fun d hd => by
    obtain ⟨ev1, h1, h2, h3⟩ := hx d hd
    exact ⟨ev1, h1, fun e => low0 (h3 e).2, fun acc => ⟨by rw [h2]; rfl, fun e => by rw [(h3 e).1]; rfl⟩⟩
theorem comp_ret (hw : Wk mi ev g xs) (f : A → D) (hz : xs.length ≤ 16777216)
    (hx : ∀ d ∈ xs, ∃ ev1, t.put (g d) (wipeE ev vs) = some ev1 ∧ m ev1 = M.ret (f d) ∧ D.low 0 (f d) = true) : eComp mi t tYesM m vs ev = M.ret (.lst (xs.map f)) := by
  obtain ⟨src, hm, hs⟩ := hw
  exact Pu.eq fun st => comp_atA (src := src) (by rw [hm]; rfl) (fun i acc hi => hs i _ hi) f hz fun d hd => by
    obtain ⟨ev1, h1, h2, h3⟩ := hx d hd
    exact ⟨ev1, h1, low0 h3, fun acc => by rw [h2]; rfl⟩
/-- any, all over such a one -/
theorem any_ret (hw : Wk mi ev g xs) (b : A → Bool) (hz : xs.length ≤ 16777216)
    (hx : ∀ a ∈ xs, ∃ ev1, t.put (g a) (wipeE ev vs) = some ev1 ∧ m ev1 = M.ret (.bl (b a))) : eA gAny (aCons (eComp mi t tYesM m vs) aNil) ev = M.ret (.bl (xs.any b)) := by
  have q := comp_ret (m := m) (t := t) (vs := vs) hw (fun a => .bl (b a)) hz fun a ha => by
    obtain ⟨ev1, h1, h2⟩ := hx a ha
    exact ⟨ev1, h1, h2, by simp only [D.low]⟩
  have e : (xs.map fun a => D.bl (b a)) = (xs.map b).map D.bl := by rw [List.map_map]; rfl
  rw [x_A, x_cons, q, ret_bind, x_nil, ret_bind, ret_bind, e, x_any, List.any_map]; rfl
theorem all_ret (hw : Wk mi ev g xs) (b : A → Bool) (hz : xs.length ≤ 16777216)
    (hx : ∀ a ∈ xs, ∃ ev1, t.put (g a) (wipeE ev vs) = some ev1 ∧ m ev1 = M.ret (.bl (b a))) : eA gAll (aCons (eComp mi t tYesM m vs) aNil) ev = M.ret (.bl (xs.all b)) := by
  have q := comp_ret (m := m) (t := t) (vs := vs) hw (fun a => .bl (b a)) hz fun a ha => by
    obtain ⟨ev1, h1, h2⟩ := hx a ha
    exact ⟨ev1, h1, h2, by simp only [D.low]⟩
  have e : (xs.map fun a => D.bl (b a)) = (xs.map b).map D.bl := by rw [List.map_map]; rfl
  rw [x_A, x_cons, q, ret_bind, x_nil, ret_bind, ret_bind, e, x_all, List.all_map]; rfl
/-- .. as rewriting leaves it -/
theorem any_retB {γ : Type} {k : D → M γ} (hw : Wk mi ev g xs) (b : A → Bool) (hz : xs.length ≤ 16777216)
    (hx : ∀ a ∈ xs, ∃ ev1, t.put (g a) (wipeE ev vs) = some ev1 ∧ m ev1 = M.ret (.bl (b a))) : (eComp mi t tYesM m vs ev).bind (fun a => (M.of (gAny [a])).bind k) = k (.bl (xs.any b)) := by
  have q := any_ret hw b hz hx
  rw [x_A, x_cons, bind_assoc] at q
  have e : ((eComp mi t tYesM m vs ev).bind fun a => M.of (gAny [a])) = M.ret (.bl (xs.any b)) := q
  rw [← bind_assoc, e, ret_bind]
theorem all_retB {γ : Type} {k : D → M γ} (hw : Wk mi ev g xs) (b : A → Bool) (hz : xs.length ≤ 16777216)
    (hx : ∀ a ∈ xs, ∃ ev1, t.put (g a) (wipeE ev vs) = some ev1 ∧ m ev1 = M.ret (.bl (b a))) : (eComp mi t tYesM m vs ev).bind (fun a => (M.of (gAll [a])).bind k) = k (.bl (xs.all b)) := by
  have q := all_ret hw b hz hx
  rw [x_A, x_cons, bind_assoc] at q
  have e : ((eComp mi t tYesM m vs ev).bind fun a => M.of (gAll [a])) = M.ret (.bl (xs.all b)) := q
  rw [← bind_assoc, e, ret_bind]
theorem sum_ret (hw : Wk mi ev g xs) (b : A → Int) (hz : xs.length ≤ 16777216)
    (hx : ∀ a ∈ xs, ∃ ev1, t.put (g a) (wipeE ev vs) = some ev1 ∧ m ev1 = M.ret (.int (b a))) : eA gSum (aCons (eComp mi t tYesM m vs) aNil) ev = M.ret (.int (xs.map b).sum) := by
  have q := comp_ret (m := m) (t := t) (vs := vs) hw (fun a => .int (b a)) hz fun a ha => by
    obtain ⟨ev1, h1, h2⟩ := hx a ha
    exact ⟨ev1, h1, h2, by simp only [D.low]⟩
  have e : (xs.map fun a => D.int (b a)) = (xs.map b).map D.int := by rw [List.map_map]; rfl
  rw [x_A, x_cons, q, ret_bind, x_nil, ret_bind, ret_bind, e, x_sum]
end

/-! ### data by type -/
/-- a type whose values stand as data; == is = -/
class Enc (α : Type) [DecidableEq α] where
  d : α → D
  py : α → PyData
  hpy : ∀ a, D.py (d a) = some (py a)
  lay : ∀ a, (py a).canLay0 = true
  eqv : ∀ a b, PyData.eqv (py a) (py b) = decide (a = b)
  dep : Nat
  hdep : ∀ a, (py a).depth ≤ dep
  low : ∀ a, D.low 0 (d a) = true
section
variable {α β : Type} [DecidableEq α] [Enc α] [DecidableEq β] [Enc β]
theorem dec_beq {i j : Int} : (i == j) = decide (i = j) := by rw [Bool.eq_iff_iff]; simp
instance : Enc Int where
  d := .int
  py := .int
  hpy _ := rfl
  lay _ := by simp only [PyData.canLay0]
  eqv a b := by simp only [PyData.eqv]; exact dec_beq
  dep := 0
  hdep _ := by simp only [PyData.depth]; exact Nat.le_refl _
  low _ := by simp only [D.low]
theorem enc_pys : ∀ xs : List α, D.pys (xs.map Enc.d) = some (xs.map Enc.py)
  | [] => rfl
  | x :: r => by
    show (match D.py (Enc.d x), D.pys (r.map Enc.d) with | some a, some b => some (a :: b) | _, _ => none) = _
    rw [enc_pys r, Enc.hpy]; rfl
theorem enc_lay : ∀ xs : List α, PyData.canLayAll0 (xs.map Enc.py) = true
  | [] => by simp [PyData.canLayAll0]
  | x :: r => by simp [PyData.canLayAll0, Enc.lay x, enc_lay r]
theorem enc_dep : ∀ xs : List α, PyData.depthAll (xs.map Enc.py) ≤ Enc.dep α
  | [] => by simp [PyData.depthAll]
  | x :: r => by have := enc_dep r; have := Enc.hdep x; simp only [List.map_cons, PyData.depthAll]; omega
theorem enc_eqv : ∀ xs ys : List α, PyData.eqvAll (xs.map Enc.py) (ys.map Enc.py) = decide (xs = ys)
  | [], [] => by simp only [List.map_nil, PyData.eqvAll, decide_true]
  | [], _ :: _ => by simp [PyData.eqvAll]
  | _ :: _, [] => by simp [PyData.eqvAll]
  | x :: xs, y :: ys => by
    rw [List.map_cons, List.map_cons, PyData.eqvAll, Enc.eqv x y, enc_eqv xs ys, ← Bool.decide_and]
    exact decide_eq_decide.mpr (by rw [List.cons.injEq])
theorem enc_lows (xs : List α) : D.lows 0 (xs.map Enc.d) = true := lows_of fun d hd => by obtain ⟨i, _, rfl⟩ := List.mem_map.mp hd; exact Enc.low i
/-- a list stands as a tuple -/
instance : Enc (List α) where
  d xs := .tup (xs.map Enc.d)
  py xs := .tuple (xs.map Enc.py)
  hpy xs := by
    show (D.pys (xs.map Enc.d)).map PyData.tuple = _
    rw [enc_pys]; rfl
  lay xs := by simp only [PyData.canLay0]; exact enc_lay xs
  eqv xs ys := by simp only [PyData.eqv]; exact enc_eqv xs ys
  dep := Enc.dep α + 1
  hdep xs := by simp only [PyData.depth]; exact Nat.succ_le_succ (enc_dep xs)
  low xs := by simp only [D.low]; exact enc_lows xs
instance : Enc (α × β) where
  d p := .tup [Enc.d p.1, Enc.d p.2]
  py p := .tuple [Enc.py p.1, Enc.py p.2]
  hpy p := by
    show (match D.py (Enc.d p.1), (match D.py (Enc.d p.2), some [] with | some a, some b => some (a :: b) | _, _ => none) with | some a, some b => some (a :: b) | _, _ => none).map PyData.tuple = _
    rw [Enc.hpy, Enc.hpy]; rfl
  lay p := by simp only [PyData.canLay0, PyData.canLayAll0, Enc.lay, Bool.and_self]
  eqv p q := by
    simp only [PyData.eqv, PyData.eqvAll]
    rw [Enc.eqv, Enc.eqv, Bool.and_true, ← Bool.decide_and]
    exact decide_eq_decide.mpr ⟨fun e => Prod.ext e.1 e.2, fun e => by rw [e]; exact ⟨rfl, rfl⟩⟩
  dep := max (Enc.dep α) (Enc.dep β) + 1
  hdep p := by
    have := Enc.hdep p.1
    have := Enc.hdep p.2
    simp only [PyData.depth, PyData.depthAll]
    omega
  low p := by simp only [D.low, D.lows, Enc.low, Bool.and_self]
theorem enc_sh (h : Enc.dep α ≤ 64) (a : α) : SeqAt.shaped (Enc.py a) = true := by
  have := Enc.hdep a
  unfold SeqAt.shaped
  rw [Enc.lay, Bool.true_and, decide_eq_true_eq]; omega
theorem enc_shL (h : Enc.dep α < 64) (xs : List α) : SeqAt.shaped (.list (xs.map Enc.py)) = true := by
  have := enc_dep xs
  unfold SeqAt.shaped
  rw [Bool.and_eq_true, decide_eq_true_eq]
  exact ⟨by simp only [PyData.canLay0]; exact enc_lay xs, by simp only [PyData.depth]; omega⟩
theorem enc_pyV (st : Store) (a : α) : pyV st (Enc.d a) = some (Enc.py a) := by unfold pyV; rw [Enc.hpy]; rfl
theorem enc_pyL (st : Store) (xs : List α) : pyV st (.lst (xs.map Enc.d)) = some (.list (xs.map Enc.py)) := by
  have e : D.py (.lst (xs.map Enc.d)) = some (.list (xs.map Enc.py)) := by
    show (D.pys (xs.map Enc.d)).map PyData.list = _
    rw [enc_pys]; rfl
  unfold pyV; rw [e]; rfl
theorem pyW_enc {f : Nat} {st : Store} (h : ∀ a : α, pyD st f (Enc.d a) = some (Enc.py a)) : ∀ xs : List α, pysW (pyD st f) (xs.map Enc.d) = some (xs.map Enc.py)
  | [] => rfl
  | x :: r => by simp only [List.map_cons, pysW, h x, pyW_enc h r]
def strD : D → Bool | .str _ => true | _ => false
theorem gStr_no {f : Bool → Bool} {a b : D} {st : Store} (h : strD a = false) : gStr2 f a b st = none := by
  cases a <;> first | rfl | cases h
theorem enc_eq (h : Enc.dep α ≤ 64 := by decide) (a b : α) (hs : strD (Enc.d a) = false := by rfl) : M.of (gEq (Enc.d a) (Enc.d b)) = M.ret (.bl (decide (a = b))) := of_some fun st => by
  simp only [gEq, eitherG, gStr_no hs, gPy2, enc_pyV, enc_sh h, and_self, if_true, Enc.eqv, id, Option.none_or]
theorem enc_ne (h : Enc.dep α ≤ 64 := by decide) (a b : α) (hs : strD (Enc.d a) = false := by rfl) : M.of (gNe (Enc.d a) (Enc.d b)) = M.ret (.bl (!decide (a = b))) := of_some fun st => by
  simp only [gNe, eitherG, gStr_no hs, gPy2, enc_pyV, enc_sh h, and_self, if_true, Enc.eqv, Option.none_or]
theorem enc_eqL (h : Enc.dep α < 64 := by decide) (a b : List α) : M.of (gEq (.lst (a.map Enc.d)) (.lst (b.map Enc.d))) = M.ret (.bl (decide (a = b))) := of_some fun st => by
  simp only [gEq, eitherG, gStr2, gPy2, enc_pyL, enc_shL h, and_self, if_true, PyData.eqv, enc_eqv, id, Option.none_or]
theorem enc_neL (h : Enc.dep α < 64 := by decide) (a b : List α) : M.of (gNe (.lst (a.map Enc.d)) (.lst (b.map Enc.d))) = M.ret (.bl (!decide (a = b))) := of_some fun st => by
  simp only [gNe, eitherG, gStr2, gPy2, enc_pyL, enc_shL h, and_self, if_true, PyData.eqv, enc_eqv, Option.none_or]
theorem enc_inS (h : Enc.dep α < 64 := by decide) (neg : Bool) (a : α) (xs : List α) [dm : Decidable (a ∈ xs)] {st : Store} {l : D} (hl : pyV st l = some (.list (xs.map Enc.py))) : gIn neg (Enc.d a) l st = some (.bl (if neg then !decide (a ∈ xs) else decide (a ∈ xs)), st) := by
  have e : (xs.map Enc.py).any (fun z => PyData.eqv z (Enc.py a)) = decide (a ∈ xs) := by
    rw [List.any_map, Bool.eq_iff_iff, List.any_eq_true, decide_eq_true_eq]
    constructor
    · rintro ⟨x, hx, e⟩
      simp only [Function.comp_apply, Enc.eqv, decide_eq_true_eq] at e
      exact e ▸ hx
    · intro hx
      exact ⟨a, hx, by simp only [Function.comp_apply, Enc.eqv, decide_true]⟩
  simp only [gIn, enc_pyV, hl, enc_sh (Nat.le_of_lt h), enc_shL h, and_self, if_true, e]
theorem enc_in (h : Enc.dep α < 64 := by decide) (neg : Bool) (a : α) (xs : List α) [dm : Decidable (a ∈ xs)] : M.of (gIn neg (Enc.d a) (.lst (xs.map Enc.d))) = M.ret (.bl (if neg then !decide (a ∈ xs) else decide (a ∈ xs))) := of_some fun st => enc_inS h neg a xs (enc_pyL st xs)
end
/-! words of ints, rows of words -/
abbrev tI (w : List Int) : D := .tup (w.map D.int)
abbrev tW (ws : List (List Int)) : D := .tup (ws.map tI)
abbrev lI (w : List Int) : D := .lst (w.map D.int)
abbrev lW (ws : List (List Int)) : D := .lst (ws.map tI)
theorem x_eqTI (a b : List Int) : M.of (gEq (tI a) (tI b)) = M.ret (.bl (decide (a = b))) := enc_eq (by decide) a b
theorem x_neTI (a b : List Int) : M.of (gNe (tI a) (tI b)) = M.ret (.bl (!decide (a = b))) := enc_ne (by decide) a b
theorem x_eqTW (a b : List (List Int)) : M.of (gEq (tW a) (tW b)) = M.ret (.bl (decide (a = b))) := enc_eq (by decide) a b
theorem x_eqLI (a b : List Int) : M.of (gEq (lI a) (lI b)) = M.ret (.bl (decide (a = b))) := enc_eqL (by decide) a b
theorem x_neLI (a b : List Int) : M.of (gNe (lI a) (lI b)) = M.ret (.bl (!decide (a = b))) := enc_neL (by decide) a b
theorem x_eqLW (a b : List (List Int)) : M.of (gEq (lW a) (lW b)) = M.ret (.bl (decide (a = b))) := enc_eqL (by decide) a b
theorem x_inLW (neg : Bool) (a : List Int) (xs : List (List Int)) : M.of (gIn neg (tI a) (lW xs)) = M.ret (.bl (if neg then !decide (a ∈ xs) else decide (a ∈ xs))) := enc_in (by decide) neg a xs
theorem low_tI (w : List Int) {n : Nat} : D.low n (tI w) = true := by simp only [D.low, lows_ints]
theorem low_tW (ws : List (List Int)) {n : Nat} : D.low n (tW ws) = true := by
  simp only [D.low]
  exact lows_of fun d hd => by obtain ⟨i, _, rfl⟩ := List.mem_map.mp hd; exact low_tI i
theorem low_lI (w : List Int) {n : Nat} : D.low n (lI w) = true := by simp only [D.low, lows_ints]
theorem low_lW (ws : List (List Int)) {n : Nat} : D.low n (lW ws) = true := by
  simp only [D.low]
  exact lows_of fun d hd => by obtain ⟨i, _, rfl⟩ := List.mem_map.mp hd; exact low_tI i
/-! parts -/
section
variable {α β : Type}
theorem cutD_none {xs : List D} : cutD xs none none = xs := by
  unfold cutD
  rw [HT.sIx_none, HT.sIx_none, List.drop_zero, Nat.sub_zero, List.take_length]
theorem cutD_to {xs : List D} (n : Nat) : cutD xs none (some (n : Int)) = xs.take n := by
  unfold cutD
  rw [HT.sIx_none, HT.sIx_nat, List.drop_zero, Nat.sub_zero, List.take_eq_take_iff]; omega
theorem cutD_from {xs : List D} (n : Nat) : cutD xs (some (n : Int)) none = xs.drop n := by
  unfold cutD
  rw [HT.sIx_none, HT.sIx_nat]
  by_cases h : n ≤ xs.length
  · rw [Nat.min_eq_left h, List.take_of_length_le (by rw [List.length_drop]; omega)]
  · rw [Nat.min_eq_right (by omega), Nat.sub_self, List.take_zero, List.drop_of_length_le (by omega)]
theorem cutD_mid {xs : List D} (n m : Nat) : cutD xs (some (n : Int)) (some (m : Int)) = (xs.drop n).take (m - n) := by
  unfold cutD
  rw [HT.sIx_nat, HT.sIx_nat]
  by_cases h : n ≤ xs.length
  · rw [Nat.min_eq_left h, List.take_eq_take_iff, List.length_drop]; omega
  · rw [Nat.min_eq_right (by omega : xs.length ≤ n), List.drop_of_length_le (Nat.le_refl _), List.drop_of_length_le (by omega : xs.length ≤ n)]; simp
theorem sIx_neg (n d k : Nat) (h : 0 < k) : HT.sIx n d (some (-(k : Int))) = n - k := by
  have e := HT.clip_eq (-(k : Int)) n d
  rw [if_pos (by omega)] at e
  omega
theorem cutD_last {xs : List D} (n : Nat) (h : 0 < n) : cutD xs (some (-(n : Int))) none = xs.drop (xs.length - n) := by
  unfold cutD
  rw [HT.sIx_none, sIx_neg _ _ _ h, List.take_of_length_le (by rw [List.length_drop]; omega)]
end
end Sim
end

section
/-! k15, plain facts about words. -/
namespace K15
/-- x begins a word -/
def begins (ws : List (List Int)) (x : List Int) : Bool := ws.any fun w => decide (w.take x.length = x)
/-- the longest ending that is not empty and begins a word -/
def farF (ws : List (List Int)) : List Int → List Int
  | [] => []
  | x :: r => if begins ws (x :: r) = true then x :: r else farF ws r
variable {ws : List (List Int)}
theorem farF_pos {x : Int} {r : List Int} (h : begins ws (x :: r) = true) : farF ws (x :: r) = x :: r := if_pos h
theorem farF_neg {x : Int} {r : List Int} (h : ¬ begins ws (x :: r) = true) : farF ws (x :: r) = farF ws r := if_neg h
theorem begins_snoc {x : List Int} {l : Int} (h : begins ws (x ++ [l]) = true) : begins ws x = true := by
  unfold begins at h ⊢
  rw [List.any_eq_true] at h ⊢
  obtain ⟨w, hw, e⟩ := h
  refine ⟨w, hw, ?_⟩
  rw [decide_eq_true_eq] at e ⊢
  have := congrArg (List.take x.length) e
  rw [List.take_take, List.take_left, Nat.min_eq_left (by simp)] at this
  exact this
theorem farF_step (l : Int) : ∀ y : List Int, farF ws (farF ws y ++ [l]) = farF ws (y ++ [l])
  | [] => rfl
  | x :: r => by
    by_cases h : begins ws (x :: r) = true
    · rw [farF_pos h]
    · rw [farF_neg h, farF_step l r]
      have h2 : ¬ begins ws (x :: (r ++ [l])) = true := fun z => h (begins_snoc (x := x :: r) z)
      rw [List.cons_append, farF_neg h2]
theorem begins_len (hw : ∀ w ∈ ws, w.length ≤ 6) {x : List Int} (h : begins ws x = true) : x.length ≤ 6 := by
  unfold begins at h
  rw [List.any_eq_true] at h
  obtain ⟨w, h1, e⟩ := h
  rw [decide_eq_true_eq] at e
  have := hw w h1
  rw [← e, List.length_take]; omega
theorem farF_drop (hw : ∀ w ∈ ws, w.length ≤ 6) : ∀ y : List Int, farF ws (y.drop (y.length - 6)) = farF ws y
  | [] => rfl
  | x :: r => by
    by_cases h : (x :: r).length ≤ 6
    · rw [Nat.sub_eq_zero_of_le h, List.drop_zero]
    · have e : (x :: r).length - 6 = (r.length - 6) + 1 := by simp only [List.length_cons] at h ⊢; omega
      rw [e, List.drop_succ_cons, farF_drop hw r]
      have h2 : ¬ begins ws (x :: r) = true := fun z => h (begins_len hw z)
      rw [farF_neg h2]
theorem farF_len (hw : ∀ w ∈ ws, w.length ≤ 6) : ∀ y : List Int, (farF ws y).length ≤ 6
  | [] => by simp [farF]
  | x :: r => by
    unfold farF
    split
    · rename_i h; exact begins_len hw h
    · exact farF_len hw r
theorem farF_suffix : ∀ y : List Int, farF ws y <:+ y
  | [] => List.suffix_refl _
  | x :: r => by
    unfold farF
    split
    · exact List.suffix_refl _
    · exact (farF_suffix r).trans (List.suffix_cons _ _)
theorem farF_mem {y : List Int} {i : Int} (h : i ∈ farF ws y) : i ∈ y := (farF_suffix y).subset h
theorem begins_self {w : List Int} (h : w ∈ ws) : begins ws w = true := by
  unfold begins
  rw [List.any_eq_true]
  exact ⟨w, h, by rw [List.take_length]; simp⟩
theorem suffix_farF {w : List Int} (h : w ∈ ws) (h0 : w ≠ []) : ∀ y : List Int, w <:+ farF ws y ↔ w <:+ y
  | [] => Iff.rfl
  | x :: r => by
    unfold farF
    split
    · exact Iff.rfl
    · rename_i hb
      rw [suffix_farF h h0 r, List.suffix_cons_iff]
      constructor
      · exact .inr
      · rintro (e | e)
        · exact absurd (e ▸ begins_self h) hb
        · exact e
/-- does an ending break -/
def breaks (ws : List (List Int)) (y : List Int) : Bool := ws.any fun w => decide (y.drop (y.length - w.length) = w)
theorem breaks_farF (h0 : ∀ w ∈ ws, w ≠ []) (y : List Int) : breaks ws (farF ws y) = breaks ws y := by
  have key : ∀ z : List Int, ∀ w : List Int, (z.drop (z.length - w.length) = w) ↔ w <:+ z := fun z w => by
    rw [List.suffix_iff_eq_drop]; exact eq_comm
  unfold breaks
  rw [Bool.eq_iff_iff, List.any_eq_true, List.any_eq_true]
  constructor
  · rintro ⟨w, hw, e⟩
    rw [decide_eq_true_eq, key] at e
    exact ⟨w, hw, by rw [decide_eq_true_eq, key]; exact (suffix_farF hw (h0 w hw) y).mp e⟩
  · rintro ⟨w, hw, e⟩
    rw [decide_eq_true_eq, key] at e
    exact ⟨w, hw, by rw [decide_eq_true_eq, key]; exact (suffix_farF hw (h0 w hw) y).mpr e⟩
theorem breaks_nil (h0 : ∀ w ∈ ws, w ≠ []) : breaks ws [] = false := by
  unfold breaks
  rw [List.any_eq_false]
  intro w hw e
  rw [decide_eq_true_eq] at e
  simp only [List.drop_nil] at e
  exact h0 w hw e.symm
/-- the loop over the places, from at on -/
def farL (ws : List (List Int)) (y : List Int) : Nat → Nat → List Int
  | 0, _ => []
  | n + 1, at_ => if begins ws (y.drop at_) = true then y.drop at_ else farL ws y n (at_ + 1)
theorem farL_eq (y : List Int) : ∀ n at_ : Nat, at_ + n = y.length → farL ws y n at_ = farF ws (y.drop at_)
  | 0, at_, h => by rw [show at_ = y.length by omega, List.drop_length]; rfl
  | n + 1, at_, h => by
    unfold farL
    rw [List.drop_eq_getElem_cons (by omega)]
    unfold farF
    rw [farL_eq y n (at_ + 1) (by omega)]
end K15
end

section
open PySem PySem.Spec PyProof.Rows L2 RZ Sim
namespace K15
noncomputable def dMix : MS := (sSeq (sAsg 6 (eOp gMod (eA gInt (aCons (eOp gPow (eOp gAdd (eOp gAdd (eOp gMod (eA gInt (aCons (eVar 4) aNil)) (eC (.int 2147483563))) (eOp gMulS (eC (.int 52361)) (eVar 3))) (eC (.int 4519))) (eC (.int 3))) aNil)) (eC (.int 2147483647))))
 (sSeq (sAsg 6 (eOp gMod (eA gInt (aCons (eOp gPow (eOp gAdd (eOp gAdd (eOp gMulS (eVar 6) (eOp gAdd (eOp gMulS (eC (.int 2)) (eVar 3)) (eC (.int 313)))) (eOp gMulS (eOp gMulS (eC (.int 977)) (eVar 3)) (eVar 3))) (eC (.int 61))) (eC (.int 5))) aNil)) (eC (.int 2147483629))))
 (sRet (eOp gMod (eA gInt (aCons (eOp gFdiv (eVar 6) (eC (.int 64))) aNil)) (eVar 1)))))
noncomputable def dBig : MS := (sSeq (Sim.sIf (Sim.tAnd (Sim.tCmp gLt (eVar 3) (eA gLen (aCons (eOp gIx (eVar 0) (eC (.int 0))) aNil))) (Sim.tCmp gGt (eA gAbs (aCons (eVar 4) aNil)) (eOp gPow (eC (.int 10)) (eC (.int 18))))) (sSeq (sAsg 5 (eOp gSub (eA gAbs (aCons (eVar 4) aNil)) (eOp gPow (eC (.int 10)) (eC (.int 18)))))
 (sSeq (sSet (eVar 0) (eC (.int 2)) (eOp gFdiv (eA gInt (aCons (eVar 5) aNil)) (eVar 1)))
 (sRet (eOp gMod (eA gInt (aCons (eVar 5) aNil)) (eVar 1))))) sPass) dMix)
theorem draw_parts : d__law_draw = (sSeq (Sim.sIf (Sim.tCmp gGt (eOp gIx (eVar 0) (eC (.int 2))) (eC (.int 0))) (sSeq (sAsg 2 (eOp gMod (eA gInt (aCons (eOp gIx (eVar 0) (eC (.int 2))) aNil)) (eVar 1)))
 (sSeq (sSet (eVar 0) (eC (.int 2)) (eOp gFdiv (eA gInt (aCons (eOp gIx (eVar 0) (eC (.int 2))) aNil)) (eVar 1)))
 (sRet (eVar 2)))) sPass)
 (sSeq (sAsg 3 (eOp gIx (eVar 0) (eC (.int 1))))
 (sSeq (sSet (eVar 0) (eC (.int 1)) (eOp gAdd (eVar 3) (eC (.int 1))))
 (sSeq (sAsg 4 (eIf (Sim.tCmp gEq (eOp gIx (eVar 0) (eC (.int 0))) (eA gLst aNil)) (eOp gAdd (eOp gMulS (eC (.int 60649)) (eVar 3)) (eC (.int 811))) (eOp gIx (eOp gIx (eVar 0) (eC (.int 0))) (eOp gMod (eA gInt (aCons (eVar 3) aNil)) (eA gLen (aCons (eOp gIx (eVar 0) (eC (.int 0))) aNil))))))
 dBig)))) := rfl
section
variable {cells : List Int} {k : Nat} {α β : Type} {t r : Int}
/-- the mixing -/
theorem mix_vs {many n : Int} {o1 o2 o5 o6 : Option D} (h0 : 0 < many) (h1 : many < 1073741824) (ht : 0 ≤ t) (ht2 : t < 1000000) (hr : 0 ≤ r) :
    Vs cells k (t + 1) r (sM dMix [o1, some (.int many), o2, some (.int t), some (.int n), o5, o6]) fun x t' r' => (∃ d, x = .inr ((.int d)) ∧ 0 ≤ d ∧ d < many) ∧ 0 ≤ t' ∧ t' ≤ t + 1 ∧ 0 ≤ r' := by
  have hm : many ≠ 0 := by omega
  have x_mod' : ∀ i : Int, M.of (gMod ((.int i)) ((.int many))) = M.ret ((.int (i.fmod many))) := fun i => x_mod hm
  unfold dMix
  try simp -implicitDefEqProofs only [Sim.sM_pass, Sim.sM_seq, Sim.sM_asg, Sim.sM_ret, Sim.sM_expr, Sim.sM_if, Sim.sM_par, Sim.sM_asgT, Sim.sM_set, Sim.ret_bind, Sim.bind_assoc, Sim.x_var0, Sim.x_varS, Sim.x_C, Sim.x_op, Sim.x_un, Sim.x_A, Sim.x_nil, Sim.x_cons, Sim.x_call, Sim.x_and, Sim.x_or, Sim.x_not, Sim.x_if, Sim.x_tV, Sim.x_tCmp, Sim.x_tTru, Sim.x_tNot, Sim.x_tAnd, Sim.x_tOr, Sim.x_asB, Sim.x_sl, Sim.x_oNone, Sim.x_oSome, Sim.x_asI, Sim.x_trN, Sim.x_trB, Sim.x_trI, Sim.x_trL, Sim.x_trR, Sim.x_trT, Sim.x_add, Sim.x_sub, Sim.x_neg, Sim.x_lt, Sim.x_le, Sim.x_gt, Sim.x_ge, Sim.x_abs, Sim.x_max2, Sim.x_min2, Sim.x_intI, Sim.x_intB, Sim.x_eqI, Sim.x_neI, Sim.x_eqS, Sim.x_neS, Sim.x_lst, Sim.x_tup, Sim.x_lenL, Sim.x_lenT, Sim.x_lenR, Sim.x_tupleL, Sim.x_listL, Sim.x_listT, Sim.x_slL, Sim.x_slR, Sim.x_slT, Sim.callM, Sim.arrOf, List.filterMap_cons, List.filterMap_nil, List.getElem?_cons_zero, List.getElem?_cons_succ, List.cons_append, List.nil_append, List.append_nil, List.length_cons, List.length_nil, and_self, if_true, List.set_cons_zero, List.set_cons_succ, Bool.false_eq_true, if_false, Nat.reduceAdd, Nat.reduceSub, List.map_cons, List.map_nil, List.replicate_succ, List.replicate_zero, Bool.not_true, Bool.not_false, Sim.x_sized, Nat.reduceLeDiff, Nat.zero_add]
  rw [x_mod (by decide)]
  have q1 : M.of (gMulS ((.int 52361)) ((.int t))) = M.ret ((.int (52361 * t))) := x_mulS (mulOk_small (by decide))
  have m1 := fmod_lt (a := n) (b := 2147483563) (by decide)
  generalize n.fmod 2147483563 = a1 at m1 ⊢
  try simp -implicitDefEqProofs only [q1, Sim.sM_pass, Sim.sM_seq, Sim.sM_asg, Sim.sM_ret, Sim.sM_expr, Sim.sM_if, Sim.sM_par, Sim.sM_asgT, Sim.sM_set, Sim.ret_bind, Sim.bind_assoc, Sim.x_var0, Sim.x_varS, Sim.x_C, Sim.x_op, Sim.x_un, Sim.x_A, Sim.x_nil, Sim.x_cons, Sim.x_call, Sim.x_and, Sim.x_or, Sim.x_not, Sim.x_if, Sim.x_tV, Sim.x_tCmp, Sim.x_tTru, Sim.x_tNot, Sim.x_tAnd, Sim.x_tOr, Sim.x_asB, Sim.x_sl, Sim.x_oNone, Sim.x_oSome, Sim.x_asI, Sim.x_trN, Sim.x_trB, Sim.x_trI, Sim.x_trL, Sim.x_trR, Sim.x_trT, Sim.x_add, Sim.x_sub, Sim.x_neg, Sim.x_lt, Sim.x_le, Sim.x_gt, Sim.x_ge, Sim.x_abs, Sim.x_max2, Sim.x_min2, Sim.x_intI, Sim.x_intB, Sim.x_eqI, Sim.x_neI, Sim.x_eqS, Sim.x_neS, Sim.x_lst, Sim.x_tup, Sim.x_lenL, Sim.x_lenT, Sim.x_lenR, Sim.x_tupleL, Sim.x_listL, Sim.x_listT, Sim.x_slL, Sim.x_slR, Sim.x_slT, Sim.callM, Sim.arrOf, List.filterMap_cons, List.filterMap_nil, List.getElem?_cons_zero, List.getElem?_cons_succ, List.cons_append, List.nil_append, List.append_nil, List.length_cons, List.length_nil, and_self, if_true, List.set_cons_zero, List.set_cons_succ, Bool.false_eq_true, if_false, Nat.reduceAdd, Nat.reduceSub, List.map_cons, List.map_nil, List.replicate_succ, List.replicate_zero, Bool.not_true, Bool.not_false, Sim.x_sized, Nat.reduceLeDiff, Nat.zero_add]
  rw [x_pow (by omega)]
  try simp -implicitDefEqProofs only [Sim.sM_pass, Sim.sM_seq, Sim.sM_asg, Sim.sM_ret, Sim.sM_expr, Sim.sM_if, Sim.sM_par, Sim.sM_asgT, Sim.sM_set, Sim.ret_bind, Sim.bind_assoc, Sim.x_var0, Sim.x_varS, Sim.x_C, Sim.x_op, Sim.x_un, Sim.x_A, Sim.x_nil, Sim.x_cons, Sim.x_call, Sim.x_and, Sim.x_or, Sim.x_not, Sim.x_if, Sim.x_tV, Sim.x_tCmp, Sim.x_tTru, Sim.x_tNot, Sim.x_tAnd, Sim.x_tOr, Sim.x_asB, Sim.x_sl, Sim.x_oNone, Sim.x_oSome, Sim.x_asI, Sim.x_trN, Sim.x_trB, Sim.x_trI, Sim.x_trL, Sim.x_trR, Sim.x_trT, Sim.x_add, Sim.x_sub, Sim.x_neg, Sim.x_lt, Sim.x_le, Sim.x_gt, Sim.x_ge, Sim.x_abs, Sim.x_max2, Sim.x_min2, Sim.x_intI, Sim.x_intB, Sim.x_eqI, Sim.x_neI, Sim.x_eqS, Sim.x_neS, Sim.x_lst, Sim.x_tup, Sim.x_lenL, Sim.x_lenT, Sim.x_lenR, Sim.x_tupleL, Sim.x_listL, Sim.x_listT, Sim.x_slL, Sim.x_slR, Sim.x_slT, Sim.callM, Sim.arrOf, List.filterMap_cons, List.filterMap_nil, List.getElem?_cons_zero, List.getElem?_cons_succ, List.cons_append, List.nil_append, List.append_nil, List.length_cons, List.length_nil, and_self, if_true, List.set_cons_zero, List.set_cons_succ, Bool.false_eq_true, if_false, Nat.reduceAdd, Nat.reduceSub, List.map_cons, List.map_nil, List.replicate_succ, List.replicate_zero, Bool.not_true, Bool.not_false, Sim.x_sized, Nat.reduceLeDiff, Nat.zero_add]
  rw [x_mod (by decide)]
  generalize (a1 + 52361 * t + 4519) ^ (3 : Int).toNat = a2
  have m2 := fmod_lt (a := a2) (b := 2147483647) (by decide)
  generalize a2.fmod 2147483647 = a3 at m2 ⊢
  have q2 : M.of (gMulS ((.int 2)) ((.int t))) = M.ret ((.int (2 * t))) := x_mulS (mulOk_small (by decide))
  have q3 : M.of (gMulS ((.int a3)) ((.int (2 * t + 313)))) = M.ret ((.int (a3 * (2 * t + 313)))) := x_mulS (mulOk_small (by omega))
  have q4 : M.of (gMulS ((.int 977)) ((.int t))) = M.ret ((.int (977 * t))) := x_mulS (mulOk_small (by decide))
  have q5 : M.of (gMulS ((.int (977 * t))) ((.int t))) = M.ret ((.int (977 * t * t))) := x_mulS (mulOk_small (by omega))
  try simp -implicitDefEqProofs only [q2, q3, q4, q5, Sim.sM_pass, Sim.sM_seq, Sim.sM_asg, Sim.sM_ret, Sim.sM_expr, Sim.sM_if, Sim.sM_par, Sim.sM_asgT, Sim.sM_set, Sim.ret_bind, Sim.bind_assoc, Sim.x_var0, Sim.x_varS, Sim.x_C, Sim.x_op, Sim.x_un, Sim.x_A, Sim.x_nil, Sim.x_cons, Sim.x_call, Sim.x_and, Sim.x_or, Sim.x_not, Sim.x_if, Sim.x_tV, Sim.x_tCmp, Sim.x_tTru, Sim.x_tNot, Sim.x_tAnd, Sim.x_tOr, Sim.x_asB, Sim.x_sl, Sim.x_oNone, Sim.x_oSome, Sim.x_asI, Sim.x_trN, Sim.x_trB, Sim.x_trI, Sim.x_trL, Sim.x_trR, Sim.x_trT, Sim.x_add, Sim.x_sub, Sim.x_neg, Sim.x_lt, Sim.x_le, Sim.x_gt, Sim.x_ge, Sim.x_abs, Sim.x_max2, Sim.x_min2, Sim.x_intI, Sim.x_intB, Sim.x_eqI, Sim.x_neI, Sim.x_eqS, Sim.x_neS, Sim.x_lst, Sim.x_tup, Sim.x_lenL, Sim.x_lenT, Sim.x_lenR, Sim.x_tupleL, Sim.x_listL, Sim.x_listT, Sim.x_slL, Sim.x_slR, Sim.x_slT, Sim.callM, Sim.arrOf, List.filterMap_cons, List.filterMap_nil, List.getElem?_cons_zero, List.getElem?_cons_succ, List.cons_append, List.nil_append, List.append_nil, List.length_cons, List.length_nil, and_self, if_true, List.set_cons_zero, List.set_cons_succ, Bool.false_eq_true, if_false, Nat.reduceAdd, Nat.reduceSub, List.map_cons, List.map_nil, List.replicate_succ, List.replicate_zero, Bool.not_true, Bool.not_false, Sim.x_sized, Nat.reduceLeDiff, Nat.zero_add]
  have b1 : 0 ≤ a3 * (2 * t + 313) := Int.mul_nonneg m2.1 (by omega)
  have b2 : a3 * (2 * t + 313) ≤ 2147483647 * 2000313 := Int.le_trans (Int.mul_le_mul_of_nonneg_right (Int.le_of_lt m2.2) (by omega)) (Int.mul_le_mul_of_nonneg_left (by omega) (by decide))
  have b3 : 0 ≤ 977 * t * t := Int.mul_nonneg (by omega) ht
  have b4 : 977 * t * t ≤ 977000000 * 1000000 := Int.le_trans (Int.mul_le_mul_of_nonneg_right (by omega) ht) (Int.mul_le_mul_of_nonneg_left (by omega) (by decide))
  rw [x_pow (by omega)]
  try simp -implicitDefEqProofs only [Sim.sM_pass, Sim.sM_seq, Sim.sM_asg, Sim.sM_ret, Sim.sM_expr, Sim.sM_if, Sim.sM_par, Sim.sM_asgT, Sim.sM_set, Sim.ret_bind, Sim.bind_assoc, Sim.x_var0, Sim.x_varS, Sim.x_C, Sim.x_op, Sim.x_un, Sim.x_A, Sim.x_nil, Sim.x_cons, Sim.x_call, Sim.x_and, Sim.x_or, Sim.x_not, Sim.x_if, Sim.x_tV, Sim.x_tCmp, Sim.x_tTru, Sim.x_tNot, Sim.x_tAnd, Sim.x_tOr, Sim.x_asB, Sim.x_sl, Sim.x_oNone, Sim.x_oSome, Sim.x_asI, Sim.x_trN, Sim.x_trB, Sim.x_trI, Sim.x_trL, Sim.x_trR, Sim.x_trT, Sim.x_add, Sim.x_sub, Sim.x_neg, Sim.x_lt, Sim.x_le, Sim.x_gt, Sim.x_ge, Sim.x_abs, Sim.x_max2, Sim.x_min2, Sim.x_intI, Sim.x_intB, Sim.x_eqI, Sim.x_neI, Sim.x_eqS, Sim.x_neS, Sim.x_lst, Sim.x_tup, Sim.x_lenL, Sim.x_lenT, Sim.x_lenR, Sim.x_tupleL, Sim.x_listL, Sim.x_listT, Sim.x_slL, Sim.x_slR, Sim.x_slT, Sim.callM, Sim.arrOf, List.filterMap_cons, List.filterMap_nil, List.getElem?_cons_zero, List.getElem?_cons_succ, List.cons_append, List.nil_append, List.append_nil, List.length_cons, List.length_nil, and_self, if_true, List.set_cons_zero, List.set_cons_succ, Bool.false_eq_true, if_false, Nat.reduceAdd, Nat.reduceSub, List.map_cons, List.map_nil, List.replicate_succ, List.replicate_zero, Bool.not_true, Bool.not_false, Sim.x_sized, Nat.reduceLeDiff, Nat.zero_add]
  rw [x_mod (by decide)]
  try simp -implicitDefEqProofs only [Sim.sM_pass, Sim.sM_seq, Sim.sM_asg, Sim.sM_ret, Sim.sM_expr, Sim.sM_if, Sim.sM_par, Sim.sM_asgT, Sim.sM_set, Sim.ret_bind, Sim.bind_assoc, Sim.x_var0, Sim.x_varS, Sim.x_C, Sim.x_op, Sim.x_un, Sim.x_A, Sim.x_nil, Sim.x_cons, Sim.x_call, Sim.x_and, Sim.x_or, Sim.x_not, Sim.x_if, Sim.x_tV, Sim.x_tCmp, Sim.x_tTru, Sim.x_tNot, Sim.x_tAnd, Sim.x_tOr, Sim.x_asB, Sim.x_sl, Sim.x_oNone, Sim.x_oSome, Sim.x_asI, Sim.x_trN, Sim.x_trB, Sim.x_trI, Sim.x_trL, Sim.x_trR, Sim.x_trT, Sim.x_add, Sim.x_sub, Sim.x_neg, Sim.x_lt, Sim.x_le, Sim.x_gt, Sim.x_ge, Sim.x_abs, Sim.x_max2, Sim.x_min2, Sim.x_intI, Sim.x_intB, Sim.x_eqI, Sim.x_neI, Sim.x_eqS, Sim.x_neS, Sim.x_lst, Sim.x_tup, Sim.x_lenL, Sim.x_lenT, Sim.x_lenR, Sim.x_tupleL, Sim.x_listL, Sim.x_listT, Sim.x_slL, Sim.x_slR, Sim.x_slT, Sim.callM, Sim.arrOf, List.filterMap_cons, List.filterMap_nil, List.getElem?_cons_zero, List.getElem?_cons_succ, List.cons_append, List.nil_append, List.append_nil, List.length_cons, List.length_nil, and_self, if_true, List.set_cons_zero, List.set_cons_succ, Bool.false_eq_true, if_false, Nat.reduceAdd, Nat.reduceSub, List.map_cons, List.map_nil, List.replicate_succ, List.replicate_zero, Bool.not_true, Bool.not_false, Sim.x_sized, Nat.reduceLeDiff, Nat.zero_add]
  rw [x_fdiv (by decide)]
  try simp -implicitDefEqProofs only [x_mod', Sim.sM_pass, Sim.sM_seq, Sim.sM_asg, Sim.sM_ret, Sim.sM_expr, Sim.sM_if, Sim.sM_par, Sim.sM_asgT, Sim.sM_set, Sim.ret_bind, Sim.bind_assoc, Sim.x_var0, Sim.x_varS, Sim.x_C, Sim.x_op, Sim.x_un, Sim.x_A, Sim.x_nil, Sim.x_cons, Sim.x_call, Sim.x_and, Sim.x_or, Sim.x_not, Sim.x_if, Sim.x_tV, Sim.x_tCmp, Sim.x_tTru, Sim.x_tNot, Sim.x_tAnd, Sim.x_tOr, Sim.x_asB, Sim.x_sl, Sim.x_oNone, Sim.x_oSome, Sim.x_asI, Sim.x_trN, Sim.x_trB, Sim.x_trI, Sim.x_trL, Sim.x_trR, Sim.x_trT, Sim.x_add, Sim.x_sub, Sim.x_neg, Sim.x_lt, Sim.x_le, Sim.x_gt, Sim.x_ge, Sim.x_abs, Sim.x_max2, Sim.x_min2, Sim.x_intI, Sim.x_intB, Sim.x_eqI, Sim.x_neI, Sim.x_eqS, Sim.x_neS, Sim.x_lst, Sim.x_tup, Sim.x_lenL, Sim.x_lenT, Sim.x_lenR, Sim.x_tupleL, Sim.x_listL, Sim.x_listT, Sim.x_slL, Sim.x_slR, Sim.x_slT, Sim.callM, Sim.arrOf, List.filterMap_cons, List.filterMap_nil, List.getElem?_cons_zero, List.getElem?_cons_succ, List.cons_append, List.nil_append, List.append_nil, List.length_cons, List.length_nil, and_self, if_true, List.set_cons_zero, List.set_cons_succ, Bool.false_eq_true, if_false, Nat.reduceAdd, Nat.reduceSub, List.map_cons, List.map_nil, List.replicate_succ, List.replicate_zero, Bool.not_true, Bool.not_false, Sim.x_sized, Nat.reduceLeDiff, Nat.zero_add]
  exact Vs.ret ⟨⟨_, rfl, (fmod_lt h0).1, (fmod_lt h0).2⟩, by omega, by omega, hr⟩
theorem big_vs {many n : Int} {o2 o5 o6 : Option D} (h0 : 0 < many) (h1 : many < 1073741824) (ht : 0 ≤ t) (ht2 : t < 1000000) (hr : 0 ≤ r) :
    Vs cells k (t + 1) r (sM dBig [some (.cl k), some (.int many), o2, some (.int t), some (.int n), o5, o6]) fun x t' r' => (∃ d, x = .inr ((.int d)) ∧ 0 ≤ d ∧ d < many) ∧ 0 ≤ t' ∧ t' ≤ t + 1 ∧ 0 ≤ r' := by
  have hm : many ≠ 0 := by omega
  have hd := divOk_small h0 h1
  have x_mod' : ∀ i : Int, M.of (gMod ((.int i)) ((.int many))) = M.ret ((.int (i.fmod many))) := fun i => x_mod hm
  have x_div' : ∀ i : Int, M.of (gFdiv ((.int i)) ((.int many))) = M.ret ((.int (i.fdiv many))) := fun i => x_fdiv hd
  have h18 : M.of (gPow ((.int 10)) ((.int 18))) = M.ret ((.int (10 ^ 18))) := x_pow (by decide)
  have hif : ∀ (p q : Bool), (if p = true then M.ret q else M.ret false) = M.ret (p && q) := fun p q => by cases p <;> rfl
  unfold dBig
  try simp -implicitDefEqProofs only [h18, Sim.sM_pass, Sim.sM_seq, Sim.sM_asg, Sim.sM_ret, Sim.sM_expr, Sim.sM_if, Sim.sM_par, Sim.sM_asgT, Sim.sM_set, Sim.ret_bind, Sim.bind_assoc, Sim.x_var0, Sim.x_varS, Sim.x_C, Sim.x_op, Sim.x_un, Sim.x_A, Sim.x_nil, Sim.x_cons, Sim.x_call, Sim.x_and, Sim.x_or, Sim.x_not, Sim.x_if, Sim.x_tV, Sim.x_tCmp, Sim.x_tTru, Sim.x_tNot, Sim.x_tAnd, Sim.x_tOr, Sim.x_asB, Sim.x_sl, Sim.x_oNone, Sim.x_oSome, Sim.x_asI, Sim.x_trN, Sim.x_trB, Sim.x_trI, Sim.x_trL, Sim.x_trR, Sim.x_trT, Sim.x_add, Sim.x_sub, Sim.x_neg, Sim.x_lt, Sim.x_le, Sim.x_gt, Sim.x_ge, Sim.x_abs, Sim.x_max2, Sim.x_min2, Sim.x_intI, Sim.x_intB, Sim.x_eqI, Sim.x_neI, Sim.x_eqS, Sim.x_neS, Sim.x_lst, Sim.x_tup, Sim.x_lenL, Sim.x_lenT, Sim.x_lenR, Sim.x_tupleL, Sim.x_listL, Sim.x_listT, Sim.x_slL, Sim.x_slR, Sim.x_slT, Sim.callM, Sim.arrOf, List.filterMap_cons, List.filterMap_nil, List.getElem?_cons_zero, List.getElem?_cons_succ, List.cons_append, List.nil_append, List.append_nil, List.length_cons, List.length_nil, and_self, if_true, List.set_cons_zero, List.set_cons_succ, Bool.false_eq_true, if_false, Nat.reduceAdd, Nat.reduceSub, List.map_cons, List.map_nil, List.replicate_succ, List.replicate_zero, Bool.not_true, Bool.not_false, Sim.x_sized, Nat.reduceLeDiff, Nat.zero_add]
  refine Vs.ix0 ?_
  try simp -implicitDefEqProofs only [h18, Sim.sM_pass, Sim.sM_seq, Sim.sM_asg, Sim.sM_ret, Sim.sM_expr, Sim.sM_if, Sim.sM_par, Sim.sM_asgT, Sim.sM_set, Sim.ret_bind, Sim.bind_assoc, Sim.x_var0, Sim.x_varS, Sim.x_C, Sim.x_op, Sim.x_un, Sim.x_A, Sim.x_nil, Sim.x_cons, Sim.x_call, Sim.x_and, Sim.x_or, Sim.x_not, Sim.x_if, Sim.x_tV, Sim.x_tCmp, Sim.x_tTru, Sim.x_tNot, Sim.x_tAnd, Sim.x_tOr, Sim.x_asB, Sim.x_sl, Sim.x_oNone, Sim.x_oSome, Sim.x_asI, Sim.x_trN, Sim.x_trB, Sim.x_trI, Sim.x_trL, Sim.x_trR, Sim.x_trT, Sim.x_add, Sim.x_sub, Sim.x_neg, Sim.x_lt, Sim.x_le, Sim.x_gt, Sim.x_ge, Sim.x_abs, Sim.x_max2, Sim.x_min2, Sim.x_intI, Sim.x_intB, Sim.x_eqI, Sim.x_neI, Sim.x_eqS, Sim.x_neS, Sim.x_lst, Sim.x_tup, Sim.x_lenL, Sim.x_lenT, Sim.x_lenR, Sim.x_tupleL, Sim.x_listL, Sim.x_listT, Sim.x_slL, Sim.x_slR, Sim.x_slT, Sim.callM, Sim.arrOf, List.filterMap_cons, List.filterMap_nil, List.getElem?_cons_zero, List.getElem?_cons_succ, List.cons_append, List.nil_append, List.append_nil, List.length_cons, List.length_nil, and_self, if_true, List.set_cons_zero, List.set_cons_succ, Bool.false_eq_true, if_false, Nat.reduceAdd, Nat.reduceSub, List.map_cons, List.map_nil, List.replicate_succ, List.replicate_zero, Bool.not_true, Bool.not_false, Sim.x_sized, Nat.reduceLeDiff, Nat.zero_add, List.length_map]
  rw [hif, ret_bind]
  have hnn : 0 ≤ (if n < 0 then -n else n) := by split <;> omega
  generalize hab : (if n < 0 then -n else n) = ab at hnn ⊢
  cases hbig : (decide (t < (cells.length : Int)) && decide (10 ^ 18 < ab)) with
  | true =>
    rw [Bool.and_eq_true, decide_eq_true_eq, decide_eq_true_eq] at hbig
    try simp -implicitDefEqProofs only [h18, x_div', hab, Sim.sM_pass, Sim.sM_seq, Sim.sM_asg, Sim.sM_ret, Sim.sM_expr, Sim.sM_if, Sim.sM_par, Sim.sM_asgT, Sim.sM_set, Sim.ret_bind, Sim.bind_assoc, Sim.x_var0, Sim.x_varS, Sim.x_C, Sim.x_op, Sim.x_un, Sim.x_A, Sim.x_nil, Sim.x_cons, Sim.x_call, Sim.x_and, Sim.x_or, Sim.x_not, Sim.x_if, Sim.x_tV, Sim.x_tCmp, Sim.x_tTru, Sim.x_tNot, Sim.x_tAnd, Sim.x_tOr, Sim.x_asB, Sim.x_sl, Sim.x_oNone, Sim.x_oSome, Sim.x_asI, Sim.x_trN, Sim.x_trB, Sim.x_trI, Sim.x_trL, Sim.x_trR, Sim.x_trT, Sim.x_add, Sim.x_sub, Sim.x_neg, Sim.x_lt, Sim.x_le, Sim.x_gt, Sim.x_ge, Sim.x_abs, Sim.x_max2, Sim.x_min2, Sim.x_intI, Sim.x_intB, Sim.x_eqI, Sim.x_neI, Sim.x_eqS, Sim.x_neS, Sim.x_lst, Sim.x_tup, Sim.x_lenL, Sim.x_lenT, Sim.x_lenR, Sim.x_tupleL, Sim.x_listL, Sim.x_listT, Sim.x_slL, Sim.x_slR, Sim.x_slT, Sim.callM, Sim.arrOf, List.filterMap_cons, List.filterMap_nil, List.getElem?_cons_zero, List.getElem?_cons_succ, List.cons_append, List.nil_append, List.append_nil, List.length_cons, List.length_nil, and_self, if_true, List.set_cons_zero, List.set_cons_succ, Bool.false_eq_true, if_false, Nat.reduceAdd, Nat.reduceSub, List.map_cons, List.map_nil, List.replicate_succ, List.replicate_zero, Bool.not_true, Bool.not_false, Sim.x_sized, Nat.reduceLeDiff, Nat.zero_add]
    refine Vs.set2 ?_
    try simp -implicitDefEqProofs only [x_mod', Sim.sM_pass, Sim.sM_seq, Sim.sM_asg, Sim.sM_ret, Sim.sM_expr, Sim.sM_if, Sim.sM_par, Sim.sM_asgT, Sim.sM_set, Sim.ret_bind, Sim.bind_assoc, Sim.x_var0, Sim.x_varS, Sim.x_C, Sim.x_op, Sim.x_un, Sim.x_A, Sim.x_nil, Sim.x_cons, Sim.x_call, Sim.x_and, Sim.x_or, Sim.x_not, Sim.x_if, Sim.x_tV, Sim.x_tCmp, Sim.x_tTru, Sim.x_tNot, Sim.x_tAnd, Sim.x_tOr, Sim.x_asB, Sim.x_sl, Sim.x_oNone, Sim.x_oSome, Sim.x_asI, Sim.x_trN, Sim.x_trB, Sim.x_trI, Sim.x_trL, Sim.x_trR, Sim.x_trT, Sim.x_add, Sim.x_sub, Sim.x_neg, Sim.x_lt, Sim.x_le, Sim.x_gt, Sim.x_ge, Sim.x_abs, Sim.x_max2, Sim.x_min2, Sim.x_intI, Sim.x_intB, Sim.x_eqI, Sim.x_neI, Sim.x_eqS, Sim.x_neS, Sim.x_lst, Sim.x_tup, Sim.x_lenL, Sim.x_lenT, Sim.x_lenR, Sim.x_tupleL, Sim.x_listL, Sim.x_listT, Sim.x_slL, Sim.x_slR, Sim.x_slT, Sim.callM, Sim.arrOf, List.filterMap_cons, List.filterMap_nil, List.getElem?_cons_zero, List.getElem?_cons_succ, List.cons_append, List.nil_append, List.append_nil, List.length_cons, List.length_nil, and_self, if_true, List.set_cons_zero, List.set_cons_succ, Bool.false_eq_true, if_false, Nat.reduceAdd, Nat.reduceSub, List.map_cons, List.map_nil, List.replicate_succ, List.replicate_zero, Bool.not_true, Bool.not_false, Sim.x_sized, Nat.reduceLeDiff, Nat.zero_add]
    exact Vs.ret ⟨⟨_, rfl, (fmod_lt h0).1, (fmod_lt h0).2⟩, by omega, by omega, fdiv_nn (by omega) h0⟩
  | false =>
    try simp -implicitDefEqProofs only [Sim.sM_pass, Sim.sM_seq, Sim.sM_asg, Sim.sM_ret, Sim.sM_expr, Sim.sM_if, Sim.sM_par, Sim.sM_asgT, Sim.sM_set, Sim.ret_bind, Sim.bind_assoc, Sim.x_var0, Sim.x_varS, Sim.x_C, Sim.x_op, Sim.x_un, Sim.x_A, Sim.x_nil, Sim.x_cons, Sim.x_call, Sim.x_and, Sim.x_or, Sim.x_not, Sim.x_if, Sim.x_tV, Sim.x_tCmp, Sim.x_tTru, Sim.x_tNot, Sim.x_tAnd, Sim.x_tOr, Sim.x_asB, Sim.x_sl, Sim.x_oNone, Sim.x_oSome, Sim.x_asI, Sim.x_trN, Sim.x_trB, Sim.x_trI, Sim.x_trL, Sim.x_trR, Sim.x_trT, Sim.x_add, Sim.x_sub, Sim.x_neg, Sim.x_lt, Sim.x_le, Sim.x_gt, Sim.x_ge, Sim.x_abs, Sim.x_max2, Sim.x_min2, Sim.x_intI, Sim.x_intB, Sim.x_eqI, Sim.x_neI, Sim.x_eqS, Sim.x_neS, Sim.x_lst, Sim.x_tup, Sim.x_lenL, Sim.x_lenT, Sim.x_lenR, Sim.x_tupleL, Sim.x_listL, Sim.x_listT, Sim.x_slL, Sim.x_slR, Sim.x_slT, Sim.callM, Sim.arrOf, List.filterMap_cons, List.filterMap_nil, List.getElem?_cons_zero, List.getElem?_cons_succ, List.cons_append, List.nil_append, List.append_nil, List.length_cons, List.length_nil, and_self, if_true, List.set_cons_zero, List.set_cons_succ, Bool.false_eq_true, if_false, Nat.reduceAdd, Nat.reduceSub, List.map_cons, List.map_nil, List.replicate_succ, List.replicate_zero, Bool.not_true, Bool.not_false, Sim.x_sized, Nat.reduceLeDiff, Nat.zero_add]
    exact mix_vs h0 h1 ht ht2 hr
theorem draw_vs {many : Int} (h0 : 0 < many) (h1 : many < 1073741824) (ht : 0 ≤ t) (ht2 : t < 1000000) (hr : 0 ≤ r) :
    Vs cells k t r (sM d__law_draw [some (.cl k), some ((.int many)), none, none, none, none, none]) fun x t' r' => (∃ d, x = .inr ((.int d)) ∧ 0 ≤ d ∧ d < many) ∧ 0 ≤ t' ∧ t' ≤ t + 1 ∧ 0 ≤ r' := by
  have hm : many ≠ 0 := by omega
  have hd := divOk_small h0 h1
  have x_mod' : ∀ i : Int, M.of (gMod ((.int i)) ((.int many))) = M.ret ((.int (i.fmod many))) := fun i => x_mod hm
  have x_div' : ∀ i : Int, M.of (gFdiv ((.int i)) ((.int many))) = M.ret ((.int (i.fdiv many))) := fun i => x_fdiv hd
  rw [draw_parts]
  try simp -implicitDefEqProofs only [Sim.sM_pass, Sim.sM_seq, Sim.sM_asg, Sim.sM_ret, Sim.sM_expr, Sim.sM_if, Sim.sM_par, Sim.sM_asgT, Sim.sM_set, Sim.ret_bind, Sim.bind_assoc, Sim.x_var0, Sim.x_varS, Sim.x_C, Sim.x_op, Sim.x_un, Sim.x_A, Sim.x_nil, Sim.x_cons, Sim.x_call, Sim.x_and, Sim.x_or, Sim.x_not, Sim.x_if, Sim.x_tV, Sim.x_tCmp, Sim.x_tTru, Sim.x_tNot, Sim.x_tAnd, Sim.x_tOr, Sim.x_asB, Sim.x_sl, Sim.x_oNone, Sim.x_oSome, Sim.x_asI, Sim.x_trN, Sim.x_trB, Sim.x_trI, Sim.x_trL, Sim.x_trR, Sim.x_trT, Sim.x_add, Sim.x_sub, Sim.x_neg, Sim.x_lt, Sim.x_le, Sim.x_gt, Sim.x_ge, Sim.x_abs, Sim.x_max2, Sim.x_min2, Sim.x_intI, Sim.x_intB, Sim.x_eqI, Sim.x_neI, Sim.x_eqS, Sim.x_neS, Sim.x_lst, Sim.x_tup, Sim.x_lenL, Sim.x_lenT, Sim.x_lenR, Sim.x_tupleL, Sim.x_listL, Sim.x_listT, Sim.x_slL, Sim.x_slR, Sim.x_slT, Sim.callM, Sim.arrOf, List.filterMap_cons, List.filterMap_nil, List.getElem?_cons_zero, List.getElem?_cons_succ, List.cons_append, List.nil_append, List.append_nil, List.length_cons, List.length_nil, and_self, if_true, List.set_cons_zero, List.set_cons_succ, Bool.false_eq_true, if_false, Nat.reduceAdd, Nat.reduceSub, List.map_cons, List.map_nil, List.replicate_succ, List.replicate_zero, Bool.not_true, Bool.not_false, Sim.x_sized, Nat.reduceLeDiff, Nat.zero_add]
  refine Vs.ix2 ?_
  try simp -implicitDefEqProofs only [Sim.sM_pass, Sim.sM_seq, Sim.sM_asg, Sim.sM_ret, Sim.sM_expr, Sim.sM_if, Sim.sM_par, Sim.sM_asgT, Sim.sM_set, Sim.ret_bind, Sim.bind_assoc, Sim.x_var0, Sim.x_varS, Sim.x_C, Sim.x_op, Sim.x_un, Sim.x_A, Sim.x_nil, Sim.x_cons, Sim.x_call, Sim.x_and, Sim.x_or, Sim.x_not, Sim.x_if, Sim.x_tV, Sim.x_tCmp, Sim.x_tTru, Sim.x_tNot, Sim.x_tAnd, Sim.x_tOr, Sim.x_asB, Sim.x_sl, Sim.x_oNone, Sim.x_oSome, Sim.x_asI, Sim.x_trN, Sim.x_trB, Sim.x_trI, Sim.x_trL, Sim.x_trR, Sim.x_trT, Sim.x_add, Sim.x_sub, Sim.x_neg, Sim.x_lt, Sim.x_le, Sim.x_gt, Sim.x_ge, Sim.x_abs, Sim.x_max2, Sim.x_min2, Sim.x_intI, Sim.x_intB, Sim.x_eqI, Sim.x_neI, Sim.x_eqS, Sim.x_neS, Sim.x_lst, Sim.x_tup, Sim.x_lenL, Sim.x_lenT, Sim.x_lenR, Sim.x_tupleL, Sim.x_listL, Sim.x_listT, Sim.x_slL, Sim.x_slR, Sim.x_slT, Sim.callM, Sim.arrOf, List.filterMap_cons, List.filterMap_nil, List.getElem?_cons_zero, List.getElem?_cons_succ, List.cons_append, List.nil_append, List.append_nil, List.length_cons, List.length_nil, and_self, if_true, List.set_cons_zero, List.set_cons_succ, Bool.false_eq_true, if_false, Nat.reduceAdd, Nat.reduceSub, List.map_cons, List.map_nil, List.replicate_succ, List.replicate_zero, Bool.not_true, Bool.not_false, Sim.x_sized, Nat.reduceLeDiff, Nat.zero_add]
  by_cases hr0 : 0 < r
  · try simp -implicitDefEqProofs only [hr0, decide_true, Sim.sM_pass, Sim.sM_seq, Sim.sM_asg, Sim.sM_ret, Sim.sM_expr, Sim.sM_if, Sim.sM_par, Sim.sM_asgT, Sim.sM_set, Sim.ret_bind, Sim.bind_assoc, Sim.x_var0, Sim.x_varS, Sim.x_C, Sim.x_op, Sim.x_un, Sim.x_A, Sim.x_nil, Sim.x_cons, Sim.x_call, Sim.x_and, Sim.x_or, Sim.x_not, Sim.x_if, Sim.x_tV, Sim.x_tCmp, Sim.x_tTru, Sim.x_tNot, Sim.x_tAnd, Sim.x_tOr, Sim.x_asB, Sim.x_sl, Sim.x_oNone, Sim.x_oSome, Sim.x_asI, Sim.x_trN, Sim.x_trB, Sim.x_trI, Sim.x_trL, Sim.x_trR, Sim.x_trT, Sim.x_add, Sim.x_sub, Sim.x_neg, Sim.x_lt, Sim.x_le, Sim.x_gt, Sim.x_ge, Sim.x_abs, Sim.x_max2, Sim.x_min2, Sim.x_intI, Sim.x_intB, Sim.x_eqI, Sim.x_neI, Sim.x_eqS, Sim.x_neS, Sim.x_lst, Sim.x_tup, Sim.x_lenL, Sim.x_lenT, Sim.x_lenR, Sim.x_tupleL, Sim.x_listL, Sim.x_listT, Sim.x_slL, Sim.x_slR, Sim.x_slT, Sim.callM, Sim.arrOf, List.filterMap_cons, List.filterMap_nil, List.getElem?_cons_zero, List.getElem?_cons_succ, List.cons_append, List.nil_append, List.append_nil, List.length_cons, List.length_nil, and_self, if_true, List.set_cons_zero, List.set_cons_succ, Bool.false_eq_true, if_false, Nat.reduceAdd, Nat.reduceSub, List.map_cons, List.map_nil, List.replicate_succ, List.replicate_zero, Bool.not_true, Bool.not_false, Sim.x_sized, Nat.reduceLeDiff, Nat.zero_add]
    refine Vs.ix2 ?_
    try simp -implicitDefEqProofs only [Sim.sM_pass, Sim.sM_seq, Sim.sM_asg, Sim.sM_ret, Sim.sM_expr, Sim.sM_if, Sim.sM_par, Sim.sM_asgT, Sim.sM_set, Sim.ret_bind, Sim.bind_assoc, Sim.x_var0, Sim.x_varS, Sim.x_C, Sim.x_op, Sim.x_un, Sim.x_A, Sim.x_nil, Sim.x_cons, Sim.x_call, Sim.x_and, Sim.x_or, Sim.x_not, Sim.x_if, Sim.x_tV, Sim.x_tCmp, Sim.x_tTru, Sim.x_tNot, Sim.x_tAnd, Sim.x_tOr, Sim.x_asB, Sim.x_sl, Sim.x_oNone, Sim.x_oSome, Sim.x_asI, Sim.x_trN, Sim.x_trB, Sim.x_trI, Sim.x_trL, Sim.x_trR, Sim.x_trT, Sim.x_add, Sim.x_sub, Sim.x_neg, Sim.x_lt, Sim.x_le, Sim.x_gt, Sim.x_ge, Sim.x_abs, Sim.x_max2, Sim.x_min2, Sim.x_intI, Sim.x_intB, Sim.x_eqI, Sim.x_neI, Sim.x_eqS, Sim.x_neS, Sim.x_lst, Sim.x_tup, Sim.x_lenL, Sim.x_lenT, Sim.x_lenR, Sim.x_tupleL, Sim.x_listL, Sim.x_listT, Sim.x_slL, Sim.x_slR, Sim.x_slT, Sim.callM, Sim.arrOf, List.filterMap_cons, List.filterMap_nil, List.getElem?_cons_zero, List.getElem?_cons_succ, List.cons_append, List.nil_append, List.append_nil, List.length_cons, List.length_nil, and_self, if_true, List.set_cons_zero, List.set_cons_succ, Bool.false_eq_true, if_false, Nat.reduceAdd, Nat.reduceSub, List.map_cons, List.map_nil, List.replicate_succ, List.replicate_zero, Bool.not_true, Bool.not_false, Sim.x_sized, Nat.reduceLeDiff, Nat.zero_add, x_mod']
    refine Vs.ix2 ?_
    try simp -implicitDefEqProofs only [Sim.sM_pass, Sim.sM_seq, Sim.sM_asg, Sim.sM_ret, Sim.sM_expr, Sim.sM_if, Sim.sM_par, Sim.sM_asgT, Sim.sM_set, Sim.ret_bind, Sim.bind_assoc, Sim.x_var0, Sim.x_varS, Sim.x_C, Sim.x_op, Sim.x_un, Sim.x_A, Sim.x_nil, Sim.x_cons, Sim.x_call, Sim.x_and, Sim.x_or, Sim.x_not, Sim.x_if, Sim.x_tV, Sim.x_tCmp, Sim.x_tTru, Sim.x_tNot, Sim.x_tAnd, Sim.x_tOr, Sim.x_asB, Sim.x_sl, Sim.x_oNone, Sim.x_oSome, Sim.x_asI, Sim.x_trN, Sim.x_trB, Sim.x_trI, Sim.x_trL, Sim.x_trR, Sim.x_trT, Sim.x_add, Sim.x_sub, Sim.x_neg, Sim.x_lt, Sim.x_le, Sim.x_gt, Sim.x_ge, Sim.x_abs, Sim.x_max2, Sim.x_min2, Sim.x_intI, Sim.x_intB, Sim.x_eqI, Sim.x_neI, Sim.x_eqS, Sim.x_neS, Sim.x_lst, Sim.x_tup, Sim.x_lenL, Sim.x_lenT, Sim.x_lenR, Sim.x_tupleL, Sim.x_listL, Sim.x_listT, Sim.x_slL, Sim.x_slR, Sim.x_slT, Sim.callM, Sim.arrOf, List.filterMap_cons, List.filterMap_nil, List.getElem?_cons_zero, List.getElem?_cons_succ, List.cons_append, List.nil_append, List.append_nil, List.length_cons, List.length_nil, and_self, if_true, List.set_cons_zero, List.set_cons_succ, Bool.false_eq_true, if_false, Nat.reduceAdd, Nat.reduceSub, List.map_cons, List.map_nil, List.replicate_succ, List.replicate_zero, Bool.not_true, Bool.not_false, Sim.x_sized, Nat.reduceLeDiff, Nat.zero_add, x_div']
    refine Vs.set2 ?_
    try simp -implicitDefEqProofs only [Sim.sM_pass, Sim.sM_seq, Sim.sM_asg, Sim.sM_ret, Sim.sM_expr, Sim.sM_if, Sim.sM_par, Sim.sM_asgT, Sim.sM_set, Sim.ret_bind, Sim.bind_assoc, Sim.x_var0, Sim.x_varS, Sim.x_C, Sim.x_op, Sim.x_un, Sim.x_A, Sim.x_nil, Sim.x_cons, Sim.x_call, Sim.x_and, Sim.x_or, Sim.x_not, Sim.x_if, Sim.x_tV, Sim.x_tCmp, Sim.x_tTru, Sim.x_tNot, Sim.x_tAnd, Sim.x_tOr, Sim.x_asB, Sim.x_sl, Sim.x_oNone, Sim.x_oSome, Sim.x_asI, Sim.x_trN, Sim.x_trB, Sim.x_trI, Sim.x_trL, Sim.x_trR, Sim.x_trT, Sim.x_add, Sim.x_sub, Sim.x_neg, Sim.x_lt, Sim.x_le, Sim.x_gt, Sim.x_ge, Sim.x_abs, Sim.x_max2, Sim.x_min2, Sim.x_intI, Sim.x_intB, Sim.x_eqI, Sim.x_neI, Sim.x_eqS, Sim.x_neS, Sim.x_lst, Sim.x_tup, Sim.x_lenL, Sim.x_lenT, Sim.x_lenR, Sim.x_tupleL, Sim.x_listL, Sim.x_listT, Sim.x_slL, Sim.x_slR, Sim.x_slT, Sim.callM, Sim.arrOf, List.filterMap_cons, List.filterMap_nil, List.getElem?_cons_zero, List.getElem?_cons_succ, List.cons_append, List.nil_append, List.append_nil, List.length_cons, List.length_nil, and_self, if_true, List.set_cons_zero, List.set_cons_succ, Bool.false_eq_true, if_false, Nat.reduceAdd, Nat.reduceSub, List.map_cons, List.map_nil, List.replicate_succ, List.replicate_zero, Bool.not_true, Bool.not_false, Sim.x_sized, Nat.reduceLeDiff, Nat.zero_add]
    exact Vs.ret ⟨⟨_, rfl, (fmod_lt h0).1, (fmod_lt h0).2⟩, ht, by omega, fdiv_nn hr h0⟩
  · try simp -implicitDefEqProofs only [hr0, decide_false, Sim.sM_pass, Sim.sM_seq, Sim.sM_asg, Sim.sM_ret, Sim.sM_expr, Sim.sM_if, Sim.sM_par, Sim.sM_asgT, Sim.sM_set, Sim.ret_bind, Sim.bind_assoc, Sim.x_var0, Sim.x_varS, Sim.x_C, Sim.x_op, Sim.x_un, Sim.x_A, Sim.x_nil, Sim.x_cons, Sim.x_call, Sim.x_and, Sim.x_or, Sim.x_not, Sim.x_if, Sim.x_tV, Sim.x_tCmp, Sim.x_tTru, Sim.x_tNot, Sim.x_tAnd, Sim.x_tOr, Sim.x_asB, Sim.x_sl, Sim.x_oNone, Sim.x_oSome, Sim.x_asI, Sim.x_trN, Sim.x_trB, Sim.x_trI, Sim.x_trL, Sim.x_trR, Sim.x_trT, Sim.x_add, Sim.x_sub, Sim.x_neg, Sim.x_lt, Sim.x_le, Sim.x_gt, Sim.x_ge, Sim.x_abs, Sim.x_max2, Sim.x_min2, Sim.x_intI, Sim.x_intB, Sim.x_eqI, Sim.x_neI, Sim.x_eqS, Sim.x_neS, Sim.x_lst, Sim.x_tup, Sim.x_lenL, Sim.x_lenT, Sim.x_lenR, Sim.x_tupleL, Sim.x_listL, Sim.x_listT, Sim.x_slL, Sim.x_slR, Sim.x_slT, Sim.callM, Sim.arrOf, List.filterMap_cons, List.filterMap_nil, List.getElem?_cons_zero, List.getElem?_cons_succ, List.cons_append, List.nil_append, List.append_nil, List.length_cons, List.length_nil, and_self, if_true, List.set_cons_zero, List.set_cons_succ, Bool.false_eq_true, if_false, Nat.reduceAdd, Nat.reduceSub, List.map_cons, List.map_nil, List.replicate_succ, List.replicate_zero, Bool.not_true, Bool.not_false, Sim.x_sized, Nat.reduceLeDiff, Nat.zero_add]
    refine Vs.ix1 ?_
    try simp -implicitDefEqProofs only [Sim.sM_pass, Sim.sM_seq, Sim.sM_asg, Sim.sM_ret, Sim.sM_expr, Sim.sM_if, Sim.sM_par, Sim.sM_asgT, Sim.sM_set, Sim.ret_bind, Sim.bind_assoc, Sim.x_var0, Sim.x_varS, Sim.x_C, Sim.x_op, Sim.x_un, Sim.x_A, Sim.x_nil, Sim.x_cons, Sim.x_call, Sim.x_and, Sim.x_or, Sim.x_not, Sim.x_if, Sim.x_tV, Sim.x_tCmp, Sim.x_tTru, Sim.x_tNot, Sim.x_tAnd, Sim.x_tOr, Sim.x_asB, Sim.x_sl, Sim.x_oNone, Sim.x_oSome, Sim.x_asI, Sim.x_trN, Sim.x_trB, Sim.x_trI, Sim.x_trL, Sim.x_trR, Sim.x_trT, Sim.x_add, Sim.x_sub, Sim.x_neg, Sim.x_lt, Sim.x_le, Sim.x_gt, Sim.x_ge, Sim.x_abs, Sim.x_max2, Sim.x_min2, Sim.x_intI, Sim.x_intB, Sim.x_eqI, Sim.x_neI, Sim.x_eqS, Sim.x_neS, Sim.x_lst, Sim.x_tup, Sim.x_lenL, Sim.x_lenT, Sim.x_lenR, Sim.x_tupleL, Sim.x_listL, Sim.x_listT, Sim.x_slL, Sim.x_slR, Sim.x_slT, Sim.callM, Sim.arrOf, List.filterMap_cons, List.filterMap_nil, List.getElem?_cons_zero, List.getElem?_cons_succ, List.cons_append, List.nil_append, List.append_nil, List.length_cons, List.length_nil, and_self, if_true, List.set_cons_zero, List.set_cons_succ, Bool.false_eq_true, if_false, Nat.reduceAdd, Nat.reduceSub, List.map_cons, List.map_nil, List.replicate_succ, List.replicate_zero, Bool.not_true, Bool.not_false, Sim.x_sized, Nat.reduceLeDiff, Nat.zero_add]
    refine Vs.set1 ?_
    try simp -implicitDefEqProofs only [Sim.sM_pass, Sim.sM_seq, Sim.sM_asg, Sim.sM_ret, Sim.sM_expr, Sim.sM_if, Sim.sM_par, Sim.sM_asgT, Sim.sM_set, Sim.ret_bind, Sim.bind_assoc, Sim.x_var0, Sim.x_varS, Sim.x_C, Sim.x_op, Sim.x_un, Sim.x_A, Sim.x_nil, Sim.x_cons, Sim.x_call, Sim.x_and, Sim.x_or, Sim.x_not, Sim.x_if, Sim.x_tV, Sim.x_tCmp, Sim.x_tTru, Sim.x_tNot, Sim.x_tAnd, Sim.x_tOr, Sim.x_asB, Sim.x_sl, Sim.x_oNone, Sim.x_oSome, Sim.x_asI, Sim.x_trN, Sim.x_trB, Sim.x_trI, Sim.x_trL, Sim.x_trR, Sim.x_trT, Sim.x_add, Sim.x_sub, Sim.x_neg, Sim.x_lt, Sim.x_le, Sim.x_gt, Sim.x_ge, Sim.x_abs, Sim.x_max2, Sim.x_min2, Sim.x_intI, Sim.x_intB, Sim.x_eqI, Sim.x_neI, Sim.x_eqS, Sim.x_neS, Sim.x_lst, Sim.x_tup, Sim.x_lenL, Sim.x_lenT, Sim.x_lenR, Sim.x_tupleL, Sim.x_listL, Sim.x_listT, Sim.x_slL, Sim.x_slR, Sim.x_slT, Sim.callM, Sim.arrOf, List.filterMap_cons, List.filterMap_nil, List.getElem?_cons_zero, List.getElem?_cons_succ, List.cons_append, List.nil_append, List.append_nil, List.length_cons, List.length_nil, and_self, if_true, List.set_cons_zero, List.set_cons_succ, Bool.false_eq_true, if_false, Nat.reduceAdd, Nat.reduceSub, List.map_cons, List.map_nil, List.replicate_succ, List.replicate_zero, Bool.not_true, Bool.not_false, Sim.x_sized, Nat.reduceLeDiff, Nat.zero_add]
    refine Vs.ix0 ?_
    try simp -implicitDefEqProofs only [Sim.sM_pass, Sim.sM_seq, Sim.sM_asg, Sim.sM_ret, Sim.sM_expr, Sim.sM_if, Sim.sM_par, Sim.sM_asgT, Sim.sM_set, Sim.ret_bind, Sim.bind_assoc, Sim.x_var0, Sim.x_varS, Sim.x_C, Sim.x_op, Sim.x_un, Sim.x_A, Sim.x_nil, Sim.x_cons, Sim.x_call, Sim.x_and, Sim.x_or, Sim.x_not, Sim.x_if, Sim.x_tV, Sim.x_tCmp, Sim.x_tTru, Sim.x_tNot, Sim.x_tAnd, Sim.x_tOr, Sim.x_asB, Sim.x_sl, Sim.x_oNone, Sim.x_oSome, Sim.x_asI, Sim.x_trN, Sim.x_trB, Sim.x_trI, Sim.x_trL, Sim.x_trR, Sim.x_trT, Sim.x_add, Sim.x_sub, Sim.x_neg, Sim.x_lt, Sim.x_le, Sim.x_gt, Sim.x_ge, Sim.x_abs, Sim.x_max2, Sim.x_min2, Sim.x_intI, Sim.x_intB, Sim.x_eqI, Sim.x_neI, Sim.x_eqS, Sim.x_neS, Sim.x_lst, Sim.x_tup, Sim.x_lenL, Sim.x_lenT, Sim.x_lenR, Sim.x_tupleL, Sim.x_listL, Sim.x_listT, Sim.x_slL, Sim.x_slR, Sim.x_slT, Sim.callM, Sim.arrOf, List.filterMap_cons, List.filterMap_nil, List.getElem?_cons_zero, List.getElem?_cons_succ, List.cons_append, List.nil_append, List.append_nil, List.length_cons, List.length_nil, and_self, if_true, List.set_cons_zero, List.set_cons_succ, Bool.false_eq_true, if_false, Nat.reduceAdd, Nat.reduceSub, List.map_cons, List.map_nil, List.replicate_succ, List.replicate_zero, Bool.not_true, Bool.not_false, Sim.x_sized, Nat.reduceLeDiff, Nat.zero_add]
    try simp -implicitDefEqProofs only [Sim.sM_pass, Sim.sM_seq, Sim.sM_asg, Sim.sM_ret, Sim.sM_expr, Sim.sM_if, Sim.sM_par, Sim.sM_asgT, Sim.sM_set, Sim.ret_bind, Sim.bind_assoc, Sim.x_var0, Sim.x_varS, Sim.x_C, Sim.x_op, Sim.x_un, Sim.x_A, Sim.x_nil, Sim.x_cons, Sim.x_call, Sim.x_and, Sim.x_or, Sim.x_not, Sim.x_if, Sim.x_tV, Sim.x_tCmp, Sim.x_tTru, Sim.x_tNot, Sim.x_tAnd, Sim.x_tOr, Sim.x_asB, Sim.x_sl, Sim.x_oNone, Sim.x_oSome, Sim.x_asI, Sim.x_trN, Sim.x_trB, Sim.x_trI, Sim.x_trL, Sim.x_trR, Sim.x_trT, Sim.x_add, Sim.x_sub, Sim.x_neg, Sim.x_lt, Sim.x_le, Sim.x_gt, Sim.x_ge, Sim.x_abs, Sim.x_max2, Sim.x_min2, Sim.x_intI, Sim.x_intB, Sim.x_eqI, Sim.x_neI, Sim.x_eqS, Sim.x_neS, Sim.x_lst, Sim.x_tup, Sim.x_lenL, Sim.x_lenT, Sim.x_lenR, Sim.x_tupleL, Sim.x_listL, Sim.x_listT, Sim.x_slL, Sim.x_slR, Sim.x_slT, Sim.callM, Sim.arrOf, List.filterMap_cons, List.filterMap_nil, List.getElem?_cons_zero, List.getElem?_cons_succ, List.cons_append, List.nil_append, List.append_nil, List.length_cons, List.length_nil, and_self, if_true, List.set_cons_zero, List.set_cons_succ, Bool.false_eq_true, if_false, Nat.reduceAdd, Nat.reduceSub, List.map_cons, List.map_nil, List.replicate_succ, List.replicate_zero, Bool.not_true, Bool.not_false, Sim.x_sized, Nat.reduceLeDiff, Nat.zero_add, x_eqNil]
    cases hc : cells with
    | nil =>
      have q1 : M.of (gMulS ((.int 60649)) ((.int t))) = M.ret ((.int (60649 * t))) := x_mulS (mulOk_small (by decide))
      try simp -implicitDefEqProofs only [Sim.sM_pass, Sim.sM_seq, Sim.sM_asg, Sim.sM_ret, Sim.sM_expr, Sim.sM_if, Sim.sM_par, Sim.sM_asgT, Sim.sM_set, Sim.ret_bind, Sim.bind_assoc, Sim.x_var0, Sim.x_varS, Sim.x_C, Sim.x_op, Sim.x_un, Sim.x_A, Sim.x_nil, Sim.x_cons, Sim.x_call, Sim.x_and, Sim.x_or, Sim.x_not, Sim.x_if, Sim.x_tV, Sim.x_tCmp, Sim.x_tTru, Sim.x_tNot, Sim.x_tAnd, Sim.x_tOr, Sim.x_asB, Sim.x_sl, Sim.x_oNone, Sim.x_oSome, Sim.x_asI, Sim.x_trN, Sim.x_trB, Sim.x_trI, Sim.x_trL, Sim.x_trR, Sim.x_trT, Sim.x_add, Sim.x_sub, Sim.x_neg, Sim.x_lt, Sim.x_le, Sim.x_gt, Sim.x_ge, Sim.x_abs, Sim.x_max2, Sim.x_min2, Sim.x_intI, Sim.x_intB, Sim.x_eqI, Sim.x_neI, Sim.x_eqS, Sim.x_neS, Sim.x_lst, Sim.x_tup, Sim.x_lenL, Sim.x_lenT, Sim.x_lenR, Sim.x_tupleL, Sim.x_listL, Sim.x_listT, Sim.x_slL, Sim.x_slR, Sim.x_slT, Sim.callM, Sim.arrOf, List.filterMap_cons, List.filterMap_nil, List.getElem?_cons_zero, List.getElem?_cons_succ, List.cons_append, List.nil_append, List.append_nil, List.length_cons, List.length_nil, and_self, if_true, List.set_cons_zero, List.set_cons_succ, Bool.false_eq_true, if_false, Nat.reduceAdd, Nat.reduceSub, List.map_cons, List.map_nil, List.replicate_succ, List.replicate_zero, Bool.not_true, Bool.not_false, Sim.x_sized, Nat.reduceLeDiff, Nat.zero_add, List.isEmpty_nil, q1]
      exact big_vs h0 h1 ht ht2 hr
    | cons c0 rest =>
      rw [← hc]
      have he : cells.isEmpty = false := by rw [hc]; rfl
      have hl : 0 < (cells.length : Int) := by rw [hc, List.length_cons]; omega
      try simp -implicitDefEqProofs only [Sim.sM_pass, Sim.sM_seq, Sim.sM_asg, Sim.sM_ret, Sim.sM_expr, Sim.sM_if, Sim.sM_par, Sim.sM_asgT, Sim.sM_set, Sim.ret_bind, Sim.bind_assoc, Sim.x_var0, Sim.x_varS, Sim.x_C, Sim.x_op, Sim.x_un, Sim.x_A, Sim.x_nil, Sim.x_cons, Sim.x_call, Sim.x_and, Sim.x_or, Sim.x_not, Sim.x_if, Sim.x_tV, Sim.x_tCmp, Sim.x_tTru, Sim.x_tNot, Sim.x_tAnd, Sim.x_tOr, Sim.x_asB, Sim.x_sl, Sim.x_oNone, Sim.x_oSome, Sim.x_asI, Sim.x_trN, Sim.x_trB, Sim.x_trI, Sim.x_trL, Sim.x_trR, Sim.x_trT, Sim.x_add, Sim.x_sub, Sim.x_neg, Sim.x_lt, Sim.x_le, Sim.x_gt, Sim.x_ge, Sim.x_abs, Sim.x_max2, Sim.x_min2, Sim.x_intI, Sim.x_intB, Sim.x_eqI, Sim.x_neI, Sim.x_eqS, Sim.x_neS, Sim.x_lst, Sim.x_tup, Sim.x_lenL, Sim.x_lenT, Sim.x_lenR, Sim.x_tupleL, Sim.x_listL, Sim.x_listT, Sim.x_slL, Sim.x_slR, Sim.x_slT, Sim.callM, Sim.arrOf, List.filterMap_cons, List.filterMap_nil, List.getElem?_cons_zero, List.getElem?_cons_succ, List.cons_append, List.nil_append, List.append_nil, List.length_cons, List.length_nil, and_self, if_true, List.set_cons_zero, List.set_cons_succ, Bool.false_eq_true, if_false, Nat.reduceAdd, Nat.reduceSub, List.map_cons, List.map_nil, List.replicate_succ, List.replicate_zero, Bool.not_true, Bool.not_false, Sim.x_sized, Nat.reduceLeDiff, Nat.zero_add, he]
      refine Vs.ix0 ?_
      try simp -implicitDefEqProofs only [Sim.sM_pass, Sim.sM_seq, Sim.sM_asg, Sim.sM_ret, Sim.sM_expr, Sim.sM_if, Sim.sM_par, Sim.sM_asgT, Sim.sM_set, Sim.ret_bind, Sim.bind_assoc, Sim.x_var0, Sim.x_varS, Sim.x_C, Sim.x_op, Sim.x_un, Sim.x_A, Sim.x_nil, Sim.x_cons, Sim.x_call, Sim.x_and, Sim.x_or, Sim.x_not, Sim.x_if, Sim.x_tV, Sim.x_tCmp, Sim.x_tTru, Sim.x_tNot, Sim.x_tAnd, Sim.x_tOr, Sim.x_asB, Sim.x_sl, Sim.x_oNone, Sim.x_oSome, Sim.x_asI, Sim.x_trN, Sim.x_trB, Sim.x_trI, Sim.x_trL, Sim.x_trR, Sim.x_trT, Sim.x_add, Sim.x_sub, Sim.x_neg, Sim.x_lt, Sim.x_le, Sim.x_gt, Sim.x_ge, Sim.x_abs, Sim.x_max2, Sim.x_min2, Sim.x_intI, Sim.x_intB, Sim.x_eqI, Sim.x_neI, Sim.x_eqS, Sim.x_neS, Sim.x_lst, Sim.x_tup, Sim.x_lenL, Sim.x_lenT, Sim.x_lenR, Sim.x_tupleL, Sim.x_listL, Sim.x_listT, Sim.x_slL, Sim.x_slR, Sim.x_slT, Sim.callM, Sim.arrOf, List.filterMap_cons, List.filterMap_nil, List.getElem?_cons_zero, List.getElem?_cons_succ, List.cons_append, List.nil_append, List.append_nil, List.length_cons, List.length_nil, and_self, if_true, List.set_cons_zero, List.set_cons_succ, Bool.false_eq_true, if_false, Nat.reduceAdd, Nat.reduceSub, List.map_cons, List.map_nil, List.replicate_succ, List.replicate_zero, Bool.not_true, Bool.not_false, Sim.x_sized, Nat.reduceLeDiff, Nat.zero_add]
      refine Vs.ix0 ?_
      try simp -implicitDefEqProofs only [Sim.sM_pass, Sim.sM_seq, Sim.sM_asg, Sim.sM_ret, Sim.sM_expr, Sim.sM_if, Sim.sM_par, Sim.sM_asgT, Sim.sM_set, Sim.ret_bind, Sim.bind_assoc, Sim.x_var0, Sim.x_varS, Sim.x_C, Sim.x_op, Sim.x_un, Sim.x_A, Sim.x_nil, Sim.x_cons, Sim.x_call, Sim.x_and, Sim.x_or, Sim.x_not, Sim.x_if, Sim.x_tV, Sim.x_tCmp, Sim.x_tTru, Sim.x_tNot, Sim.x_tAnd, Sim.x_tOr, Sim.x_asB, Sim.x_sl, Sim.x_oNone, Sim.x_oSome, Sim.x_asI, Sim.x_trN, Sim.x_trB, Sim.x_trI, Sim.x_trL, Sim.x_trR, Sim.x_trT, Sim.x_add, Sim.x_sub, Sim.x_neg, Sim.x_lt, Sim.x_le, Sim.x_gt, Sim.x_ge, Sim.x_abs, Sim.x_max2, Sim.x_min2, Sim.x_intI, Sim.x_intB, Sim.x_eqI, Sim.x_neI, Sim.x_eqS, Sim.x_neS, Sim.x_lst, Sim.x_tup, Sim.x_lenL, Sim.x_lenT, Sim.x_lenR, Sim.x_tupleL, Sim.x_listL, Sim.x_listT, Sim.x_slL, Sim.x_slR, Sim.x_slT, Sim.callM, Sim.arrOf, List.filterMap_cons, List.filterMap_nil, List.getElem?_cons_zero, List.getElem?_cons_succ, List.cons_append, List.nil_append, List.append_nil, List.length_cons, List.length_nil, and_self, if_true, List.set_cons_zero, List.set_cons_succ, Bool.false_eq_true, if_false, Nat.reduceAdd, Nat.reduceSub, List.map_cons, List.map_nil, List.replicate_succ, List.replicate_zero, Bool.not_true, Bool.not_false, Sim.x_sized, Nat.reduceLeDiff, Nat.zero_add, List.length_map]
      rw [x_mod (by omega)]
      try simp -implicitDefEqProofs only [Sim.sM_pass, Sim.sM_seq, Sim.sM_asg, Sim.sM_ret, Sim.sM_expr, Sim.sM_if, Sim.sM_par, Sim.sM_asgT, Sim.sM_set, Sim.ret_bind, Sim.bind_assoc, Sim.x_var0, Sim.x_varS, Sim.x_C, Sim.x_op, Sim.x_un, Sim.x_A, Sim.x_nil, Sim.x_cons, Sim.x_call, Sim.x_and, Sim.x_or, Sim.x_not, Sim.x_if, Sim.x_tV, Sim.x_tCmp, Sim.x_tTru, Sim.x_tNot, Sim.x_tAnd, Sim.x_tOr, Sim.x_asB, Sim.x_sl, Sim.x_oNone, Sim.x_oSome, Sim.x_asI, Sim.x_trN, Sim.x_trB, Sim.x_trI, Sim.x_trL, Sim.x_trR, Sim.x_trT, Sim.x_add, Sim.x_sub, Sim.x_neg, Sim.x_lt, Sim.x_le, Sim.x_gt, Sim.x_ge, Sim.x_abs, Sim.x_max2, Sim.x_min2, Sim.x_intI, Sim.x_intB, Sim.x_eqI, Sim.x_neI, Sim.x_eqS, Sim.x_neS, Sim.x_lst, Sim.x_tup, Sim.x_lenL, Sim.x_lenT, Sim.x_lenR, Sim.x_tupleL, Sim.x_listL, Sim.x_listT, Sim.x_slL, Sim.x_slR, Sim.x_slT, Sim.callM, Sim.arrOf, List.filterMap_cons, List.filterMap_nil, List.getElem?_cons_zero, List.getElem?_cons_succ, List.cons_append, List.nil_append, List.append_nil, List.length_cons, List.length_nil, and_self, if_true, List.set_cons_zero, List.set_cons_succ, Bool.false_eq_true, if_false, Nat.reduceAdd, Nat.reduceSub, List.map_cons, List.map_nil, List.replicate_succ, List.replicate_zero, Bool.not_true, Bool.not_false, Sim.x_sized, Nat.reduceLeDiff, Nat.zero_add]
      obtain ⟨n, hn⟩ := atI_ints (ns := cells) (fmod_lt (a := t) hl).1 (fmod_lt hl).2
      rw [x_ixL hn]
      try simp -implicitDefEqProofs only [Sim.sM_pass, Sim.sM_seq, Sim.sM_asg, Sim.sM_ret, Sim.sM_expr, Sim.sM_if, Sim.sM_par, Sim.sM_asgT, Sim.sM_set, Sim.ret_bind, Sim.bind_assoc, Sim.x_var0, Sim.x_varS, Sim.x_C, Sim.x_op, Sim.x_un, Sim.x_A, Sim.x_nil, Sim.x_cons, Sim.x_call, Sim.x_and, Sim.x_or, Sim.x_not, Sim.x_if, Sim.x_tV, Sim.x_tCmp, Sim.x_tTru, Sim.x_tNot, Sim.x_tAnd, Sim.x_tOr, Sim.x_asB, Sim.x_sl, Sim.x_oNone, Sim.x_oSome, Sim.x_asI, Sim.x_trN, Sim.x_trB, Sim.x_trI, Sim.x_trL, Sim.x_trR, Sim.x_trT, Sim.x_add, Sim.x_sub, Sim.x_neg, Sim.x_lt, Sim.x_le, Sim.x_gt, Sim.x_ge, Sim.x_abs, Sim.x_max2, Sim.x_min2, Sim.x_intI, Sim.x_intB, Sim.x_eqI, Sim.x_neI, Sim.x_eqS, Sim.x_neS, Sim.x_lst, Sim.x_tup, Sim.x_lenL, Sim.x_lenT, Sim.x_lenR, Sim.x_tupleL, Sim.x_listL, Sim.x_listT, Sim.x_slL, Sim.x_slR, Sim.x_slT, Sim.callM, Sim.arrOf, List.filterMap_cons, List.filterMap_nil, List.getElem?_cons_zero, List.getElem?_cons_succ, List.cons_append, List.nil_append, List.append_nil, List.length_cons, List.length_nil, and_self, if_true, List.set_cons_zero, List.set_cons_succ, Bool.false_eq_true, if_false, Nat.reduceAdd, Nat.reduceSub, List.map_cons, List.map_nil, List.replicate_succ, List.replicate_zero, Bool.not_true, Bool.not_false, Sim.x_sized, Nat.reduceLeDiff, Nat.zero_add]
      exact big_vs h0 h1 ht ht2 hr
theorem r_draw {many : Int} (h0 : 0 < many) (h1 : many < 1073741824) : Rn cells k (m__law_draw [.cl k, (.int many)]) 1 fun v => ∃ d, v = .int d ∧ 0 ≤ d ∧ d < many := by
  refine Rn.fn fun st t r hk ht hb hr => ?_
  obtain ⟨a, t', r', e, ⟨d, hd, d0, d1⟩, h2, h3, h4⟩ := draw_vs (cells := cells) h0 h1 ht (by omega) hr st hk
  subst hd
  exact ⟨_, t', r', e, h2, h3, h4, by simp only [D.low], d, rfl, d0, d1⟩
theorem r_pick {xs : List D} (hlow : D.lows 0 xs = true) (h0 : xs ≠ []) (h1 : xs.length < 1073741824) : Rn cells k (m__law_pick [.cl k, (.lst xs)]) 1 fun d => d ∈ xs := by
  refine Rn.fn ?_
  unfold d__law_pick
  try simp -implicitDefEqProofs only [Sim.sM_pass, Sim.sM_seq, Sim.sM_asg, Sim.sM_ret, Sim.sM_expr, Sim.sM_if, Sim.sM_par, Sim.sM_asgT, Sim.sM_set, Sim.ret_bind, Sim.bind_assoc, Sim.x_var0, Sim.x_varS, Sim.x_C, Sim.x_op, Sim.x_un, Sim.x_A, Sim.x_nil, Sim.x_cons, Sim.x_call, Sim.x_and, Sim.x_or, Sim.x_not, Sim.x_if, Sim.x_tV, Sim.x_tCmp, Sim.x_tTru, Sim.x_tNot, Sim.x_tAnd, Sim.x_tOr, Sim.x_asB, Sim.x_sl, Sim.x_oNone, Sim.x_oSome, Sim.x_asI, Sim.x_trN, Sim.x_trB, Sim.x_trI, Sim.x_trL, Sim.x_trR, Sim.x_trT, Sim.x_add, Sim.x_sub, Sim.x_neg, Sim.x_lt, Sim.x_le, Sim.x_gt, Sim.x_ge, Sim.x_abs, Sim.x_max2, Sim.x_min2, Sim.x_intI, Sim.x_intB, Sim.x_eqI, Sim.x_neI, Sim.x_eqS, Sim.x_neS, Sim.x_lst, Sim.x_tup, Sim.x_lenL, Sim.x_lenT, Sim.x_lenR, Sim.x_tupleL, Sim.x_listL, Sim.x_listT, Sim.x_slL, Sim.x_slR, Sim.x_slT, Sim.callM, Sim.arrOf, List.filterMap_cons, List.filterMap_nil, List.getElem?_cons_zero, List.getElem?_cons_succ, List.cons_append, List.nil_append, List.append_nil, List.length_cons, List.length_nil, and_self, if_true, List.set_cons_zero, List.set_cons_succ, Bool.false_eq_true, if_false, Nat.reduceAdd, Nat.reduceSub, List.map_cons, List.map_nil, List.replicate_succ, List.replicate_zero, Bool.not_true, Bool.not_false, Sim.x_sized, Nat.reduceLeDiff, Nat.zero_add]
  have hl : 0 < xs.length := List.length_pos_iff.mpr h0
  refine Rn.step (r_draw (many := xs.length) (by omega) (by omega)) fun v ⟨d, e, d0, d1⟩ => ?_
  subst e
  obtain ⟨x, e, m, _⟩ := atI_mem d0 d1
  rw [x_ixL e]
  try simp -implicitDefEqProofs only [Sim.sM_pass, Sim.sM_seq, Sim.sM_asg, Sim.sM_ret, Sim.sM_expr, Sim.sM_if, Sim.sM_par, Sim.sM_asgT, Sim.sM_set, Sim.ret_bind, Sim.bind_assoc, Sim.x_var0, Sim.x_varS, Sim.x_C, Sim.x_op, Sim.x_un, Sim.x_A, Sim.x_nil, Sim.x_cons, Sim.x_call, Sim.x_and, Sim.x_or, Sim.x_not, Sim.x_if, Sim.x_tV, Sim.x_tCmp, Sim.x_tTru, Sim.x_tNot, Sim.x_tAnd, Sim.x_tOr, Sim.x_asB, Sim.x_sl, Sim.x_oNone, Sim.x_oSome, Sim.x_asI, Sim.x_trN, Sim.x_trB, Sim.x_trI, Sim.x_trL, Sim.x_trR, Sim.x_trT, Sim.x_add, Sim.x_sub, Sim.x_neg, Sim.x_lt, Sim.x_le, Sim.x_gt, Sim.x_ge, Sim.x_abs, Sim.x_max2, Sim.x_min2, Sim.x_intI, Sim.x_intB, Sim.x_eqI, Sim.x_neI, Sim.x_eqS, Sim.x_neS, Sim.x_lst, Sim.x_tup, Sim.x_lenL, Sim.x_lenT, Sim.x_lenR, Sim.x_tupleL, Sim.x_listL, Sim.x_listT, Sim.x_slL, Sim.x_slR, Sim.x_slT, Sim.callM, Sim.arrOf, List.filterMap_cons, List.filterMap_nil, List.getElem?_cons_zero, List.getElem?_cons_succ, List.cons_append, List.nil_append, List.append_nil, List.length_cons, List.length_nil, and_self, if_true, List.set_cons_zero, List.set_cons_succ, Bool.false_eq_true, if_false, Nat.reduceAdd, Nat.reduceSub, List.map_cons, List.map_nil, List.replicate_succ, List.replicate_zero, Bool.not_true, Bool.not_false, Sim.x_sized, Nat.reduceLeDiff, Nat.zero_add]
  exact Rn.ret ⟨lows_mem hlow x m, m⟩
end
end K15
end

section
open PySem PySem.Spec PyProof.Rows L2 RZ Sim
namespace K15
/-! the checks -/
theorem seqV_app {st ext : Store} {d : D} (h : D.low st.length d = true) : seqV (st ++ ext) d = seqV st d := by
  cases d <;> try rfl
  rename_i k
  simp only [D.low, decide_eq_true_eq] at h
  simp only [seqV, listV, List.getElem?_append_left h]
theorem isi_seq {st : Store} {d : D} {xs : List D} (h : seqV st d = some xs) : gIsi [d, (.tup [.ty "list", .ty "tuple"])] st = some (.bl true, st) := by
  cases d <;> try cases h
  · rename_i k
    simp only [seqV, listV, tupV] at h
    split at h
    · rename_i ys e
      simp only [gIsi, Sim.tyV, e]; rfl
    · cases h
  all_goals rfl
theorem len_seq {st : Store} {d : D} {xs : List D} (h : seqV st d = some xs) : gLen [d] st = some (.int xs.length, st) := by
  simp only [gLen, h]
theorem e_is_integer {i : Int} : m_is_integer [.int i] = M.ret (.bl true) := fn_eq (by
  unfold d_is_integer
  try simp -implicitDefEqProofs only [Sim.sM_pass, Sim.sM_seq, Sim.sM_asg, Sim.sM_ret, Sim.sM_expr, Sim.sM_if, Sim.sM_par, Sim.sM_asgT, Sim.sM_set, Sim.ret_bind, Sim.bind_assoc, Sim.x_var0, Sim.x_varS, Sim.x_C, Sim.x_op, Sim.x_un, Sim.x_A, Sim.x_nil, Sim.x_cons, Sim.x_call, Sim.x_and, Sim.x_or, Sim.x_not, Sim.x_if, Sim.x_tV, Sim.x_tCmp, Sim.x_tTru, Sim.x_tNot, Sim.x_tAnd, Sim.x_tOr, Sim.x_asB, Sim.x_sl, Sim.x_oNone, Sim.x_oSome, Sim.x_asI, Sim.x_trN, Sim.x_trB, Sim.x_trI, Sim.x_trL, Sim.x_trR, Sim.x_trT, Sim.x_add, Sim.x_sub, Sim.x_neg, Sim.x_lt, Sim.x_le, Sim.x_gt, Sim.x_ge, Sim.x_abs, Sim.x_max2, Sim.x_min2, Sim.x_intI, Sim.x_intB, Sim.x_eqI, Sim.x_neI, Sim.x_eqS, Sim.x_neS, Sim.x_lst, Sim.x_tup, Sim.x_lenL, Sim.x_lenT, Sim.x_lenR, Sim.x_tupleL, Sim.x_listL, Sim.x_listT, Sim.x_slL, Sim.x_slR, Sim.x_slT, Sim.callM, Sim.arrOf, List.filterMap_cons, List.filterMap_nil, List.getElem?_cons_zero, List.getElem?_cons_succ, List.cons_append, List.nil_append, List.append_nil, List.length_cons, List.length_nil, and_self, if_true, List.set_cons_zero, List.set_cons_succ, Bool.false_eq_true, if_false, Nat.reduceAdd, Nat.reduceSub, List.map_cons, List.map_nil, List.replicate_succ, List.replicate_zero, Bool.not_true, Bool.not_false, Sim.x_sized, Nat.reduceLeDiff, Nat.zero_add, Bool.true_and, Bool.false_and, Bool.and_true, Bool.and_false, Bool.true_or, Bool.false_or, Bool.or_true, Bool.or_false, Bool.and_self, decide_true, decide_false]
  rw [isi_int (by simp [tyN])]
  try simp -implicitDefEqProofs only [Sim.sM_pass, Sim.sM_seq, Sim.sM_asg, Sim.sM_ret, Sim.sM_expr, Sim.sM_if, Sim.sM_par, Sim.sM_asgT, Sim.sM_set, Sim.ret_bind, Sim.bind_assoc, Sim.x_var0, Sim.x_varS, Sim.x_C, Sim.x_op, Sim.x_un, Sim.x_A, Sim.x_nil, Sim.x_cons, Sim.x_call, Sim.x_and, Sim.x_or, Sim.x_not, Sim.x_if, Sim.x_tV, Sim.x_tCmp, Sim.x_tTru, Sim.x_tNot, Sim.x_tAnd, Sim.x_tOr, Sim.x_asB, Sim.x_sl, Sim.x_oNone, Sim.x_oSome, Sim.x_asI, Sim.x_trN, Sim.x_trB, Sim.x_trI, Sim.x_trL, Sim.x_trR, Sim.x_trT, Sim.x_add, Sim.x_sub, Sim.x_neg, Sim.x_lt, Sim.x_le, Sim.x_gt, Sim.x_ge, Sim.x_abs, Sim.x_max2, Sim.x_min2, Sim.x_intI, Sim.x_intB, Sim.x_eqI, Sim.x_neI, Sim.x_eqS, Sim.x_neS, Sim.x_lst, Sim.x_tup, Sim.x_lenL, Sim.x_lenT, Sim.x_lenR, Sim.x_tupleL, Sim.x_listL, Sim.x_listT, Sim.x_slL, Sim.x_slR, Sim.x_slT, Sim.callM, Sim.arrOf, List.filterMap_cons, List.filterMap_nil, List.getElem?_cons_zero, List.getElem?_cons_succ, List.cons_append, List.nil_append, List.append_nil, List.length_cons, List.length_nil, and_self, if_true, List.set_cons_zero, List.set_cons_succ, Bool.false_eq_true, if_false, Nat.reduceAdd, Nat.reduceSub, List.map_cons, List.map_nil, List.replicate_succ, List.replicate_zero, Bool.not_true, Bool.not_false, Sim.x_sized, Nat.reduceLeDiff, Nat.zero_add, Bool.true_and, Bool.false_and, Bool.and_true, Bool.and_false, Bool.true_or, Bool.false_or, Bool.or_true, Bool.or_false, Bool.and_self, decide_true, decide_false]
  rw [isi_bool (by simp [tyN])]
  try simp -implicitDefEqProofs only [Sim.sM_pass, Sim.sM_seq, Sim.sM_asg, Sim.sM_ret, Sim.sM_expr, Sim.sM_if, Sim.sM_par, Sim.sM_asgT, Sim.sM_set, Sim.ret_bind, Sim.bind_assoc, Sim.x_var0, Sim.x_varS, Sim.x_C, Sim.x_op, Sim.x_un, Sim.x_A, Sim.x_nil, Sim.x_cons, Sim.x_call, Sim.x_and, Sim.x_or, Sim.x_not, Sim.x_if, Sim.x_tV, Sim.x_tCmp, Sim.x_tTru, Sim.x_tNot, Sim.x_tAnd, Sim.x_tOr, Sim.x_asB, Sim.x_sl, Sim.x_oNone, Sim.x_oSome, Sim.x_asI, Sim.x_trN, Sim.x_trB, Sim.x_trI, Sim.x_trL, Sim.x_trR, Sim.x_trT, Sim.x_add, Sim.x_sub, Sim.x_neg, Sim.x_lt, Sim.x_le, Sim.x_gt, Sim.x_ge, Sim.x_abs, Sim.x_max2, Sim.x_min2, Sim.x_intI, Sim.x_intB, Sim.x_eqI, Sim.x_neI, Sim.x_eqS, Sim.x_neS, Sim.x_lst, Sim.x_tup, Sim.x_lenL, Sim.x_lenT, Sim.x_lenR, Sim.x_tupleL, Sim.x_listL, Sim.x_listT, Sim.x_slL, Sim.x_slR, Sim.x_slT, Sim.callM, Sim.arrOf, List.filterMap_cons, List.filterMap_nil, List.getElem?_cons_zero, List.getElem?_cons_succ, List.cons_append, List.nil_append, List.append_nil, List.length_cons, List.length_nil, and_self, if_true, List.set_cons_zero, List.set_cons_succ, Bool.false_eq_true, if_false, Nat.reduceAdd, Nat.reduceSub, List.map_cons, List.map_nil, List.replicate_succ, List.replicate_zero, Bool.not_true, Bool.not_false, Sim.x_sized, Nat.reduceLeDiff, Nat.zero_add, Bool.true_and, Bool.false_and, Bool.and_true, Bool.and_false, Bool.true_or, Bool.false_or, Bool.or_true, Bool.or_false, Bool.and_self, decide_true, decide_false])
theorem x_isnI {i : Int} : M.of (gIs false (.int i) .non) = M.ret (.bl false) := rfl
theorem e_is_within {i lo hi : Int} : m_is_within [.int i, .int lo, .int hi] = M.ret (.bl (decide (lo ≤ i) && decide (i ≤ hi))) := fn_eq (by
  unfold d_is_within
  try simp -implicitDefEqProofs only [Sim.sM_pass, Sim.sM_seq, Sim.sM_asg, Sim.sM_ret, Sim.sM_expr, Sim.sM_if, Sim.sM_par, Sim.sM_asgT, Sim.sM_set, Sim.ret_bind, Sim.bind_assoc, Sim.x_var0, Sim.x_varS, Sim.x_C, Sim.x_op, Sim.x_un, Sim.x_A, Sim.x_nil, Sim.x_cons, Sim.x_call, Sim.x_and, Sim.x_or, Sim.x_not, Sim.x_if, Sim.x_tV, Sim.x_tCmp, Sim.x_tTru, Sim.x_tNot, Sim.x_tAnd, Sim.x_tOr, Sim.x_asB, Sim.x_sl, Sim.x_oNone, Sim.x_oSome, Sim.x_asI, Sim.x_trN, Sim.x_trB, Sim.x_trI, Sim.x_trL, Sim.x_trR, Sim.x_trT, Sim.x_add, Sim.x_sub, Sim.x_neg, Sim.x_lt, Sim.x_le, Sim.x_gt, Sim.x_ge, Sim.x_abs, Sim.x_max2, Sim.x_min2, Sim.x_intI, Sim.x_intB, Sim.x_eqI, Sim.x_neI, Sim.x_eqS, Sim.x_neS, Sim.x_lst, Sim.x_tup, Sim.x_lenL, Sim.x_lenT, Sim.x_lenR, Sim.x_tupleL, Sim.x_listL, Sim.x_listT, Sim.x_slL, Sim.x_slR, Sim.x_slT, Sim.callM, Sim.arrOf, List.filterMap_cons, List.filterMap_nil, List.getElem?_cons_zero, List.getElem?_cons_succ, List.cons_append, List.nil_append, List.append_nil, List.length_cons, List.length_nil, and_self, if_true, List.set_cons_zero, List.set_cons_succ, Bool.false_eq_true, if_false, Nat.reduceAdd, Nat.reduceSub, List.map_cons, List.map_nil, List.replicate_succ, List.replicate_zero, Bool.not_true, Bool.not_false, Sim.x_sized, Nat.reduceLeDiff, Nat.zero_add, Bool.true_and, Bool.false_and, Bool.and_true, Bool.and_false, Bool.true_or, Bool.false_or, Bool.or_true, Bool.or_false, Bool.and_self, decide_true, decide_false]
  rw [e_is_integer]
  try simp -implicitDefEqProofs only [x_isnI, Sim.sM_pass, Sim.sM_seq, Sim.sM_asg, Sim.sM_ret, Sim.sM_expr, Sim.sM_if, Sim.sM_par, Sim.sM_asgT, Sim.sM_set, Sim.ret_bind, Sim.bind_assoc, Sim.x_var0, Sim.x_varS, Sim.x_C, Sim.x_op, Sim.x_un, Sim.x_A, Sim.x_nil, Sim.x_cons, Sim.x_call, Sim.x_and, Sim.x_or, Sim.x_not, Sim.x_if, Sim.x_tV, Sim.x_tCmp, Sim.x_tTru, Sim.x_tNot, Sim.x_tAnd, Sim.x_tOr, Sim.x_asB, Sim.x_sl, Sim.x_oNone, Sim.x_oSome, Sim.x_asI, Sim.x_trN, Sim.x_trB, Sim.x_trI, Sim.x_trL, Sim.x_trR, Sim.x_trT, Sim.x_add, Sim.x_sub, Sim.x_neg, Sim.x_lt, Sim.x_le, Sim.x_gt, Sim.x_ge, Sim.x_abs, Sim.x_max2, Sim.x_min2, Sim.x_intI, Sim.x_intB, Sim.x_eqI, Sim.x_neI, Sim.x_eqS, Sim.x_neS, Sim.x_lst, Sim.x_tup, Sim.x_lenL, Sim.x_lenT, Sim.x_lenR, Sim.x_tupleL, Sim.x_listL, Sim.x_listT, Sim.x_slL, Sim.x_slR, Sim.x_slT, Sim.callM, Sim.arrOf, List.filterMap_cons, List.filterMap_nil, List.getElem?_cons_zero, List.getElem?_cons_succ, List.cons_append, List.nil_append, List.append_nil, List.length_cons, List.length_nil, and_self, if_true, List.set_cons_zero, List.set_cons_succ, Bool.false_eq_true, if_false, Nat.reduceAdd, Nat.reduceSub, List.map_cons, List.map_nil, List.replicate_succ, List.replicate_zero, Bool.not_true, Bool.not_false, Sim.x_sized, Nat.reduceLeDiff, Nat.zero_add, Bool.true_and, Bool.false_and, Bool.and_true, Bool.and_false, Bool.true_or, Bool.false_or, Bool.or_true, Bool.or_false, Bool.and_self, decide_true, decide_false]
  cases decide (lo ≤ i) <;> rfl)
theorem at_is_list {st : Store} {d : D} {xs : List D} (h : seqV st d = some xs) : At st (m_is_list [d]) (.bl true) := At.fn (by
  unfold d_is_list
  try simp -implicitDefEqProofs only [Sim.sM_pass, Sim.sM_seq, Sim.sM_asg, Sim.sM_ret, Sim.sM_expr, Sim.sM_if, Sim.sM_par, Sim.sM_asgT, Sim.sM_set, Sim.ret_bind, Sim.bind_assoc, Sim.x_var0, Sim.x_varS, Sim.x_C, Sim.x_op, Sim.x_un, Sim.x_A, Sim.x_nil, Sim.x_cons, Sim.x_call, Sim.x_and, Sim.x_or, Sim.x_not, Sim.x_if, Sim.x_tV, Sim.x_tCmp, Sim.x_tTru, Sim.x_tNot, Sim.x_tAnd, Sim.x_tOr, Sim.x_asB, Sim.x_sl, Sim.x_oNone, Sim.x_oSome, Sim.x_asI, Sim.x_trN, Sim.x_trB, Sim.x_trI, Sim.x_trL, Sim.x_trR, Sim.x_trT, Sim.x_add, Sim.x_sub, Sim.x_neg, Sim.x_lt, Sim.x_le, Sim.x_gt, Sim.x_ge, Sim.x_abs, Sim.x_max2, Sim.x_min2, Sim.x_intI, Sim.x_intB, Sim.x_eqI, Sim.x_neI, Sim.x_eqS, Sim.x_neS, Sim.x_lst, Sim.x_tup, Sim.x_lenL, Sim.x_lenT, Sim.x_lenR, Sim.x_tupleL, Sim.x_listL, Sim.x_listT, Sim.x_slL, Sim.x_slR, Sim.x_slT, Sim.callM, Sim.arrOf, List.filterMap_cons, List.filterMap_nil, List.getElem?_cons_zero, List.getElem?_cons_succ, List.cons_append, List.nil_append, List.append_nil, List.length_cons, List.length_nil, and_self, if_true, List.set_cons_zero, List.set_cons_succ, Bool.false_eq_true, if_false, Nat.reduceAdd, Nat.reduceSub, List.map_cons, List.map_nil, List.replicate_succ, List.replicate_zero, Bool.not_true, Bool.not_false, Sim.x_sized, Nat.reduceLeDiff, Nat.zero_add, Bool.true_and, Bool.false_and, Bool.and_true, Bool.and_false, Bool.true_or, Bool.false_or, Bool.or_true, Bool.or_false, Bool.and_self, decide_true, decide_false]
  exact At.bind (At.of (isi_seq h)) At.ret) (by simp only [D.low])
/-- a text's letters -/
def okT (w : List Int) (n m : Int) : Bool := decide ((w.length : Int) ≤ m) && w.all fun x => decide (0 ≤ x) && decide (x ≤ n - 1)
theorem at_is_text {st : Store} {d : D} {w : List Int} {n m : Int} (h : seqV st d = some (w.map D.int)) (hl : D.low st.length d = true) (hz : w.length ≤ 16777216) : At st (m_is_text [d, .int n, .int m]) (.bl (okT w n m)) := At.fn (by
  unfold d_is_text
  try simp -implicitDefEqProofs only [Sim.sM_pass, Sim.sM_seq, Sim.sM_asg, Sim.sM_ret, Sim.sM_expr, Sim.sM_if, Sim.sM_par, Sim.sM_asgT, Sim.sM_set, Sim.ret_bind, Sim.bind_assoc, Sim.x_var0, Sim.x_varS, Sim.x_C, Sim.x_op, Sim.x_un, Sim.x_A, Sim.x_nil, Sim.x_cons, Sim.x_call, Sim.x_and, Sim.x_or, Sim.x_not, Sim.x_if, Sim.x_tV, Sim.x_tCmp, Sim.x_tTru, Sim.x_tNot, Sim.x_tAnd, Sim.x_tOr, Sim.x_asB, Sim.x_sl, Sim.x_oNone, Sim.x_oSome, Sim.x_asI, Sim.x_trN, Sim.x_trB, Sim.x_trI, Sim.x_trL, Sim.x_trR, Sim.x_trT, Sim.x_add, Sim.x_sub, Sim.x_neg, Sim.x_lt, Sim.x_le, Sim.x_gt, Sim.x_ge, Sim.x_abs, Sim.x_max2, Sim.x_min2, Sim.x_intI, Sim.x_intB, Sim.x_eqI, Sim.x_neI, Sim.x_eqS, Sim.x_neS, Sim.x_lst, Sim.x_tup, Sim.x_lenL, Sim.x_lenT, Sim.x_lenR, Sim.x_tupleL, Sim.x_listL, Sim.x_listT, Sim.x_slL, Sim.x_slR, Sim.x_slT, Sim.callM, Sim.arrOf, List.filterMap_cons, List.filterMap_nil, List.getElem?_cons_zero, List.getElem?_cons_succ, List.cons_append, List.nil_append, List.append_nil, List.length_cons, List.length_nil, and_self, if_true, List.set_cons_zero, List.set_cons_succ, Bool.false_eq_true, if_false, Nat.reduceAdd, Nat.reduceSub, List.map_cons, List.map_nil, List.replicate_succ, List.replicate_zero, Bool.not_true, Bool.not_false, Sim.x_sized, Nat.reduceLeDiff, Nat.zero_add, Bool.true_and, Bool.false_and, Bool.and_true, Bool.and_false, Bool.true_or, Bool.false_or, Bool.or_true, Bool.or_false, Bool.and_self, decide_true, decide_false]
  refine At.bind (at_is_list h) ?_
  try simp -implicitDefEqProofs only [Sim.sM_pass, Sim.sM_seq, Sim.sM_asg, Sim.sM_ret, Sim.sM_expr, Sim.sM_if, Sim.sM_par, Sim.sM_asgT, Sim.sM_set, Sim.ret_bind, Sim.bind_assoc, Sim.x_var0, Sim.x_varS, Sim.x_C, Sim.x_op, Sim.x_un, Sim.x_A, Sim.x_nil, Sim.x_cons, Sim.x_call, Sim.x_and, Sim.x_or, Sim.x_not, Sim.x_if, Sim.x_tV, Sim.x_tCmp, Sim.x_tTru, Sim.x_tNot, Sim.x_tAnd, Sim.x_tOr, Sim.x_asB, Sim.x_sl, Sim.x_oNone, Sim.x_oSome, Sim.x_asI, Sim.x_trN, Sim.x_trB, Sim.x_trI, Sim.x_trL, Sim.x_trR, Sim.x_trT, Sim.x_add, Sim.x_sub, Sim.x_neg, Sim.x_lt, Sim.x_le, Sim.x_gt, Sim.x_ge, Sim.x_abs, Sim.x_max2, Sim.x_min2, Sim.x_intI, Sim.x_intB, Sim.x_eqI, Sim.x_neI, Sim.x_eqS, Sim.x_neS, Sim.x_lst, Sim.x_tup, Sim.x_lenL, Sim.x_lenT, Sim.x_lenR, Sim.x_tupleL, Sim.x_listL, Sim.x_listT, Sim.x_slL, Sim.x_slR, Sim.x_slT, Sim.callM, Sim.arrOf, List.filterMap_cons, List.filterMap_nil, List.getElem?_cons_zero, List.getElem?_cons_succ, List.cons_append, List.nil_append, List.append_nil, List.length_cons, List.length_nil, and_self, if_true, List.set_cons_zero, List.set_cons_succ, Bool.false_eq_true, if_false, Nat.reduceAdd, Nat.reduceSub, List.map_cons, List.map_nil, List.replicate_succ, List.replicate_zero, Bool.not_true, Bool.not_false, Sim.x_sized, Nat.reduceLeDiff, Nat.zero_add, Bool.true_and, Bool.false_and, Bool.and_true, Bool.and_false, Bool.true_or, Bool.false_or, Bool.or_true, Bool.or_false, Bool.and_self, decide_true, decide_false]
  refine At.bind (At.of (len_seq h)) ?_
  try simp -implicitDefEqProofs only [Sim.sM_pass, Sim.sM_seq, Sim.sM_asg, Sim.sM_ret, Sim.sM_expr, Sim.sM_if, Sim.sM_par, Sim.sM_asgT, Sim.sM_set, Sim.ret_bind, Sim.bind_assoc, Sim.x_var0, Sim.x_varS, Sim.x_C, Sim.x_op, Sim.x_un, Sim.x_A, Sim.x_nil, Sim.x_cons, Sim.x_call, Sim.x_and, Sim.x_or, Sim.x_not, Sim.x_if, Sim.x_tV, Sim.x_tCmp, Sim.x_tTru, Sim.x_tNot, Sim.x_tAnd, Sim.x_tOr, Sim.x_asB, Sim.x_sl, Sim.x_oNone, Sim.x_oSome, Sim.x_asI, Sim.x_trN, Sim.x_trB, Sim.x_trI, Sim.x_trL, Sim.x_trR, Sim.x_trT, Sim.x_add, Sim.x_sub, Sim.x_neg, Sim.x_lt, Sim.x_le, Sim.x_gt, Sim.x_ge, Sim.x_abs, Sim.x_max2, Sim.x_min2, Sim.x_intI, Sim.x_intB, Sim.x_eqI, Sim.x_neI, Sim.x_eqS, Sim.x_neS, Sim.x_lst, Sim.x_tup, Sim.x_lenL, Sim.x_lenT, Sim.x_lenR, Sim.x_tupleL, Sim.x_listL, Sim.x_listT, Sim.x_slL, Sim.x_slR, Sim.x_slT, Sim.callM, Sim.arrOf, List.filterMap_cons, List.filterMap_nil, List.getElem?_cons_zero, List.getElem?_cons_succ, List.cons_append, List.nil_append, List.append_nil, List.length_cons, List.length_nil, and_self, if_true, List.set_cons_zero, List.set_cons_succ, Bool.false_eq_true, if_false, Nat.reduceAdd, Nat.reduceSub, List.map_cons, List.map_nil, List.replicate_succ, List.replicate_zero, Bool.not_true, Bool.not_false, Sim.x_sized, Nat.reduceLeDiff, Nat.zero_add, Bool.true_and, Bool.false_and, Bool.and_true, Bool.and_false, Bool.true_or, Bool.false_or, Bool.or_true, Bool.or_false, Bool.and_self, decide_true, decide_false]
  unfold okT
  rw [List.length_map]
  cases hq : decide ((w.length : Int) ≤ m) with
  | false => try simp -implicitDefEqProofs only [Sim.sM_pass, Sim.sM_seq, Sim.sM_asg, Sim.sM_ret, Sim.sM_expr, Sim.sM_if, Sim.sM_par, Sim.sM_asgT, Sim.sM_set, Sim.ret_bind, Sim.bind_assoc, Sim.x_var0, Sim.x_varS, Sim.x_C, Sim.x_op, Sim.x_un, Sim.x_A, Sim.x_nil, Sim.x_cons, Sim.x_call, Sim.x_and, Sim.x_or, Sim.x_not, Sim.x_if, Sim.x_tV, Sim.x_tCmp, Sim.x_tTru, Sim.x_tNot, Sim.x_tAnd, Sim.x_tOr, Sim.x_asB, Sim.x_sl, Sim.x_oNone, Sim.x_oSome, Sim.x_asI, Sim.x_trN, Sim.x_trB, Sim.x_trI, Sim.x_trL, Sim.x_trR, Sim.x_trT, Sim.x_add, Sim.x_sub, Sim.x_neg, Sim.x_lt, Sim.x_le, Sim.x_gt, Sim.x_ge, Sim.x_abs, Sim.x_max2, Sim.x_min2, Sim.x_intI, Sim.x_intB, Sim.x_eqI, Sim.x_neI, Sim.x_eqS, Sim.x_neS, Sim.x_lst, Sim.x_tup, Sim.x_lenL, Sim.x_lenT, Sim.x_lenR, Sim.x_tupleL, Sim.x_listL, Sim.x_listT, Sim.x_slL, Sim.x_slR, Sim.x_slT, Sim.callM, Sim.arrOf, List.filterMap_cons, List.filterMap_nil, List.getElem?_cons_zero, List.getElem?_cons_succ, List.cons_append, List.nil_append, List.append_nil, List.length_cons, List.length_nil, and_self, if_true, List.set_cons_zero, List.set_cons_succ, Bool.false_eq_true, if_false, Nat.reduceAdd, Nat.reduceSub, List.map_cons, List.map_nil, List.replicate_succ, List.replicate_zero, Bool.not_true, Bool.not_false, Sim.x_sized, Nat.reduceLeDiff, Nat.zero_add, Bool.true_and, Bool.false_and, Bool.and_true, Bool.and_false, Bool.true_or, Bool.false_or, Bool.or_true, Bool.or_false, Bool.and_self, decide_true, decide_false]; exact At.ret
  | true =>
    try simp -implicitDefEqProofs only [Sim.sM_pass, Sim.sM_seq, Sim.sM_asg, Sim.sM_ret, Sim.sM_expr, Sim.sM_if, Sim.sM_par, Sim.sM_asgT, Sim.sM_set, Sim.ret_bind, Sim.bind_assoc, Sim.x_var0, Sim.x_varS, Sim.x_C, Sim.x_op, Sim.x_un, Sim.x_A, Sim.x_nil, Sim.x_cons, Sim.x_call, Sim.x_and, Sim.x_or, Sim.x_not, Sim.x_if, Sim.x_tV, Sim.x_tCmp, Sim.x_tTru, Sim.x_tNot, Sim.x_tAnd, Sim.x_tOr, Sim.x_asB, Sim.x_sl, Sim.x_oNone, Sim.x_oSome, Sim.x_asI, Sim.x_trN, Sim.x_trB, Sim.x_trI, Sim.x_trL, Sim.x_trR, Sim.x_trT, Sim.x_add, Sim.x_sub, Sim.x_neg, Sim.x_lt, Sim.x_le, Sim.x_gt, Sim.x_ge, Sim.x_abs, Sim.x_max2, Sim.x_min2, Sim.x_intI, Sim.x_intB, Sim.x_eqI, Sim.x_neI, Sim.x_eqS, Sim.x_neS, Sim.x_lst, Sim.x_tup, Sim.x_lenL, Sim.x_lenT, Sim.x_lenR, Sim.x_tupleL, Sim.x_listL, Sim.x_listT, Sim.x_slL, Sim.x_slR, Sim.x_slT, Sim.callM, Sim.arrOf, List.filterMap_cons, List.filterMap_nil, List.getElem?_cons_zero, List.getElem?_cons_succ, List.cons_append, List.nil_append, List.append_nil, List.length_cons, List.length_nil, and_self, if_true, List.set_cons_zero, List.set_cons_succ, Bool.false_eq_true, if_false, Nat.reduceAdd, Nat.reduceSub, List.map_cons, List.map_nil, List.replicate_succ, List.replicate_zero, Bool.not_true, Bool.not_false, Sim.x_sized, Nat.reduceLeDiff, Nat.zero_add, Bool.true_and, Bool.false_and, Bool.and_true, Bool.and_false, Bool.true_or, Bool.false_or, Bool.or_true, Bool.or_false, Bool.and_self, decide_true, decide_false]
    refine At.bind (comp_atA (g := D.int) (xs := w) (f := fun x => .bl (decide (0 ≤ x) && decide (x ≤ n - 1))) (src := .seq d) ?_ (fun i acc _ => item_seqT (by rw [seqV_app hl, h])) hz fun x hx => ⟨[some d, some (.int n), some (.int m), some (.int x)], rfl, by simp only [D.low], fun acc => ?_⟩) ?_
    · show iSeq _ _ st = _
      rw [x_iSeq]
      try simp -implicitDefEqProofs only [Sim.sM_pass, Sim.sM_seq, Sim.sM_asg, Sim.sM_ret, Sim.sM_expr, Sim.sM_if, Sim.sM_par, Sim.sM_asgT, Sim.sM_set, Sim.ret_bind, Sim.bind_assoc, Sim.x_var0, Sim.x_varS, Sim.x_C, Sim.x_op, Sim.x_un, Sim.x_A, Sim.x_nil, Sim.x_cons, Sim.x_call, Sim.x_and, Sim.x_or, Sim.x_not, Sim.x_if, Sim.x_tV, Sim.x_tCmp, Sim.x_tTru, Sim.x_tNot, Sim.x_tAnd, Sim.x_tOr, Sim.x_asB, Sim.x_sl, Sim.x_oNone, Sim.x_oSome, Sim.x_asI, Sim.x_trN, Sim.x_trB, Sim.x_trI, Sim.x_trL, Sim.x_trR, Sim.x_trT, Sim.x_add, Sim.x_sub, Sim.x_neg, Sim.x_lt, Sim.x_le, Sim.x_gt, Sim.x_ge, Sim.x_abs, Sim.x_max2, Sim.x_min2, Sim.x_intI, Sim.x_intB, Sim.x_eqI, Sim.x_neI, Sim.x_eqS, Sim.x_neS, Sim.x_lst, Sim.x_tup, Sim.x_lenL, Sim.x_lenT, Sim.x_lenR, Sim.x_tupleL, Sim.x_listL, Sim.x_listT, Sim.x_slL, Sim.x_slR, Sim.x_slT, Sim.callM, Sim.arrOf, List.filterMap_cons, List.filterMap_nil, List.getElem?_cons_zero, List.getElem?_cons_succ, List.cons_append, List.nil_append, List.append_nil, List.length_cons, List.length_nil, and_self, if_true, List.set_cons_zero, List.set_cons_succ, Bool.false_eq_true, if_false, Nat.reduceAdd, Nat.reduceSub, List.map_cons, List.map_nil, List.replicate_succ, List.replicate_zero, Bool.not_true, Bool.not_false, Sim.x_sized, Nat.reduceLeDiff, Nat.zero_add, Bool.true_and, Bool.false_and, Bool.and_true, Bool.and_false, Bool.true_or, Bool.false_or, Bool.or_true, Bool.or_false, Bool.and_self, decide_true, decide_false]
      rw [h]
    · try simp -implicitDefEqProofs only [Sim.sM_pass, Sim.sM_seq, Sim.sM_asg, Sim.sM_ret, Sim.sM_expr, Sim.sM_if, Sim.sM_par, Sim.sM_asgT, Sim.sM_set, Sim.ret_bind, Sim.bind_assoc, Sim.x_var0, Sim.x_varS, Sim.x_C, Sim.x_op, Sim.x_un, Sim.x_A, Sim.x_nil, Sim.x_cons, Sim.x_call, Sim.x_and, Sim.x_or, Sim.x_not, Sim.x_if, Sim.x_tV, Sim.x_tCmp, Sim.x_tTru, Sim.x_tNot, Sim.x_tAnd, Sim.x_tOr, Sim.x_asB, Sim.x_sl, Sim.x_oNone, Sim.x_oSome, Sim.x_asI, Sim.x_trN, Sim.x_trB, Sim.x_trI, Sim.x_trL, Sim.x_trR, Sim.x_trT, Sim.x_add, Sim.x_sub, Sim.x_neg, Sim.x_lt, Sim.x_le, Sim.x_gt, Sim.x_ge, Sim.x_abs, Sim.x_max2, Sim.x_min2, Sim.x_intI, Sim.x_intB, Sim.x_eqI, Sim.x_neI, Sim.x_eqS, Sim.x_neS, Sim.x_lst, Sim.x_tup, Sim.x_lenL, Sim.x_lenT, Sim.x_lenR, Sim.x_tupleL, Sim.x_listL, Sim.x_listT, Sim.x_slL, Sim.x_slR, Sim.x_slT, Sim.callM, Sim.arrOf, List.filterMap_cons, List.filterMap_nil, List.getElem?_cons_zero, List.getElem?_cons_succ, List.cons_append, List.nil_append, List.append_nil, List.length_cons, List.length_nil, and_self, if_true, List.set_cons_zero, List.set_cons_succ, Bool.false_eq_true, if_false, Nat.reduceAdd, Nat.reduceSub, List.map_cons, List.map_nil, List.replicate_succ, List.replicate_zero, Bool.not_true, Bool.not_false, Sim.x_sized, Nat.reduceLeDiff, Nat.zero_add, Bool.true_and, Bool.false_and, Bool.and_true, Bool.and_false, Bool.true_or, Bool.false_or, Bool.or_true, Bool.or_false, Bool.and_self, decide_true, decide_false]
      rw [e_is_within]
      rfl
    · have e : (w.map fun x => D.bl (decide (0 ≤ x) && decide (x ≤ n - 1))) = (w.map fun x => decide (0 ≤ x) && decide (x ≤ n - 1)).map D.bl := by rw [List.map_map]; rfl
      rw [e, x_all]
      try simp -implicitDefEqProofs only [Sim.sM_pass, Sim.sM_seq, Sim.sM_asg, Sim.sM_ret, Sim.sM_expr, Sim.sM_if, Sim.sM_par, Sim.sM_asgT, Sim.sM_set, Sim.ret_bind, Sim.bind_assoc, Sim.x_var0, Sim.x_varS, Sim.x_C, Sim.x_op, Sim.x_un, Sim.x_A, Sim.x_nil, Sim.x_cons, Sim.x_call, Sim.x_and, Sim.x_or, Sim.x_not, Sim.x_if, Sim.x_tV, Sim.x_tCmp, Sim.x_tTru, Sim.x_tNot, Sim.x_tAnd, Sim.x_tOr, Sim.x_asB, Sim.x_sl, Sim.x_oNone, Sim.x_oSome, Sim.x_asI, Sim.x_trN, Sim.x_trB, Sim.x_trI, Sim.x_trL, Sim.x_trR, Sim.x_trT, Sim.x_add, Sim.x_sub, Sim.x_neg, Sim.x_lt, Sim.x_le, Sim.x_gt, Sim.x_ge, Sim.x_abs, Sim.x_max2, Sim.x_min2, Sim.x_intI, Sim.x_intB, Sim.x_eqI, Sim.x_neI, Sim.x_eqS, Sim.x_neS, Sim.x_lst, Sim.x_tup, Sim.x_lenL, Sim.x_lenT, Sim.x_lenR, Sim.x_tupleL, Sim.x_listL, Sim.x_listT, Sim.x_slL, Sim.x_slR, Sim.x_slT, Sim.callM, Sim.arrOf, List.filterMap_cons, List.filterMap_nil, List.getElem?_cons_zero, List.getElem?_cons_succ, List.cons_append, List.nil_append, List.append_nil, List.length_cons, List.length_nil, and_self, if_true, List.set_cons_zero, List.set_cons_succ, Bool.false_eq_true, if_false, Nat.reduceAdd, Nat.reduceSub, List.map_cons, List.map_nil, List.replicate_succ, List.replicate_zero, Bool.not_true, Bool.not_false, Sim.x_sized, Nat.reduceLeDiff, Nat.zero_add, Bool.true_and, Bool.false_and, Bool.and_true, Bool.and_false, Bool.true_or, Bool.false_or, Bool.or_true, Bool.or_false, Bool.and_self, decide_true, decide_false]
      rw [List.all_map]
      exact At.ret) (by simp only [D.low])
theorem e_is_text {d : D} {w : List Int} {n m : Int} (h : seqD d = some (w.map D.int)) (hl : D.low 0 d = true) (hz : w.length ≤ 16777216) : m_is_text [d, .int n, .int m] = M.ret (.bl (okT w n m)) :=
  Pu.eq fun st => at_is_text (seq_some h st) (low0 hl) hz
theorem e_need_text {d : D} {w : List Int} {n m : Int} {p : D} (h : seqD d = some (w.map D.int)) (hl : D.low 0 d = true) (hz : w.length ≤ 16777216) (ho : okT w n m = true) : m_need_text [d, .int n, p, .int m] = M.ret (tI w) := fn_eq (by
  have ht : M.of (gTuple [d]) = M.ret (tI w) := of_some fun st => by simp only [gTuple, seq_some h st, Option.map_some]
  unfold d_need_text
  try simp -implicitDefEqProofs only [Sim.sM_pass, Sim.sM_seq, Sim.sM_asg, Sim.sM_ret, Sim.sM_expr, Sim.sM_if, Sim.sM_par, Sim.sM_asgT, Sim.sM_set, Sim.ret_bind, Sim.bind_assoc, Sim.x_var0, Sim.x_varS, Sim.x_C, Sim.x_op, Sim.x_un, Sim.x_A, Sim.x_nil, Sim.x_cons, Sim.x_call, Sim.x_and, Sim.x_or, Sim.x_not, Sim.x_if, Sim.x_tV, Sim.x_tCmp, Sim.x_tTru, Sim.x_tNot, Sim.x_tAnd, Sim.x_tOr, Sim.x_asB, Sim.x_sl, Sim.x_oNone, Sim.x_oSome, Sim.x_asI, Sim.x_trN, Sim.x_trB, Sim.x_trI, Sim.x_trL, Sim.x_trR, Sim.x_trT, Sim.x_add, Sim.x_sub, Sim.x_neg, Sim.x_lt, Sim.x_le, Sim.x_gt, Sim.x_ge, Sim.x_abs, Sim.x_max2, Sim.x_min2, Sim.x_intI, Sim.x_intB, Sim.x_eqI, Sim.x_neI, Sim.x_eqS, Sim.x_neS, Sim.x_lst, Sim.x_tup, Sim.x_lenL, Sim.x_lenT, Sim.x_lenR, Sim.x_tupleL, Sim.x_listL, Sim.x_listT, Sim.x_slL, Sim.x_slR, Sim.x_slT, Sim.callM, Sim.arrOf, List.filterMap_cons, List.filterMap_nil, List.getElem?_cons_zero, List.getElem?_cons_succ, List.cons_append, List.nil_append, List.append_nil, List.length_cons, List.length_nil, and_self, if_true, List.set_cons_zero, List.set_cons_succ, Bool.false_eq_true, if_false, Nat.reduceAdd, Nat.reduceSub, List.map_cons, List.map_nil, List.replicate_succ, List.replicate_zero, Bool.not_true, Bool.not_false, Sim.x_sized, Nat.reduceLeDiff, Nat.zero_add, Bool.true_and, Bool.false_and, Bool.and_true, Bool.and_false, Bool.true_or, Bool.false_or, Bool.or_true, Bool.or_false, Bool.and_self, decide_true, decide_false]
  rw [e_is_text h hl hz, ho]
  try simp -implicitDefEqProofs only [ht, Sim.sM_pass, Sim.sM_seq, Sim.sM_asg, Sim.sM_ret, Sim.sM_expr, Sim.sM_if, Sim.sM_par, Sim.sM_asgT, Sim.sM_set, Sim.ret_bind, Sim.bind_assoc, Sim.x_var0, Sim.x_varS, Sim.x_C, Sim.x_op, Sim.x_un, Sim.x_A, Sim.x_nil, Sim.x_cons, Sim.x_call, Sim.x_and, Sim.x_or, Sim.x_not, Sim.x_if, Sim.x_tV, Sim.x_tCmp, Sim.x_tTru, Sim.x_tNot, Sim.x_tAnd, Sim.x_tOr, Sim.x_asB, Sim.x_sl, Sim.x_oNone, Sim.x_oSome, Sim.x_asI, Sim.x_trN, Sim.x_trB, Sim.x_trI, Sim.x_trL, Sim.x_trR, Sim.x_trT, Sim.x_add, Sim.x_sub, Sim.x_neg, Sim.x_lt, Sim.x_le, Sim.x_gt, Sim.x_ge, Sim.x_abs, Sim.x_max2, Sim.x_min2, Sim.x_intI, Sim.x_intB, Sim.x_eqI, Sim.x_neI, Sim.x_eqS, Sim.x_neS, Sim.x_lst, Sim.x_tup, Sim.x_lenL, Sim.x_lenT, Sim.x_lenR, Sim.x_tupleL, Sim.x_listL, Sim.x_listT, Sim.x_slL, Sim.x_slR, Sim.x_slT, Sim.callM, Sim.arrOf, List.filterMap_cons, List.filterMap_nil, List.getElem?_cons_zero, List.getElem?_cons_succ, List.cons_append, List.nil_append, List.append_nil, List.length_cons, List.length_nil, and_self, if_true, List.set_cons_zero, List.set_cons_succ, Bool.false_eq_true, if_false, Nat.reduceAdd, Nat.reduceSub, List.map_cons, List.map_nil, List.replicate_succ, List.replicate_zero, Bool.not_true, Bool.not_false, Sim.x_sized, Nat.reduceLeDiff, Nat.zero_add, Bool.true_and, Bool.false_and, Bool.and_true, Bool.and_false, Bool.true_or, Bool.false_or, Bool.or_true, Bool.or_false, Bool.and_self, decide_true, decide_false]) (low_tI w)
theorem e_need_number {i lo hi : Int} {p : D} (h : lo ≤ i ∧ i ≤ hi) : m_need_number [.int i, p, .int lo, .int hi] = M.ret (.int i) := fn_eq (by
  unfold d_need_number
  try simp -implicitDefEqProofs only [Sim.sM_pass, Sim.sM_seq, Sim.sM_asg, Sim.sM_ret, Sim.sM_expr, Sim.sM_if, Sim.sM_par, Sim.sM_asgT, Sim.sM_set, Sim.ret_bind, Sim.bind_assoc, Sim.x_var0, Sim.x_varS, Sim.x_C, Sim.x_op, Sim.x_un, Sim.x_A, Sim.x_nil, Sim.x_cons, Sim.x_call, Sim.x_and, Sim.x_or, Sim.x_not, Sim.x_if, Sim.x_tV, Sim.x_tCmp, Sim.x_tTru, Sim.x_tNot, Sim.x_tAnd, Sim.x_tOr, Sim.x_asB, Sim.x_sl, Sim.x_oNone, Sim.x_oSome, Sim.x_asI, Sim.x_trN, Sim.x_trB, Sim.x_trI, Sim.x_trL, Sim.x_trR, Sim.x_trT, Sim.x_add, Sim.x_sub, Sim.x_neg, Sim.x_lt, Sim.x_le, Sim.x_gt, Sim.x_ge, Sim.x_abs, Sim.x_max2, Sim.x_min2, Sim.x_intI, Sim.x_intB, Sim.x_eqI, Sim.x_neI, Sim.x_eqS, Sim.x_neS, Sim.x_lst, Sim.x_tup, Sim.x_lenL, Sim.x_lenT, Sim.x_lenR, Sim.x_tupleL, Sim.x_listL, Sim.x_listT, Sim.x_slL, Sim.x_slR, Sim.x_slT, Sim.callM, Sim.arrOf, List.filterMap_cons, List.filterMap_nil, List.getElem?_cons_zero, List.getElem?_cons_succ, List.cons_append, List.nil_append, List.append_nil, List.length_cons, List.length_nil, and_self, if_true, List.set_cons_zero, List.set_cons_succ, Bool.false_eq_true, if_false, Nat.reduceAdd, Nat.reduceSub, List.map_cons, List.map_nil, List.replicate_succ, List.replicate_zero, Bool.not_true, Bool.not_false, Sim.x_sized, Nat.reduceLeDiff, Nat.zero_add, Bool.true_and, Bool.false_and, Bool.and_true, Bool.and_false, Bool.true_or, Bool.false_or, Bool.or_true, Bool.or_false, Bool.and_self, decide_true, decide_false]
  rw [e_is_within, decide_eq_true h.1, decide_eq_true h.2]
  try simp -implicitDefEqProofs only [Sim.sM_pass, Sim.sM_seq, Sim.sM_asg, Sim.sM_ret, Sim.sM_expr, Sim.sM_if, Sim.sM_par, Sim.sM_asgT, Sim.sM_set, Sim.ret_bind, Sim.bind_assoc, Sim.x_var0, Sim.x_varS, Sim.x_C, Sim.x_op, Sim.x_un, Sim.x_A, Sim.x_nil, Sim.x_cons, Sim.x_call, Sim.x_and, Sim.x_or, Sim.x_not, Sim.x_if, Sim.x_tV, Sim.x_tCmp, Sim.x_tTru, Sim.x_tNot, Sim.x_tAnd, Sim.x_tOr, Sim.x_asB, Sim.x_sl, Sim.x_oNone, Sim.x_oSome, Sim.x_asI, Sim.x_trN, Sim.x_trB, Sim.x_trI, Sim.x_trL, Sim.x_trR, Sim.x_trT, Sim.x_add, Sim.x_sub, Sim.x_neg, Sim.x_lt, Sim.x_le, Sim.x_gt, Sim.x_ge, Sim.x_abs, Sim.x_max2, Sim.x_min2, Sim.x_intI, Sim.x_intB, Sim.x_eqI, Sim.x_neI, Sim.x_eqS, Sim.x_neS, Sim.x_lst, Sim.x_tup, Sim.x_lenL, Sim.x_lenT, Sim.x_lenR, Sim.x_tupleL, Sim.x_listL, Sim.x_listT, Sim.x_slL, Sim.x_slR, Sim.x_slT, Sim.callM, Sim.arrOf, List.filterMap_cons, List.filterMap_nil, List.getElem?_cons_zero, List.getElem?_cons_succ, List.cons_append, List.nil_append, List.append_nil, List.length_cons, List.length_nil, and_self, if_true, List.set_cons_zero, List.set_cons_succ, Bool.false_eq_true, if_false, Nat.reduceAdd, Nat.reduceSub, List.map_cons, List.map_nil, List.replicate_succ, List.replicate_zero, Bool.not_true, Bool.not_false, Sim.x_sized, Nat.reduceLeDiff, Nat.zero_add, Bool.true_and, Bool.false_and, Bool.and_true, Bool.and_false, Bool.true_or, Bool.false_or, Bool.or_true, Bool.or_false, Bool.and_self, decide_true, decide_false]) (by simp only [D.low])
/-! the bar -/
def barD (ws : List (List Int)) : D := .ins "Bar" [("words", tW ws)]
theorem low_bar (ws : List (List Int)) {n : Nat} : D.low n (barD ws) = true := by
  have := low_tW ws (n := n)
  simp only [barD, D.low, D.lowF, Bool.and_true] at this ⊢
  exact this
theorem x_words {ws : List (List Int)} : M.of (gFld FT "words" (barD ws)) = M.ret (tW ws) := of_some fun st => by
  simp only [gFld, insV, barD]
  rw [if_pos (by simp [FT])]
  rfl
theorem x_isBar {ws : List (List Int)} : M.of (gIsI CS KT [barD ws, .glob "Bar"]) = M.ret (.bl true) := of_some fun st => rfl
theorem x_isBarL {xs : List D} : M.of (gIsI CS KT [.lst xs, .glob "Bar"]) = M.ret (.bl false) := of_some fun st => rfl
theorem e_need_bar {ws : List (List Int)} : m_need_bar [barD ws] = M.ret (barD ws) := fn_eq (by
  unfold d_need_bar
  try simp -implicitDefEqProofs only [x_isBar, Sim.sM_pass, Sim.sM_seq, Sim.sM_asg, Sim.sM_ret, Sim.sM_expr, Sim.sM_if, Sim.sM_par, Sim.sM_asgT, Sim.sM_set, Sim.ret_bind, Sim.bind_assoc, Sim.x_var0, Sim.x_varS, Sim.x_C, Sim.x_op, Sim.x_un, Sim.x_A, Sim.x_nil, Sim.x_cons, Sim.x_call, Sim.x_and, Sim.x_or, Sim.x_not, Sim.x_if, Sim.x_tV, Sim.x_tCmp, Sim.x_tTru, Sim.x_tNot, Sim.x_tAnd, Sim.x_tOr, Sim.x_asB, Sim.x_sl, Sim.x_oNone, Sim.x_oSome, Sim.x_asI, Sim.x_trN, Sim.x_trB, Sim.x_trI, Sim.x_trL, Sim.x_trR, Sim.x_trT, Sim.x_add, Sim.x_sub, Sim.x_neg, Sim.x_lt, Sim.x_le, Sim.x_gt, Sim.x_ge, Sim.x_abs, Sim.x_max2, Sim.x_min2, Sim.x_intI, Sim.x_intB, Sim.x_eqI, Sim.x_neI, Sim.x_eqS, Sim.x_neS, Sim.x_lst, Sim.x_tup, Sim.x_lenL, Sim.x_lenT, Sim.x_lenR, Sim.x_tupleL, Sim.x_listL, Sim.x_listT, Sim.x_slL, Sim.x_slR, Sim.x_slT, Sim.callM, Sim.arrOf, List.filterMap_cons, List.filterMap_nil, List.getElem?_cons_zero, List.getElem?_cons_succ, List.cons_append, List.nil_append, List.append_nil, List.length_cons, List.length_nil, and_self, if_true, List.set_cons_zero, List.set_cons_succ, Bool.false_eq_true, if_false, Nat.reduceAdd, Nat.reduceSub, List.map_cons, List.map_nil, List.replicate_succ, List.replicate_zero, Bool.not_true, Bool.not_false, Sim.x_sized, Nat.reduceLeDiff, Nat.zero_add, Bool.true_and, Bool.false_and, Bool.and_true, Bool.and_false, Bool.true_or, Bool.false_or, Bool.or_true, Bool.or_false, Bool.and_self, decide_true, decide_false]) (low_bar ws)
/-! far_on, breaks_at -/
theorem cut_take {w : List Int} (n : Nat) : Sim.cutD (w.map D.int) none (some (n : Int)) = (w.take n).map D.int := by rw [cutD_to, List.map_take]
theorem cut_drop {w : List Int} (n : Nat) : Sim.cutD (w.map D.int) (some (n : Int)) none = (w.drop n).map D.int := by rw [cutD_from, List.map_drop]
theorem cut_last {w : List Int} (n : Nat) (h : 0 < n) : Sim.cutD (w.map D.int) (some (-(n : Int))) none = (w.drop (w.length - n)).map D.int := by rw [cutD_last n h, List.map_drop, List.length_map]
/-- good words -/
structure Good (ws : List (List Int)) : Prop where
  few : 1 ≤ ws.length ∧ ws.length ≤ 3
  nd : ws.Nodup
  ne : ∀ w ∈ ws, w ≠ []
  six : ∀ w ∈ ws, w.length ≤ 6
  let4 : ∀ w ∈ ws, ∀ i ∈ w, 0 ≤ i ∧ i ≤ 3
theorem at_any {ws : List (List Int)} (hz : ws.length ≤ 3) {y : List Int} {j : Nat} (hj : j ≤ y.length) {v1 v2 : Option D} :
    eA gAny (aCons (eComp (iSeq (eVar 0)) (.nm 5) tYesM (eOp gEq (eSl (eVar 5) oNone (oSome (eOp gSub (eA gLen (aCons (eVar 3) aNil)) (eVar 4)))) (eSl (eVar 3) (oSome (eVar 4)) oNone)) [5]) aNil)
      [some (tW ws), v1, v2, some (tI y), some (.int (j : Nat)), none] = M.ret (.bl (begins ws (y.drop j))) := by
  refine any_ret (wk_seq (v := tW ws) (g := tI) (xs := ws) ?_ rfl) (fun w => decide (w.take (y.drop j).length = y.drop j)) (by omega) fun w hw => ⟨[some (tW ws), v1, v2, some (tI y), some (.int (j : Nat)), some (tI w)], rfl, ?_⟩
  · try simp -implicitDefEqProofs only [Sim.sM_pass, Sim.sM_seq, Sim.sM_asg, Sim.sM_ret, Sim.sM_expr, Sim.sM_if, Sim.sM_par, Sim.sM_asgT, Sim.sM_set, Sim.ret_bind, Sim.bind_assoc, Sim.x_var0, Sim.x_varS, Sim.x_C, Sim.x_op, Sim.x_un, Sim.x_A, Sim.x_nil, Sim.x_cons, Sim.x_call, Sim.x_and, Sim.x_or, Sim.x_not, Sim.x_if, Sim.x_tV, Sim.x_tCmp, Sim.x_tTru, Sim.x_tNot, Sim.x_tAnd, Sim.x_tOr, Sim.x_asB, Sim.x_sl, Sim.x_oNone, Sim.x_oSome, Sim.x_asI, Sim.x_trN, Sim.x_trB, Sim.x_trI, Sim.x_trL, Sim.x_trR, Sim.x_trT, Sim.x_add, Sim.x_sub, Sim.x_neg, Sim.x_lt, Sim.x_le, Sim.x_gt, Sim.x_ge, Sim.x_abs, Sim.x_max2, Sim.x_min2, Sim.x_intI, Sim.x_intB, Sim.x_eqI, Sim.x_neI, Sim.x_eqS, Sim.x_neS, Sim.x_lst, Sim.x_tup, Sim.x_lenL, Sim.x_lenT, Sim.x_lenR, Sim.x_tupleL, Sim.x_listL, Sim.x_listT, Sim.x_slL, Sim.x_slR, Sim.x_slT, Sim.callM, Sim.arrOf, List.filterMap_cons, List.filterMap_nil, List.getElem?_cons_zero, List.getElem?_cons_succ, List.cons_append, List.nil_append, List.append_nil, List.length_cons, List.length_nil, and_self, if_true, List.set_cons_zero, List.set_cons_succ, Bool.false_eq_true, if_false, Nat.reduceAdd, Nat.reduceSub, List.map_cons, List.map_nil, List.replicate_succ, List.replicate_zero, Bool.not_true, Bool.not_false, Sim.x_sized, Nat.reduceLeDiff, Nat.zero_add, Bool.true_and, Bool.false_and, Bool.and_true, Bool.and_false, Bool.true_or, Bool.false_or, Bool.or_true, Bool.or_false, Bool.and_self, decide_true, decide_false]
  · try simp -implicitDefEqProofs only [Sim.sM_pass, Sim.sM_seq, Sim.sM_asg, Sim.sM_ret, Sim.sM_expr, Sim.sM_if, Sim.sM_par, Sim.sM_asgT, Sim.sM_set, Sim.ret_bind, Sim.bind_assoc, Sim.x_var0, Sim.x_varS, Sim.x_C, Sim.x_op, Sim.x_un, Sim.x_A, Sim.x_nil, Sim.x_cons, Sim.x_call, Sim.x_and, Sim.x_or, Sim.x_not, Sim.x_if, Sim.x_tV, Sim.x_tCmp, Sim.x_tTru, Sim.x_tNot, Sim.x_tAnd, Sim.x_tOr, Sim.x_asB, Sim.x_sl, Sim.x_oNone, Sim.x_oSome, Sim.x_asI, Sim.x_trN, Sim.x_trB, Sim.x_trI, Sim.x_trL, Sim.x_trR, Sim.x_trT, Sim.x_add, Sim.x_sub, Sim.x_neg, Sim.x_lt, Sim.x_le, Sim.x_gt, Sim.x_ge, Sim.x_abs, Sim.x_max2, Sim.x_min2, Sim.x_intI, Sim.x_intB, Sim.x_eqI, Sim.x_neI, Sim.x_eqS, Sim.x_neS, Sim.x_lst, Sim.x_tup, Sim.x_lenL, Sim.x_lenT, Sim.x_lenR, Sim.x_tupleL, Sim.x_listL, Sim.x_listT, Sim.x_slL, Sim.x_slR, Sim.x_slT, Sim.callM, Sim.arrOf, List.filterMap_cons, List.filterMap_nil, List.getElem?_cons_zero, List.getElem?_cons_succ, List.cons_append, List.nil_append, List.append_nil, List.length_cons, List.length_nil, and_self, if_true, List.set_cons_zero, List.set_cons_succ, Bool.false_eq_true, if_false, Nat.reduceAdd, Nat.reduceSub, List.map_cons, List.map_nil, List.replicate_succ, List.replicate_zero, Bool.not_true, Bool.not_false, Sim.x_sized, Nat.reduceLeDiff, Nat.zero_add, Bool.true_and, Bool.false_and, Bool.and_true, Bool.and_false, Bool.true_or, Bool.false_or, Bool.or_true, Bool.or_false, Bool.and_self, decide_true, decide_false]
    have e : ((y.map D.int).length : Int) - (j : Int) = (((y.drop j).length : Nat) : Int) := by rw [List.length_map, List.length_drop]; omega
    rw [e, cut_take, cut_drop]
    exact x_eqTI _ _
theorem farF_first {ws : List (List Int)} {y : List Int} : ∀ {j : Nat}, j ≤ y.length → (∀ i, i < j → begins ws (y.drop i) = false) → farF ws y = farF ws (y.drop j)
  | 0, _, _ => rfl
  | j + 1, hj, h => by
    rw [farF_first (Nat.le_of_succ_le hj) fun i hi => h i (by omega)]
    have e := h j (Nat.lt_succ_self j)
    rw [List.drop_eq_getElem_cons (by omega)] at e ⊢
    rw [farF_neg (by rw [e]; decide)]
theorem farF_here {ws : List (List Int)} {y : List Int} {j : Nat} (hj : j < y.length) (h : begins ws (y.drop j) = true) : farF ws (y.drop j) = y.drop j := by
  rw [List.drop_eq_getElem_cons (by omega)] at h ⊢
  exact farF_pos h
theorem e_far_on {ws : List (List Int)} {y : List Int} {l : Int} (hz : ws.length ≤ 3) (hs : ∀ w ∈ ws, w.length ≤ 6) (hy : y.length ≤ 16777000) : m_far_on [tW ws, tI y, .int l] = M.ret (tI (farF ws (y ++ [l]))) := by
  have hf : farF ws (y.drop (y.length - 5) ++ [l]) = farF ws (y ++ [l]) := by
    rw [← farF_drop hs (y ++ [l])]
    congr 1
    rw [List.length_append, List.length_singleton, show y.length + 1 - 6 = y.length - 5 by omega, List.drop_append_of_le_length (by omega)]
  have hlen : (y.drop (y.length - 5) ++ [l]).length ≤ 6 := by rw [List.length_append, List.length_drop, List.length_singleton]; omega
  generalize hr : y.drop (y.length - 5) ++ [l] = r at hf hlen
  refine fn_eq ?_ (low_tI _)
  unfold d_far_on
  try simp -implicitDefEqProofs only [Sim.sM_pass, Sim.sM_seq, Sim.sM_asg, Sim.sM_ret, Sim.sM_expr, Sim.sM_if, Sim.sM_par, Sim.sM_asgT, Sim.sM_set, Sim.ret_bind, Sim.bind_assoc, Sim.x_var0, Sim.x_varS, Sim.x_C, Sim.x_op, Sim.x_un, Sim.x_A, Sim.x_nil, Sim.x_cons, Sim.x_call, Sim.x_and, Sim.x_or, Sim.x_not, Sim.x_if, Sim.x_tV, Sim.x_tCmp, Sim.x_tTru, Sim.x_tNot, Sim.x_tAnd, Sim.x_tOr, Sim.x_asB, Sim.x_sl, Sim.x_oNone, Sim.x_oSome, Sim.x_asI, Sim.x_trN, Sim.x_trB, Sim.x_trI, Sim.x_trL, Sim.x_trR, Sim.x_trT, Sim.x_add, Sim.x_sub, Sim.x_neg, Sim.x_lt, Sim.x_le, Sim.x_gt, Sim.x_ge, Sim.x_abs, Sim.x_max2, Sim.x_min2, Sim.x_intI, Sim.x_intB, Sim.x_eqI, Sim.x_neI, Sim.x_eqS, Sim.x_neS, Sim.x_lst, Sim.x_tup, Sim.x_lenL, Sim.x_lenT, Sim.x_lenR, Sim.x_tupleL, Sim.x_listL, Sim.x_listT, Sim.x_slL, Sim.x_slR, Sim.x_slT, Sim.callM, Sim.arrOf, List.filterMap_cons, List.filterMap_nil, List.getElem?_cons_zero, List.getElem?_cons_succ, List.cons_append, List.nil_append, List.append_nil, List.length_cons, List.length_nil, and_self, if_true, List.set_cons_zero, List.set_cons_succ, Bool.false_eq_true, if_false, Nat.reduceAdd, Nat.reduceSub, List.map_cons, List.map_nil, List.replicate_succ, List.replicate_zero, Bool.not_true, Bool.not_false, Sim.x_sized, Nat.reduceLeDiff, Nat.zero_add, Bool.true_and, Bool.false_and, Bool.and_true, Bool.and_false, Bool.true_or, Bool.false_or, Bool.or_true, Bool.or_false, Bool.and_self, decide_true, decide_false]
  have c1 : Sim.cutD (y.map D.int) (some (1 - 6)) none = (y.drop (y.length - 5)).map D.int := cut_last 5 (by decide)
  rw [c1, x_addT (by simp; omega)]
  have c2 : (y.drop (y.length - 5)).map D.int ++ [D.int l] = r.map D.int := by rw [← hr, List.map_append]; rfl
  rw [c2]
  try simp -implicitDefEqProofs only [Sim.sM_pass, Sim.sM_seq, Sim.sM_asg, Sim.sM_ret, Sim.sM_expr, Sim.sM_if, Sim.sM_par, Sim.sM_asgT, Sim.sM_set, Sim.ret_bind, Sim.bind_assoc, Sim.x_var0, Sim.x_varS, Sim.x_C, Sim.x_op, Sim.x_un, Sim.x_A, Sim.x_nil, Sim.x_cons, Sim.x_call, Sim.x_and, Sim.x_or, Sim.x_not, Sim.x_if, Sim.x_tV, Sim.x_tCmp, Sim.x_tTru, Sim.x_tNot, Sim.x_tAnd, Sim.x_tOr, Sim.x_asB, Sim.x_sl, Sim.x_oNone, Sim.x_oSome, Sim.x_asI, Sim.x_trN, Sim.x_trB, Sim.x_trI, Sim.x_trL, Sim.x_trR, Sim.x_trT, Sim.x_add, Sim.x_sub, Sim.x_neg, Sim.x_lt, Sim.x_le, Sim.x_gt, Sim.x_ge, Sim.x_abs, Sim.x_max2, Sim.x_min2, Sim.x_intI, Sim.x_intB, Sim.x_eqI, Sim.x_neI, Sim.x_eqS, Sim.x_neS, Sim.x_lst, Sim.x_tup, Sim.x_lenL, Sim.x_lenT, Sim.x_lenR, Sim.x_tupleL, Sim.x_listL, Sim.x_listT, Sim.x_slL, Sim.x_slR, Sim.x_slT, Sim.callM, Sim.arrOf, List.filterMap_cons, List.filterMap_nil, List.getElem?_cons_zero, List.getElem?_cons_succ, List.cons_append, List.nil_append, List.append_nil, List.length_cons, List.length_nil, and_self, if_true, List.set_cons_zero, List.set_cons_succ, Bool.false_eq_true, if_false, Nat.reduceAdd, Nat.reduceSub, List.map_cons, List.map_nil, List.replicate_succ, List.replicate_zero, Bool.not_true, Bool.not_false, Sim.x_sized, Nat.reduceLeDiff, Nat.zero_add, Bool.true_and, Bool.false_and, Bool.and_true, Bool.and_false, Bool.true_or, Bool.false_or, Bool.or_true, Bool.or_false, Bool.and_self, decide_true, decide_false]
  obtain ⟨q, hq, hv⟩ := for_pu (mi := iRng1 (aCons (eA gLen (aCons (eVar 3) aNil)) aNil)) (t := .nm 4) (src := .ints 0 r.length) (n := r.length) (item := fun i => .int (0 + (i : Nat)))
    (body := (Sim.sIf (tTru (eA gAny (aCons (eComp (iSeq (eVar 0)) (.nm 5) tYesM (eOp gEq (eSl (eVar 5) oNone (oSome (eOp gSub (eA gLen (aCons (eVar 3) aNil)) (eVar 4)))) (eSl (eVar 3) (oSome (eVar 4)) oNone)) [5]) aNil))) (sRet (eSl (eVar 3) (oSome (eVar 4)) oNone)) sPass))
    (ev := [some (tW ws), some (tI y), some (.int l), some (tI r), none, none])
    (E := fun j ev => (∃ v, ev = [some (tW ws), some (tI y), some (.int l), some (tI r), v, none]) ∧ ∀ i, i < j → begins ws (r.drop i) = false)
    (Q := fun x => (∃ ev, x = .inl ev ∧ farF ws r = []) ∨ x = .inr (tI (farF ws r)))
    (by rw [x_iRng1]; try simp -implicitDefEqProofs only [Sim.sM_pass, Sim.sM_seq, Sim.sM_asg, Sim.sM_ret, Sim.sM_expr, Sim.sM_if, Sim.sM_par, Sim.sM_asgT, Sim.sM_set, Sim.ret_bind, Sim.bind_assoc, Sim.x_var0, Sim.x_varS, Sim.x_C, Sim.x_op, Sim.x_un, Sim.x_A, Sim.x_nil, Sim.x_cons, Sim.x_call, Sim.x_and, Sim.x_or, Sim.x_not, Sim.x_if, Sim.x_tV, Sim.x_tCmp, Sim.x_tTru, Sim.x_tNot, Sim.x_tAnd, Sim.x_tOr, Sim.x_asB, Sim.x_sl, Sim.x_oNone, Sim.x_oSome, Sim.x_asI, Sim.x_trN, Sim.x_trB, Sim.x_trI, Sim.x_trL, Sim.x_trR, Sim.x_trT, Sim.x_add, Sim.x_sub, Sim.x_neg, Sim.x_lt, Sim.x_le, Sim.x_gt, Sim.x_ge, Sim.x_abs, Sim.x_max2, Sim.x_min2, Sim.x_intI, Sim.x_intB, Sim.x_eqI, Sim.x_neI, Sim.x_eqS, Sim.x_neS, Sim.x_lst, Sim.x_tup, Sim.x_lenL, Sim.x_lenT, Sim.x_lenR, Sim.x_tupleL, Sim.x_listL, Sim.x_listT, Sim.x_slL, Sim.x_slR, Sim.x_slT, Sim.callM, Sim.arrOf, List.filterMap_cons, List.filterMap_nil, List.getElem?_cons_zero, List.getElem?_cons_succ, List.cons_append, List.nil_append, List.append_nil, List.length_cons, List.length_nil, and_self, if_true, List.set_cons_zero, List.set_cons_succ, Bool.false_eq_true, if_false, Nat.reduceAdd, Nat.reduceSub, List.map_cons, List.map_nil, List.replicate_succ, List.replicate_zero, Bool.not_true, Bool.not_false, Sim.x_sized, Nat.reduceLeDiff, Nat.zero_add, Bool.true_and, Bool.false_and, Bool.and_true, Bool.and_false, Bool.true_or, Bool.false_or, Bool.or_true, Bool.or_false, Bool.and_self, decide_true, decide_false]; rw [x_rng1 (by simp; omega)]; simp) (fun i st => rfl) (by omega) ⟨⟨_, rfl⟩, fun i hi => absurd hi (Nat.not_lt_zero _)⟩
    (fun j ev hj ⟨⟨v, hev⟩, hb⟩ => by
      subst hev
      refine ⟨[some (tW ws), some (tI y), some (.int l), some (tI r), some (.int (j : Nat)), none], by rw [Int.zero_add]; rfl, ?_⟩
      rw [sM_if, x_tTru, at_any hz (Nat.le_of_lt hj)]
      try simp -implicitDefEqProofs only [Sim.sM_pass, Sim.sM_seq, Sim.sM_asg, Sim.sM_ret, Sim.sM_expr, Sim.sM_if, Sim.sM_par, Sim.sM_asgT, Sim.sM_set, Sim.ret_bind, Sim.bind_assoc, Sim.x_var0, Sim.x_varS, Sim.x_C, Sim.x_op, Sim.x_un, Sim.x_A, Sim.x_nil, Sim.x_cons, Sim.x_call, Sim.x_and, Sim.x_or, Sim.x_not, Sim.x_if, Sim.x_tV, Sim.x_tCmp, Sim.x_tTru, Sim.x_tNot, Sim.x_tAnd, Sim.x_tOr, Sim.x_asB, Sim.x_sl, Sim.x_oNone, Sim.x_oSome, Sim.x_asI, Sim.x_trN, Sim.x_trB, Sim.x_trI, Sim.x_trL, Sim.x_trR, Sim.x_trT, Sim.x_add, Sim.x_sub, Sim.x_neg, Sim.x_lt, Sim.x_le, Sim.x_gt, Sim.x_ge, Sim.x_abs, Sim.x_max2, Sim.x_min2, Sim.x_intI, Sim.x_intB, Sim.x_eqI, Sim.x_neI, Sim.x_eqS, Sim.x_neS, Sim.x_lst, Sim.x_tup, Sim.x_lenL, Sim.x_lenT, Sim.x_lenR, Sim.x_tupleL, Sim.x_listL, Sim.x_listT, Sim.x_slL, Sim.x_slR, Sim.x_slT, Sim.callM, Sim.arrOf, List.filterMap_cons, List.filterMap_nil, List.getElem?_cons_zero, List.getElem?_cons_succ, List.cons_append, List.nil_append, List.append_nil, List.length_cons, List.length_nil, and_self, if_true, List.set_cons_zero, List.set_cons_succ, Bool.false_eq_true, if_false, Nat.reduceAdd, Nat.reduceSub, List.map_cons, List.map_nil, List.replicate_succ, List.replicate_zero, Bool.not_true, Bool.not_false, Sim.x_sized, Nat.reduceLeDiff, Nat.zero_add, Bool.true_and, Bool.false_and, Bool.and_true, Bool.and_false, Bool.true_or, Bool.false_or, Bool.or_true, Bool.or_false, Bool.and_self, decide_true, decide_false]
      cases hbj : begins ws (r.drop j) with
      | true =>
        refine ⟨.inr (tI (farF ws r)), ?_, .inr rfl⟩
        try simp -implicitDefEqProofs only [Sim.sM_pass, Sim.sM_seq, Sim.sM_asg, Sim.sM_ret, Sim.sM_expr, Sim.sM_if, Sim.sM_par, Sim.sM_asgT, Sim.sM_set, Sim.ret_bind, Sim.bind_assoc, Sim.x_var0, Sim.x_varS, Sim.x_C, Sim.x_op, Sim.x_un, Sim.x_A, Sim.x_nil, Sim.x_cons, Sim.x_call, Sim.x_and, Sim.x_or, Sim.x_not, Sim.x_if, Sim.x_tV, Sim.x_tCmp, Sim.x_tTru, Sim.x_tNot, Sim.x_tAnd, Sim.x_tOr, Sim.x_asB, Sim.x_sl, Sim.x_oNone, Sim.x_oSome, Sim.x_asI, Sim.x_trN, Sim.x_trB, Sim.x_trI, Sim.x_trL, Sim.x_trR, Sim.x_trT, Sim.x_add, Sim.x_sub, Sim.x_neg, Sim.x_lt, Sim.x_le, Sim.x_gt, Sim.x_ge, Sim.x_abs, Sim.x_max2, Sim.x_min2, Sim.x_intI, Sim.x_intB, Sim.x_eqI, Sim.x_neI, Sim.x_eqS, Sim.x_neS, Sim.x_lst, Sim.x_tup, Sim.x_lenL, Sim.x_lenT, Sim.x_lenR, Sim.x_tupleL, Sim.x_listL, Sim.x_listT, Sim.x_slL, Sim.x_slR, Sim.x_slT, Sim.callM, Sim.arrOf, List.filterMap_cons, List.filterMap_nil, List.getElem?_cons_zero, List.getElem?_cons_succ, List.cons_append, List.nil_append, List.append_nil, List.length_cons, List.length_nil, and_self, if_true, List.set_cons_zero, List.set_cons_succ, Bool.false_eq_true, if_false, Nat.reduceAdd, Nat.reduceSub, List.map_cons, List.map_nil, List.replicate_succ, List.replicate_zero, Bool.not_true, Bool.not_false, Sim.x_sized, Nat.reduceLeDiff, Nat.zero_add, Bool.true_and, Bool.false_and, Bool.and_true, Bool.and_false, Bool.true_or, Bool.false_or, Bool.or_true, Bool.or_false, Bool.and_self, decide_true, decide_false]
        rw [cut_drop, farF_first (Nat.le_of_lt hj) hb, farF_here hj hbj]
      | false =>
        refine ⟨.inl _, by try simp -implicitDefEqProofs only [Sim.sM_pass, Sim.sM_seq, Sim.sM_asg, Sim.sM_ret, Sim.sM_expr, Sim.sM_if, Sim.sM_par, Sim.sM_asgT, Sim.sM_set, Sim.ret_bind, Sim.bind_assoc, Sim.x_var0, Sim.x_varS, Sim.x_C, Sim.x_op, Sim.x_un, Sim.x_A, Sim.x_nil, Sim.x_cons, Sim.x_call, Sim.x_and, Sim.x_or, Sim.x_not, Sim.x_if, Sim.x_tV, Sim.x_tCmp, Sim.x_tTru, Sim.x_tNot, Sim.x_tAnd, Sim.x_tOr, Sim.x_asB, Sim.x_sl, Sim.x_oNone, Sim.x_oSome, Sim.x_asI, Sim.x_trN, Sim.x_trB, Sim.x_trI, Sim.x_trL, Sim.x_trR, Sim.x_trT, Sim.x_add, Sim.x_sub, Sim.x_neg, Sim.x_lt, Sim.x_le, Sim.x_gt, Sim.x_ge, Sim.x_abs, Sim.x_max2, Sim.x_min2, Sim.x_intI, Sim.x_intB, Sim.x_eqI, Sim.x_neI, Sim.x_eqS, Sim.x_neS, Sim.x_lst, Sim.x_tup, Sim.x_lenL, Sim.x_lenT, Sim.x_lenR, Sim.x_tupleL, Sim.x_listL, Sim.x_listT, Sim.x_slL, Sim.x_slR, Sim.x_slT, Sim.callM, Sim.arrOf, List.filterMap_cons, List.filterMap_nil, List.getElem?_cons_zero, List.getElem?_cons_succ, List.cons_append, List.nil_append, List.append_nil, List.length_cons, List.length_nil, and_self, if_true, List.set_cons_zero, List.set_cons_succ, Bool.false_eq_true, if_false, Nat.reduceAdd, Nat.reduceSub, List.map_cons, List.map_nil, List.replicate_succ, List.replicate_zero, Bool.not_true, Bool.not_false, Sim.x_sized, Nat.reduceLeDiff, Nat.zero_add, Bool.true_and, Bool.false_and, Bool.and_true, Bool.and_false, Bool.true_or, Bool.false_or, Bool.or_true, Bool.or_false, Bool.and_self, decide_true, decide_false]; rfl, ⟨_, rfl⟩, fun i hi => ?_⟩
        by_cases e : i = j
        · subst e; exact hbj
        · exact hb i (by omega))
    (fun ev ⟨_, hb⟩ => .inl ⟨ev, rfl, by rw [farF_first (Nat.le_refl _) hb, List.drop_length]; rfl⟩)
  rw [hq]
  rcases hv with ⟨ev, e, hn⟩ | e
  · subst e
    try simp -implicitDefEqProofs only [Sim.sM_pass, Sim.sM_seq, Sim.sM_asg, Sim.sM_ret, Sim.sM_expr, Sim.sM_if, Sim.sM_par, Sim.sM_asgT, Sim.sM_set, Sim.ret_bind, Sim.bind_assoc, Sim.x_var0, Sim.x_varS, Sim.x_C, Sim.x_op, Sim.x_un, Sim.x_A, Sim.x_nil, Sim.x_cons, Sim.x_call, Sim.x_and, Sim.x_or, Sim.x_not, Sim.x_if, Sim.x_tV, Sim.x_tCmp, Sim.x_tTru, Sim.x_tNot, Sim.x_tAnd, Sim.x_tOr, Sim.x_asB, Sim.x_sl, Sim.x_oNone, Sim.x_oSome, Sim.x_asI, Sim.x_trN, Sim.x_trB, Sim.x_trI, Sim.x_trL, Sim.x_trR, Sim.x_trT, Sim.x_add, Sim.x_sub, Sim.x_neg, Sim.x_lt, Sim.x_le, Sim.x_gt, Sim.x_ge, Sim.x_abs, Sim.x_max2, Sim.x_min2, Sim.x_intI, Sim.x_intB, Sim.x_eqI, Sim.x_neI, Sim.x_eqS, Sim.x_neS, Sim.x_lst, Sim.x_tup, Sim.x_lenL, Sim.x_lenT, Sim.x_lenR, Sim.x_tupleL, Sim.x_listL, Sim.x_listT, Sim.x_slL, Sim.x_slR, Sim.x_slT, Sim.callM, Sim.arrOf, List.filterMap_cons, List.filterMap_nil, List.getElem?_cons_zero, List.getElem?_cons_succ, List.cons_append, List.nil_append, List.append_nil, List.length_cons, List.length_nil, and_self, if_true, List.set_cons_zero, List.set_cons_succ, Bool.false_eq_true, if_false, Nat.reduceAdd, Nat.reduceSub, List.map_cons, List.map_nil, List.replicate_succ, List.replicate_zero, Bool.not_true, Bool.not_false, Sim.x_sized, Nat.reduceLeDiff, Nat.zero_add, Bool.true_and, Bool.false_and, Bool.and_true, Bool.and_false, Bool.true_or, Bool.false_or, Bool.or_true, Bool.or_false, Bool.and_self, decide_true, decide_false]
    rw [← hf, hn]; rfl
  · subst e
    try simp -implicitDefEqProofs only [Sim.sM_pass, Sim.sM_seq, Sim.sM_asg, Sim.sM_ret, Sim.sM_expr, Sim.sM_if, Sim.sM_par, Sim.sM_asgT, Sim.sM_set, Sim.ret_bind, Sim.bind_assoc, Sim.x_var0, Sim.x_varS, Sim.x_C, Sim.x_op, Sim.x_un, Sim.x_A, Sim.x_nil, Sim.x_cons, Sim.x_call, Sim.x_and, Sim.x_or, Sim.x_not, Sim.x_if, Sim.x_tV, Sim.x_tCmp, Sim.x_tTru, Sim.x_tNot, Sim.x_tAnd, Sim.x_tOr, Sim.x_asB, Sim.x_sl, Sim.x_oNone, Sim.x_oSome, Sim.x_asI, Sim.x_trN, Sim.x_trB, Sim.x_trI, Sim.x_trL, Sim.x_trR, Sim.x_trT, Sim.x_add, Sim.x_sub, Sim.x_neg, Sim.x_lt, Sim.x_le, Sim.x_gt, Sim.x_ge, Sim.x_abs, Sim.x_max2, Sim.x_min2, Sim.x_intI, Sim.x_intB, Sim.x_eqI, Sim.x_neI, Sim.x_eqS, Sim.x_neS, Sim.x_lst, Sim.x_tup, Sim.x_lenL, Sim.x_lenT, Sim.x_lenR, Sim.x_tupleL, Sim.x_listL, Sim.x_listT, Sim.x_slL, Sim.x_slR, Sim.x_slT, Sim.callM, Sim.arrOf, List.filterMap_cons, List.filterMap_nil, List.getElem?_cons_zero, List.getElem?_cons_succ, List.cons_append, List.nil_append, List.append_nil, List.length_cons, List.length_nil, and_self, if_true, List.set_cons_zero, List.set_cons_succ, Bool.false_eq_true, if_false, Nat.reduceAdd, Nat.reduceSub, List.map_cons, List.map_nil, List.replicate_succ, List.replicate_zero, Bool.not_true, Bool.not_false, Sim.x_sized, Nat.reduceLeDiff, Nat.zero_add, Bool.true_and, Bool.false_and, Bool.and_true, Bool.and_false, Bool.true_or, Bool.false_or, Bool.or_true, Bool.or_false, Bool.and_self, decide_true, decide_false]
    rw [hf]
theorem e_breaks_at {ws : List (List Int)} {y : List Int} (hz : ws.length ≤ 3) (hn : ∀ w ∈ ws, w ≠ []) : m_breaks_at [tW ws, tI y] = M.ret (.bl (breaks ws y)) := fn_eq (by
  unfold d_breaks_at
  rw [sM_ret]
  rw [any_ret (wk_seq (v := tW ws) (g := tI) (xs := ws) (by try simp -implicitDefEqProofs only [Sim.sM_pass, Sim.sM_seq, Sim.sM_asg, Sim.sM_ret, Sim.sM_expr, Sim.sM_if, Sim.sM_par, Sim.sM_asgT, Sim.sM_set, Sim.ret_bind, Sim.bind_assoc, Sim.x_var0, Sim.x_varS, Sim.x_C, Sim.x_op, Sim.x_un, Sim.x_A, Sim.x_nil, Sim.x_cons, Sim.x_call, Sim.x_and, Sim.x_or, Sim.x_not, Sim.x_if, Sim.x_tV, Sim.x_tCmp, Sim.x_tTru, Sim.x_tNot, Sim.x_tAnd, Sim.x_tOr, Sim.x_asB, Sim.x_sl, Sim.x_oNone, Sim.x_oSome, Sim.x_asI, Sim.x_trN, Sim.x_trB, Sim.x_trI, Sim.x_trL, Sim.x_trR, Sim.x_trT, Sim.x_add, Sim.x_sub, Sim.x_neg, Sim.x_lt, Sim.x_le, Sim.x_gt, Sim.x_ge, Sim.x_abs, Sim.x_max2, Sim.x_min2, Sim.x_intI, Sim.x_intB, Sim.x_eqI, Sim.x_neI, Sim.x_eqS, Sim.x_neS, Sim.x_lst, Sim.x_tup, Sim.x_lenL, Sim.x_lenT, Sim.x_lenR, Sim.x_tupleL, Sim.x_listL, Sim.x_listT, Sim.x_slL, Sim.x_slR, Sim.x_slT, Sim.callM, Sim.arrOf, List.filterMap_cons, List.filterMap_nil, List.getElem?_cons_zero, List.getElem?_cons_succ, List.cons_append, List.nil_append, List.append_nil, List.length_cons, List.length_nil, and_self, if_true, List.set_cons_zero, List.set_cons_succ, Bool.false_eq_true, if_false, Nat.reduceAdd, Nat.reduceSub, List.map_cons, List.map_nil, List.replicate_succ, List.replicate_zero, Bool.not_true, Bool.not_false, Sim.x_sized, Nat.reduceLeDiff, Nat.zero_add, Bool.true_and, Bool.false_and, Bool.and_true, Bool.and_false, Bool.true_or, Bool.false_or, Bool.or_true, Bool.or_false, Bool.and_self, decide_true, decide_false]) rfl) (fun w => decide (y.drop (y.length - w.length) = w)) (by omega) fun w hw => ⟨[some (tW ws), some (tI y), some (tI w)], rfl, by
    try simp -implicitDefEqProofs only [Sim.sM_pass, Sim.sM_seq, Sim.sM_asg, Sim.sM_ret, Sim.sM_expr, Sim.sM_if, Sim.sM_par, Sim.sM_asgT, Sim.sM_set, Sim.ret_bind, Sim.bind_assoc, Sim.x_var0, Sim.x_varS, Sim.x_C, Sim.x_op, Sim.x_un, Sim.x_A, Sim.x_nil, Sim.x_cons, Sim.x_call, Sim.x_and, Sim.x_or, Sim.x_not, Sim.x_if, Sim.x_tV, Sim.x_tCmp, Sim.x_tTru, Sim.x_tNot, Sim.x_tAnd, Sim.x_tOr, Sim.x_asB, Sim.x_sl, Sim.x_oNone, Sim.x_oSome, Sim.x_asI, Sim.x_trN, Sim.x_trB, Sim.x_trI, Sim.x_trL, Sim.x_trR, Sim.x_trT, Sim.x_add, Sim.x_sub, Sim.x_neg, Sim.x_lt, Sim.x_le, Sim.x_gt, Sim.x_ge, Sim.x_abs, Sim.x_max2, Sim.x_min2, Sim.x_intI, Sim.x_intB, Sim.x_eqI, Sim.x_neI, Sim.x_eqS, Sim.x_neS, Sim.x_lst, Sim.x_tup, Sim.x_lenL, Sim.x_lenT, Sim.x_lenR, Sim.x_tupleL, Sim.x_listL, Sim.x_listT, Sim.x_slL, Sim.x_slR, Sim.x_slT, Sim.callM, Sim.arrOf, List.filterMap_cons, List.filterMap_nil, List.getElem?_cons_zero, List.getElem?_cons_succ, List.cons_append, List.nil_append, List.append_nil, List.length_cons, List.length_nil, and_self, if_true, List.set_cons_zero, List.set_cons_succ, Bool.false_eq_true, if_false, Nat.reduceAdd, Nat.reduceSub, List.map_cons, List.map_nil, List.replicate_succ, List.replicate_zero, Bool.not_true, Bool.not_false, Sim.x_sized, Nat.reduceLeDiff, Nat.zero_add, Bool.true_and, Bool.false_and, Bool.and_true, Bool.and_false, Bool.true_or, Bool.false_or, Bool.or_true, Bool.or_false, Bool.and_self, decide_true, decide_false]
    have hp : 0 < w.length := List.length_pos_iff.mpr (hn w hw)
    rw [List.length_map, cut_last _ hp]
    exact x_eqTI _ _⟩]
  rfl)
theorem okT_of {y : List Int} {m : Int} (h1 : (y.length : Int) ≤ m) (h2 : ∀ i ∈ y, 0 ≤ i ∧ i ≤ 3) : okT y 4 m = true := by
  unfold okT
  rw [decide_eq_true h1, Bool.true_and, List.all_eq_true]
  intro i hi
  obtain ⟨a, b⟩ := h2 i hi
  rw [decide_eq_true a, decide_eq_true (by omega : i ≤ 4 - 1)]; rfl
theorem e_far {ws : List (List Int)} {d : D} {y : List Int} {l : Int} (g : Good ws) (hd : seqD d = some (y.map D.int)) (hdl : D.low 0 d = true) (hy : y.length ≤ 1000) (h4 : ∀ i ∈ y, 0 ≤ i ∧ i ≤ 3) (hl : 0 ≤ l ∧ l ≤ 3) :
    m_far [barD ws, d, .int l] = M.ret (tI (farF ws (y ++ [l]))) := fn_eq (by
  unfold d_far
  try simp -implicitDefEqProofs only [e_need_bar, x_words, e_need_text hd hdl (by omega) (okT_of (by omega : (y.length : Int) ≤ 1000) h4), e_need_number hl, e_far_on g.few.2 g.six (by omega : y.length ≤ 16777000), Sim.sM_pass, Sim.sM_seq, Sim.sM_asg, Sim.sM_ret, Sim.sM_expr, Sim.sM_if, Sim.sM_par, Sim.sM_asgT, Sim.sM_set, Sim.ret_bind, Sim.bind_assoc, Sim.x_var0, Sim.x_varS, Sim.x_C, Sim.x_op, Sim.x_un, Sim.x_A, Sim.x_nil, Sim.x_cons, Sim.x_call, Sim.x_and, Sim.x_or, Sim.x_not, Sim.x_if, Sim.x_tV, Sim.x_tCmp, Sim.x_tTru, Sim.x_tNot, Sim.x_tAnd, Sim.x_tOr, Sim.x_asB, Sim.x_sl, Sim.x_oNone, Sim.x_oSome, Sim.x_asI, Sim.x_trN, Sim.x_trB, Sim.x_trI, Sim.x_trL, Sim.x_trR, Sim.x_trT, Sim.x_add, Sim.x_sub, Sim.x_neg, Sim.x_lt, Sim.x_le, Sim.x_gt, Sim.x_ge, Sim.x_abs, Sim.x_max2, Sim.x_min2, Sim.x_intI, Sim.x_intB, Sim.x_eqI, Sim.x_neI, Sim.x_eqS, Sim.x_neS, Sim.x_lst, Sim.x_tup, Sim.x_lenL, Sim.x_lenT, Sim.x_lenR, Sim.x_tupleL, Sim.x_listL, Sim.x_listT, Sim.x_slL, Sim.x_slR, Sim.x_slT, Sim.callM, Sim.arrOf, List.filterMap_cons, List.filterMap_nil, List.getElem?_cons_zero, List.getElem?_cons_succ, List.cons_append, List.nil_append, List.append_nil, List.length_cons, List.length_nil, and_self, if_true, List.set_cons_zero, List.set_cons_succ, Bool.false_eq_true, if_false, Nat.reduceAdd, Nat.reduceSub, List.map_cons, List.map_nil, List.replicate_succ, List.replicate_zero, Bool.not_true, Bool.not_false, Sim.x_sized, Nat.reduceLeDiff, Nat.zero_add, Bool.true_and, Bool.false_and, Bool.and_true, Bool.and_false, Bool.true_or, Bool.false_or, Bool.or_true, Bool.or_false, Bool.and_self, decide_true, decide_false]) (low_tI _)
theorem e_is_broken {ws : List (List Int)} {d : D} {y : List Int} (g : Good ws) (hd : seqD d = some (y.map D.int)) (hdl : D.low 0 d = true) (hy : y.length ≤ 1000) (h4 : ∀ i ∈ y, 0 ≤ i ∧ i ≤ 3) :
    m_is_broken [barD ws, d] = M.ret (.bl (breaks ws y)) := fn_eq (by
  unfold d_is_broken
  try simp -implicitDefEqProofs only [e_need_bar, x_words, e_need_text hd hdl (by omega) (okT_of (by omega : (y.length : Int) ≤ 1000) h4), e_breaks_at g.few.2 g.ne, Sim.sM_pass, Sim.sM_seq, Sim.sM_asg, Sim.sM_ret, Sim.sM_expr, Sim.sM_if, Sim.sM_par, Sim.sM_asgT, Sim.sM_set, Sim.ret_bind, Sim.bind_assoc, Sim.x_var0, Sim.x_varS, Sim.x_C, Sim.x_op, Sim.x_un, Sim.x_A, Sim.x_nil, Sim.x_cons, Sim.x_call, Sim.x_and, Sim.x_or, Sim.x_not, Sim.x_if, Sim.x_tV, Sim.x_tCmp, Sim.x_tTru, Sim.x_tNot, Sim.x_tAnd, Sim.x_tOr, Sim.x_asB, Sim.x_sl, Sim.x_oNone, Sim.x_oSome, Sim.x_asI, Sim.x_trN, Sim.x_trB, Sim.x_trI, Sim.x_trL, Sim.x_trR, Sim.x_trT, Sim.x_add, Sim.x_sub, Sim.x_neg, Sim.x_lt, Sim.x_le, Sim.x_gt, Sim.x_ge, Sim.x_abs, Sim.x_max2, Sim.x_min2, Sim.x_intI, Sim.x_intB, Sim.x_eqI, Sim.x_neI, Sim.x_eqS, Sim.x_neS, Sim.x_lst, Sim.x_tup, Sim.x_lenL, Sim.x_lenT, Sim.x_lenR, Sim.x_tupleL, Sim.x_listL, Sim.x_listT, Sim.x_slL, Sim.x_slR, Sim.x_slT, Sim.callM, Sim.arrOf, List.filterMap_cons, List.filterMap_nil, List.getElem?_cons_zero, List.getElem?_cons_succ, List.cons_append, List.nil_append, List.append_nil, List.length_cons, List.length_nil, and_self, if_true, List.set_cons_zero, List.set_cons_succ, Bool.false_eq_true, if_false, Nat.reduceAdd, Nat.reduceSub, List.map_cons, List.map_nil, List.replicate_succ, List.replicate_zero, Bool.not_true, Bool.not_false, Sim.x_sized, Nat.reduceLeDiff, Nat.zero_add, Bool.true_and, Bool.false_and, Bool.and_true, Bool.and_false, Bool.true_or, Bool.false_or, Bool.or_true, Bool.or_false, Bool.and_self, decide_true, decide_false])
/-! the law's own -/
theorem e_truth {b : Bool} : m__law_truth [.bl b, .bl b] = M.ret (.bl true) := fn_eq (by
  have h : ∀ c, M.of (gIs false (.bl b) (.bl c)) = M.ret (.bl (b == c)) := fun c => rfl
  unfold d__law_truth
  try simp -implicitDefEqProofs only [h, Sim.sM_pass, Sim.sM_seq, Sim.sM_asg, Sim.sM_ret, Sim.sM_expr, Sim.sM_if, Sim.sM_par, Sim.sM_asgT, Sim.sM_set, Sim.ret_bind, Sim.bind_assoc, Sim.x_var0, Sim.x_varS, Sim.x_C, Sim.x_op, Sim.x_un, Sim.x_A, Sim.x_nil, Sim.x_cons, Sim.x_call, Sim.x_and, Sim.x_or, Sim.x_not, Sim.x_if, Sim.x_tV, Sim.x_tCmp, Sim.x_tTru, Sim.x_tNot, Sim.x_tAnd, Sim.x_tOr, Sim.x_asB, Sim.x_sl, Sim.x_oNone, Sim.x_oSome, Sim.x_asI, Sim.x_trN, Sim.x_trB, Sim.x_trI, Sim.x_trL, Sim.x_trR, Sim.x_trT, Sim.x_add, Sim.x_sub, Sim.x_neg, Sim.x_lt, Sim.x_le, Sim.x_gt, Sim.x_ge, Sim.x_abs, Sim.x_max2, Sim.x_min2, Sim.x_intI, Sim.x_intB, Sim.x_eqI, Sim.x_neI, Sim.x_eqS, Sim.x_neS, Sim.x_lst, Sim.x_tup, Sim.x_lenL, Sim.x_lenT, Sim.x_lenR, Sim.x_tupleL, Sim.x_listL, Sim.x_listT, Sim.x_slL, Sim.x_slR, Sim.x_slT, Sim.callM, Sim.arrOf, List.filterMap_cons, List.filterMap_nil, List.getElem?_cons_zero, List.getElem?_cons_succ, List.cons_append, List.nil_append, List.append_nil, List.length_cons, List.length_nil, and_self, if_true, List.set_cons_zero, List.set_cons_succ, Bool.false_eq_true, if_false, Nat.reduceAdd, Nat.reduceSub, List.map_cons, List.map_nil, List.replicate_succ, List.replicate_zero, Bool.not_true, Bool.not_false, Sim.x_sized, Nat.reduceLeDiff, Nat.zero_add, Bool.true_and, Bool.false_and, Bool.and_true, Bool.and_false, Bool.true_or, Bool.false_or, Bool.or_true, Bool.or_false, Bool.and_self, decide_true, decide_false]
  cases b <;> rfl)
theorem x_isTup {xs : List D} : M.of (gIsi [.tup xs, .ty "tuple"]) = M.ret (.bl true) := rfl
theorem e_plain {y : List Int} (hz : y.length ≤ 16777216) : m__law_plain [tI y, tI y] = M.ret (.bl true) := fn_eq (by
  unfold d__law_plain
  try simp -implicitDefEqProofs only [x_isTup, Sim.sM_pass, Sim.sM_seq, Sim.sM_asg, Sim.sM_ret, Sim.sM_expr, Sim.sM_if, Sim.sM_par, Sim.sM_asgT, Sim.sM_set, Sim.ret_bind, Sim.bind_assoc, Sim.x_var0, Sim.x_varS, Sim.x_C, Sim.x_op, Sim.x_un, Sim.x_A, Sim.x_nil, Sim.x_cons, Sim.x_call, Sim.x_and, Sim.x_or, Sim.x_not, Sim.x_if, Sim.x_tV, Sim.x_tCmp, Sim.x_tTru, Sim.x_tNot, Sim.x_tAnd, Sim.x_tOr, Sim.x_asB, Sim.x_sl, Sim.x_oNone, Sim.x_oSome, Sim.x_asI, Sim.x_trN, Sim.x_trB, Sim.x_trI, Sim.x_trL, Sim.x_trR, Sim.x_trT, Sim.x_add, Sim.x_sub, Sim.x_neg, Sim.x_lt, Sim.x_le, Sim.x_gt, Sim.x_ge, Sim.x_abs, Sim.x_max2, Sim.x_min2, Sim.x_intI, Sim.x_intB, Sim.x_eqI, Sim.x_neI, Sim.x_eqS, Sim.x_neS, Sim.x_lst, Sim.x_tup, Sim.x_lenL, Sim.x_lenT, Sim.x_lenR, Sim.x_tupleL, Sim.x_listL, Sim.x_listT, Sim.x_slL, Sim.x_slR, Sim.x_slT, Sim.callM, Sim.arrOf, List.filterMap_cons, List.filterMap_nil, List.getElem?_cons_zero, List.getElem?_cons_succ, List.cons_append, List.nil_append, List.append_nil, List.length_cons, List.length_nil, and_self, if_true, List.set_cons_zero, List.set_cons_succ, Bool.false_eq_true, if_false, Nat.reduceAdd, Nat.reduceSub, List.map_cons, List.map_nil, List.replicate_succ, List.replicate_zero, Bool.not_true, Bool.not_false, Sim.x_sized, Nat.reduceLeDiff, Nat.zero_add, Bool.true_and, Bool.false_and, Bool.and_true, Bool.and_false, Bool.true_or, Bool.false_or, Bool.or_true, Bool.or_false, Bool.and_self, decide_true, decide_false]
  have hz2 : (y.zip y).length ≤ 16777216 := by rw [List.length_zip]; omega
  rw [all_retB (wk_zip (xs := y) (ys := y) (ga := D.int) (gb := D.int) (v := tI y) (u := tI y) (by try simp -implicitDefEqProofs only [Sim.sM_pass, Sim.sM_seq, Sim.sM_asg, Sim.sM_ret, Sim.sM_expr, Sim.sM_if, Sim.sM_par, Sim.sM_asgT, Sim.sM_set, Sim.ret_bind, Sim.bind_assoc, Sim.x_var0, Sim.x_varS, Sim.x_C, Sim.x_op, Sim.x_un, Sim.x_A, Sim.x_nil, Sim.x_cons, Sim.x_call, Sim.x_and, Sim.x_or, Sim.x_not, Sim.x_if, Sim.x_tV, Sim.x_tCmp, Sim.x_tTru, Sim.x_tNot, Sim.x_tAnd, Sim.x_tOr, Sim.x_asB, Sim.x_sl, Sim.x_oNone, Sim.x_oSome, Sim.x_asI, Sim.x_trN, Sim.x_trB, Sim.x_trI, Sim.x_trL, Sim.x_trR, Sim.x_trT, Sim.x_add, Sim.x_sub, Sim.x_neg, Sim.x_lt, Sim.x_le, Sim.x_gt, Sim.x_ge, Sim.x_abs, Sim.x_max2, Sim.x_min2, Sim.x_intI, Sim.x_intB, Sim.x_eqI, Sim.x_neI, Sim.x_eqS, Sim.x_neS, Sim.x_lst, Sim.x_tup, Sim.x_lenL, Sim.x_lenT, Sim.x_lenR, Sim.x_tupleL, Sim.x_listL, Sim.x_listT, Sim.x_slL, Sim.x_slR, Sim.x_slT, Sim.callM, Sim.arrOf, List.filterMap_cons, List.filterMap_nil, List.getElem?_cons_zero, List.getElem?_cons_succ, List.cons_append, List.nil_append, List.append_nil, List.length_cons, List.length_nil, and_self, if_true, List.set_cons_zero, List.set_cons_succ, Bool.false_eq_true, if_false, Nat.reduceAdd, Nat.reduceSub, List.map_cons, List.map_nil, List.replicate_succ, List.replicate_zero, Bool.not_true, Bool.not_false, Sim.x_sized, Nat.reduceLeDiff, Nat.zero_add, Bool.true_and, Bool.false_and, Bool.and_true, Bool.and_false, Bool.true_or, Bool.false_or, Bool.or_true, Bool.or_false, Bool.and_self, decide_true, decide_false]) rfl rfl) (fun p => decide (p.1 = p.2)) hz2 fun p hp => ⟨[some (tI y), some (tI y), some (.int p.1), some (.int p.2)], by simp only [Tgt.put, Tgt.puts]; rfl, by
      try simp -implicitDefEqProofs only [Sim.sM_pass, Sim.sM_seq, Sim.sM_asg, Sim.sM_ret, Sim.sM_expr, Sim.sM_if, Sim.sM_par, Sim.sM_asgT, Sim.sM_set, Sim.ret_bind, Sim.bind_assoc, Sim.x_var0, Sim.x_varS, Sim.x_C, Sim.x_op, Sim.x_un, Sim.x_A, Sim.x_nil, Sim.x_cons, Sim.x_call, Sim.x_and, Sim.x_or, Sim.x_not, Sim.x_if, Sim.x_tV, Sim.x_tCmp, Sim.x_tTru, Sim.x_tNot, Sim.x_tAnd, Sim.x_tOr, Sim.x_asB, Sim.x_sl, Sim.x_oNone, Sim.x_oSome, Sim.x_asI, Sim.x_trN, Sim.x_trB, Sim.x_trI, Sim.x_trL, Sim.x_trR, Sim.x_trT, Sim.x_add, Sim.x_sub, Sim.x_neg, Sim.x_lt, Sim.x_le, Sim.x_gt, Sim.x_ge, Sim.x_abs, Sim.x_max2, Sim.x_min2, Sim.x_intI, Sim.x_intB, Sim.x_eqI, Sim.x_neI, Sim.x_eqS, Sim.x_neS, Sim.x_lst, Sim.x_tup, Sim.x_lenL, Sim.x_lenT, Sim.x_lenR, Sim.x_tupleL, Sim.x_listL, Sim.x_listT, Sim.x_slL, Sim.x_slR, Sim.x_slT, Sim.callM, Sim.arrOf, List.filterMap_cons, List.filterMap_nil, List.getElem?_cons_zero, List.getElem?_cons_succ, List.cons_append, List.nil_append, List.append_nil, List.length_cons, List.length_nil, and_self, if_true, List.set_cons_zero, List.set_cons_succ, Bool.false_eq_true, if_false, Nat.reduceAdd, Nat.reduceSub, List.map_cons, List.map_nil, List.replicate_succ, List.replicate_zero, Bool.not_true, Bool.not_false, Sim.x_sized, Nat.reduceLeDiff, Nat.zero_add, Bool.true_and, Bool.false_and, Bool.and_true, Bool.and_false, Bool.true_or, Bool.false_or, Bool.or_true, Bool.or_false, Bool.and_self, decide_true, decide_false]
      rw [isi_int (by simp [tyN])]
      try simp -implicitDefEqProofs only [Sim.sM_pass, Sim.sM_seq, Sim.sM_asg, Sim.sM_ret, Sim.sM_expr, Sim.sM_if, Sim.sM_par, Sim.sM_asgT, Sim.sM_set, Sim.ret_bind, Sim.bind_assoc, Sim.x_var0, Sim.x_varS, Sim.x_C, Sim.x_op, Sim.x_un, Sim.x_A, Sim.x_nil, Sim.x_cons, Sim.x_call, Sim.x_and, Sim.x_or, Sim.x_not, Sim.x_if, Sim.x_tV, Sim.x_tCmp, Sim.x_tTru, Sim.x_tNot, Sim.x_tAnd, Sim.x_tOr, Sim.x_asB, Sim.x_sl, Sim.x_oNone, Sim.x_oSome, Sim.x_asI, Sim.x_trN, Sim.x_trB, Sim.x_trI, Sim.x_trL, Sim.x_trR, Sim.x_trT, Sim.x_add, Sim.x_sub, Sim.x_neg, Sim.x_lt, Sim.x_le, Sim.x_gt, Sim.x_ge, Sim.x_abs, Sim.x_max2, Sim.x_min2, Sim.x_intI, Sim.x_intB, Sim.x_eqI, Sim.x_neI, Sim.x_eqS, Sim.x_neS, Sim.x_lst, Sim.x_tup, Sim.x_lenL, Sim.x_lenT, Sim.x_lenR, Sim.x_tupleL, Sim.x_listL, Sim.x_listT, Sim.x_slL, Sim.x_slR, Sim.x_slT, Sim.callM, Sim.arrOf, List.filterMap_cons, List.filterMap_nil, List.getElem?_cons_zero, List.getElem?_cons_succ, List.cons_append, List.nil_append, List.append_nil, List.length_cons, List.length_nil, and_self, if_true, List.set_cons_zero, List.set_cons_succ, Bool.false_eq_true, if_false, Nat.reduceAdd, Nat.reduceSub, List.map_cons, List.map_nil, List.replicate_succ, List.replicate_zero, Bool.not_true, Bool.not_false, Sim.x_sized, Nat.reduceLeDiff, Nat.zero_add, Bool.true_and, Bool.false_and, Bool.and_true, Bool.and_false, Bool.true_or, Bool.false_or, Bool.or_true, Bool.or_false, Bool.and_self, decide_true, decide_false]
      rw [isi_bool (by simp [tyN])]
      try simp -implicitDefEqProofs only [Sim.sM_pass, Sim.sM_seq, Sim.sM_asg, Sim.sM_ret, Sim.sM_expr, Sim.sM_if, Sim.sM_par, Sim.sM_asgT, Sim.sM_set, Sim.ret_bind, Sim.bind_assoc, Sim.x_var0, Sim.x_varS, Sim.x_C, Sim.x_op, Sim.x_un, Sim.x_A, Sim.x_nil, Sim.x_cons, Sim.x_call, Sim.x_and, Sim.x_or, Sim.x_not, Sim.x_if, Sim.x_tV, Sim.x_tCmp, Sim.x_tTru, Sim.x_tNot, Sim.x_tAnd, Sim.x_tOr, Sim.x_asB, Sim.x_sl, Sim.x_oNone, Sim.x_oSome, Sim.x_asI, Sim.x_trN, Sim.x_trB, Sim.x_trI, Sim.x_trL, Sim.x_trR, Sim.x_trT, Sim.x_add, Sim.x_sub, Sim.x_neg, Sim.x_lt, Sim.x_le, Sim.x_gt, Sim.x_ge, Sim.x_abs, Sim.x_max2, Sim.x_min2, Sim.x_intI, Sim.x_intB, Sim.x_eqI, Sim.x_neI, Sim.x_eqS, Sim.x_neS, Sim.x_lst, Sim.x_tup, Sim.x_lenL, Sim.x_lenT, Sim.x_lenR, Sim.x_tupleL, Sim.x_listL, Sim.x_listT, Sim.x_slL, Sim.x_slR, Sim.x_slT, Sim.callM, Sim.arrOf, List.filterMap_cons, List.filterMap_nil, List.getElem?_cons_zero, List.getElem?_cons_succ, List.cons_append, List.nil_append, List.append_nil, List.length_cons, List.length_nil, and_self, if_true, List.set_cons_zero, List.set_cons_succ, Bool.false_eq_true, if_false, Nat.reduceAdd, Nat.reduceSub, List.map_cons, List.map_nil, List.replicate_succ, List.replicate_zero, Bool.not_true, Bool.not_false, Sim.x_sized, Nat.reduceLeDiff, Nat.zero_add, Bool.true_and, Bool.false_and, Bool.and_true, Bool.and_false, Bool.true_or, Bool.false_or, Bool.or_true, Bool.or_false, Bool.and_self, decide_true, decide_false]⟩]
  have e : ((y.zip y).all fun p => decide (p.1 = p.2)) = true := List.all_eq_true.mpr fun p hp => by
    rw [decide_eq_true_eq]
    obtain ⟨i, hi⟩ := List.getElem?_of_mem hp
    rw [List.getElem?_zip_eq_some] at hi
    have := hi.1.symm.trans hi.2
    exact Option.some.inj this
  rw [e])
end K15
end

section
open PySem PySem.Spec PyProof.Rows L2 RZ Sim
namespace K15
theorem at_anyF {ws : List (List Int)} (hz : ws.length ≤ 3) {y : List Int} {j : Nat} (hj : j ≤ y.length) {v : Option D} :
    eA gAny (aCons (eComp (iSeq (eVar 0)) (.nm 3) tYesM (eOp gEq (eSl (eVar 3) oNone (oSome (eOp gSub (eA gLen (aCons (eVar 1) aNil)) (eVar 2)))) (eSl (eVar 1) (oSome (eVar 2)) oNone)) [3]) aNil)
      [some (lW ws), some (tI y), some (.int (j : Nat)), v] = M.ret (.bl (begins ws (y.drop j))) := by
  refine any_ret (wk_seq (v := lW ws) (g := tI) (xs := ws) ?_ rfl) (fun w => decide (w.take (y.drop j).length = y.drop j)) (by omega) fun w hw => ⟨[some (lW ws), some (tI y), some (.int (j : Nat)), some (tI w)], rfl, ?_⟩
  · try simp -implicitDefEqProofs only [Sim.sM_pass, Sim.sM_seq, Sim.sM_asg, Sim.sM_ret, Sim.sM_expr, Sim.sM_if, Sim.sM_par, Sim.sM_asgT, Sim.sM_set, Sim.ret_bind, Sim.bind_assoc, Sim.x_var0, Sim.x_varS, Sim.x_C, Sim.x_op, Sim.x_un, Sim.x_A, Sim.x_nil, Sim.x_cons, Sim.x_call, Sim.x_and, Sim.x_or, Sim.x_not, Sim.x_if, Sim.x_tV, Sim.x_tCmp, Sim.x_tTru, Sim.x_tNot, Sim.x_tAnd, Sim.x_tOr, Sim.x_asB, Sim.x_sl, Sim.x_oNone, Sim.x_oSome, Sim.x_asI, Sim.x_trN, Sim.x_trB, Sim.x_trI, Sim.x_trL, Sim.x_trR, Sim.x_trT, Sim.x_add, Sim.x_sub, Sim.x_neg, Sim.x_lt, Sim.x_le, Sim.x_gt, Sim.x_ge, Sim.x_abs, Sim.x_max2, Sim.x_min2, Sim.x_intI, Sim.x_intB, Sim.x_eqI, Sim.x_neI, Sim.x_eqS, Sim.x_neS, Sim.x_lst, Sim.x_tup, Sim.x_lenL, Sim.x_lenT, Sim.x_lenR, Sim.x_tupleL, Sim.x_listL, Sim.x_listT, Sim.x_slL, Sim.x_slR, Sim.x_slT, Sim.callM, Sim.arrOf, List.filterMap_cons, List.filterMap_nil, List.getElem?_cons_zero, List.getElem?_cons_succ, List.cons_append, List.nil_append, List.append_nil, List.length_cons, List.length_nil, and_self, if_true, List.set_cons_zero, List.set_cons_succ, Bool.false_eq_true, if_false, Nat.reduceAdd, Nat.reduceSub, List.map_cons, List.map_nil, List.replicate_succ, List.replicate_zero, Bool.not_true, Bool.not_false, Sim.x_sized, Nat.reduceLeDiff, Nat.zero_add, Bool.true_and, Bool.false_and, Bool.and_true, Bool.and_false, Bool.true_or, Bool.false_or, Bool.or_true, Bool.or_false, Bool.and_self, decide_true, decide_false]
  · try simp -implicitDefEqProofs only [Sim.sM_pass, Sim.sM_seq, Sim.sM_asg, Sim.sM_ret, Sim.sM_expr, Sim.sM_if, Sim.sM_par, Sim.sM_asgT, Sim.sM_set, Sim.ret_bind, Sim.bind_assoc, Sim.x_var0, Sim.x_varS, Sim.x_C, Sim.x_op, Sim.x_un, Sim.x_A, Sim.x_nil, Sim.x_cons, Sim.x_call, Sim.x_and, Sim.x_or, Sim.x_not, Sim.x_if, Sim.x_tV, Sim.x_tCmp, Sim.x_tTru, Sim.x_tNot, Sim.x_tAnd, Sim.x_tOr, Sim.x_asB, Sim.x_sl, Sim.x_oNone, Sim.x_oSome, Sim.x_asI, Sim.x_trN, Sim.x_trB, Sim.x_trI, Sim.x_trL, Sim.x_trR, Sim.x_trT, Sim.x_add, Sim.x_sub, Sim.x_neg, Sim.x_lt, Sim.x_le, Sim.x_gt, Sim.x_ge, Sim.x_abs, Sim.x_max2, Sim.x_min2, Sim.x_intI, Sim.x_intB, Sim.x_eqI, Sim.x_neI, Sim.x_eqS, Sim.x_neS, Sim.x_lst, Sim.x_tup, Sim.x_lenL, Sim.x_lenT, Sim.x_lenR, Sim.x_tupleL, Sim.x_listL, Sim.x_listT, Sim.x_slL, Sim.x_slR, Sim.x_slT, Sim.callM, Sim.arrOf, List.filterMap_cons, List.filterMap_nil, List.getElem?_cons_zero, List.getElem?_cons_succ, List.cons_append, List.nil_append, List.append_nil, List.length_cons, List.length_nil, and_self, if_true, List.set_cons_zero, List.set_cons_succ, Bool.false_eq_true, if_false, Nat.reduceAdd, Nat.reduceSub, List.map_cons, List.map_nil, List.replicate_succ, List.replicate_zero, Bool.not_true, Bool.not_false, Sim.x_sized, Nat.reduceLeDiff, Nat.zero_add, Bool.true_and, Bool.false_and, Bool.and_true, Bool.and_false, Bool.true_or, Bool.false_or, Bool.or_true, Bool.or_false, Bool.and_self, decide_true, decide_false]
    have e : ((y.map D.int).length : Int) - (j : Int) = (((y.drop j).length : Nat) : Int) := by rw [List.length_map, List.length_drop]; omega
    rw [e, cut_take, cut_drop]
    exact x_eqTI _ _
theorem e_law_far {ws : List (List Int)} {y : List Int} (hz : ws.length ≤ 3) (hs : ∀ w ∈ ws, w.length ≤ 6) (hy : y.length ≤ 16777000) : m__law_far [lW ws, tI y] = M.ret (tI (farF ws y)) := by
  have hf : farF ws (y.drop (y.length - 6)) = farF ws y := farF_drop hs y
  refine fn_eq ?_ (low_tI _)
  unfold d__law_far
  try simp -implicitDefEqProofs only [Sim.sM_pass, Sim.sM_seq, Sim.sM_asg, Sim.sM_ret, Sim.sM_expr, Sim.sM_if, Sim.sM_par, Sim.sM_asgT, Sim.sM_set, Sim.ret_bind, Sim.bind_assoc, Sim.x_var0, Sim.x_varS, Sim.x_C, Sim.x_op, Sim.x_un, Sim.x_A, Sim.x_nil, Sim.x_cons, Sim.x_call, Sim.x_and, Sim.x_or, Sim.x_not, Sim.x_if, Sim.x_tV, Sim.x_tCmp, Sim.x_tTru, Sim.x_tNot, Sim.x_tAnd, Sim.x_tOr, Sim.x_asB, Sim.x_sl, Sim.x_oNone, Sim.x_oSome, Sim.x_asI, Sim.x_trN, Sim.x_trB, Sim.x_trI, Sim.x_trL, Sim.x_trR, Sim.x_trT, Sim.x_add, Sim.x_sub, Sim.x_neg, Sim.x_lt, Sim.x_le, Sim.x_gt, Sim.x_ge, Sim.x_abs, Sim.x_max2, Sim.x_min2, Sim.x_intI, Sim.x_intB, Sim.x_eqI, Sim.x_neI, Sim.x_eqS, Sim.x_neS, Sim.x_lst, Sim.x_tup, Sim.x_lenL, Sim.x_lenT, Sim.x_lenR, Sim.x_tupleL, Sim.x_listL, Sim.x_listT, Sim.x_slL, Sim.x_slR, Sim.x_slT, Sim.callM, Sim.arrOf, List.filterMap_cons, List.filterMap_nil, List.getElem?_cons_zero, List.getElem?_cons_succ, List.cons_append, List.nil_append, List.append_nil, List.length_cons, List.length_nil, and_self, if_true, List.set_cons_zero, List.set_cons_succ, Bool.false_eq_true, if_false, Nat.reduceAdd, Nat.reduceSub, List.map_cons, List.map_nil, List.replicate_succ, List.replicate_zero, Bool.not_true, Bool.not_false, Sim.x_sized, Nat.reduceLeDiff, Nat.zero_add, Bool.true_and, Bool.false_and, Bool.and_true, Bool.and_false, Bool.true_or, Bool.false_or, Bool.or_true, Bool.or_false, Bool.and_self, decide_true, decide_false]
  obtain ⟨q, hq, hv⟩ := for_pu (mi := iRng2 (aCons (eA gMax2 (aCons (eC (.int 0)) (aCons (eOp gSub (eA gLen (aCons (eVar 1) aNil)) (eC (.int 6))) aNil))) (aCons (eA gLen (aCons (eVar 1) aNil)) aNil))) (t := .nm 2) (src := .ints ((y.length - 6 : Nat) : Int) (y.length - (y.length - 6))) (n := y.length - (y.length - 6)) (item := fun i => .int (((y.length - 6 : Nat) : Int) + (i : Nat)))
    (body := Sim.sIf (tTru (eA gAny (aCons (eComp (iSeq (eVar 0)) (.nm 3) tYesM (eOp gEq (eSl (eVar 3) oNone (oSome (eOp gSub (eA gLen (aCons (eVar 1) aNil)) (eVar 2)))) (eSl (eVar 1) (oSome (eVar 2)) oNone)) [3]) aNil))) (sRet (eSl (eVar 1) (oSome (eVar 2)) oNone)) sPass)
    (ev := [some (lW ws), some (tI y), none, none])
    (E := fun j ev => (∃ v v2, ev = [some (lW ws), some (tI y), v, v2]) ∧ ∀ i, i < j → begins ws ((y.drop (y.length - 6)).drop i) = false)
    (Q := fun x => (∃ ev, x = .inl ev ∧ farF ws y = []) ∨ x = .inr (tI (farF ws y)))
    (by
      rw [x_iRng2]; try simp -implicitDefEqProofs only [Sim.sM_pass, Sim.sM_seq, Sim.sM_asg, Sim.sM_ret, Sim.sM_expr, Sim.sM_if, Sim.sM_par, Sim.sM_asgT, Sim.sM_set, Sim.ret_bind, Sim.bind_assoc, Sim.x_var0, Sim.x_varS, Sim.x_C, Sim.x_op, Sim.x_un, Sim.x_A, Sim.x_nil, Sim.x_cons, Sim.x_call, Sim.x_and, Sim.x_or, Sim.x_not, Sim.x_if, Sim.x_tV, Sim.x_tCmp, Sim.x_tTru, Sim.x_tNot, Sim.x_tAnd, Sim.x_tOr, Sim.x_asB, Sim.x_sl, Sim.x_oNone, Sim.x_oSome, Sim.x_asI, Sim.x_trN, Sim.x_trB, Sim.x_trI, Sim.x_trL, Sim.x_trR, Sim.x_trT, Sim.x_add, Sim.x_sub, Sim.x_neg, Sim.x_lt, Sim.x_le, Sim.x_gt, Sim.x_ge, Sim.x_abs, Sim.x_max2, Sim.x_min2, Sim.x_intI, Sim.x_intB, Sim.x_eqI, Sim.x_neI, Sim.x_eqS, Sim.x_neS, Sim.x_lst, Sim.x_tup, Sim.x_lenL, Sim.x_lenT, Sim.x_lenR, Sim.x_tupleL, Sim.x_listL, Sim.x_listT, Sim.x_slL, Sim.x_slR, Sim.x_slT, Sim.callM, Sim.arrOf, List.filterMap_cons, List.filterMap_nil, List.getElem?_cons_zero, List.getElem?_cons_succ, List.cons_append, List.nil_append, List.append_nil, List.length_cons, List.length_nil, and_self, if_true, List.set_cons_zero, List.set_cons_succ, Bool.false_eq_true, if_false, Nat.reduceAdd, Nat.reduceSub, List.map_cons, List.map_nil, List.replicate_succ, List.replicate_zero, Bool.not_true, Bool.not_false, Sim.x_sized, Nat.reduceLeDiff, Nat.zero_add, Bool.true_and, Bool.false_and, Bool.and_true, Bool.and_false, Bool.true_or, Bool.false_or, Bool.or_true, Bool.or_false, Bool.and_self, decide_true, decide_false]
      rw [List.length_map, x_rng2 (by split <;> omega)]
      congr 1
      have : (if (y.length : Int) - 6 > 0 then (y.length : Int) - 6 else 0) = ((y.length - 6 : Nat) : Int) := by split <;> omega
      rw [this]
      congr 1; omega) (fun i st => rfl) (by omega) ⟨⟨_, _, rfl⟩, fun i hi => absurd hi (Nat.not_lt_zero _)⟩
    (fun j ev hj ⟨⟨v, v2, hev⟩, hb⟩ => by
      subst hev
      refine ⟨[some (lW ws), some (tI y), some (.int ((y.length - 6 + j : Nat) : Int)), v2], by rw [Int.natCast_add]; rfl, ?_⟩
      rw [sM_if, x_tTru, at_anyF hz (by omega)]
      try simp -implicitDefEqProofs only [Sim.sM_pass, Sim.sM_seq, Sim.sM_asg, Sim.sM_ret, Sim.sM_expr, Sim.sM_if, Sim.sM_par, Sim.sM_asgT, Sim.sM_set, Sim.ret_bind, Sim.bind_assoc, Sim.x_var0, Sim.x_varS, Sim.x_C, Sim.x_op, Sim.x_un, Sim.x_A, Sim.x_nil, Sim.x_cons, Sim.x_call, Sim.x_and, Sim.x_or, Sim.x_not, Sim.x_if, Sim.x_tV, Sim.x_tCmp, Sim.x_tTru, Sim.x_tNot, Sim.x_tAnd, Sim.x_tOr, Sim.x_asB, Sim.x_sl, Sim.x_oNone, Sim.x_oSome, Sim.x_asI, Sim.x_trN, Sim.x_trB, Sim.x_trI, Sim.x_trL, Sim.x_trR, Sim.x_trT, Sim.x_add, Sim.x_sub, Sim.x_neg, Sim.x_lt, Sim.x_le, Sim.x_gt, Sim.x_ge, Sim.x_abs, Sim.x_max2, Sim.x_min2, Sim.x_intI, Sim.x_intB, Sim.x_eqI, Sim.x_neI, Sim.x_eqS, Sim.x_neS, Sim.x_lst, Sim.x_tup, Sim.x_lenL, Sim.x_lenT, Sim.x_lenR, Sim.x_tupleL, Sim.x_listL, Sim.x_listT, Sim.x_slL, Sim.x_slR, Sim.x_slT, Sim.callM, Sim.arrOf, List.filterMap_cons, List.filterMap_nil, List.getElem?_cons_zero, List.getElem?_cons_succ, List.cons_append, List.nil_append, List.append_nil, List.length_cons, List.length_nil, and_self, if_true, List.set_cons_zero, List.set_cons_succ, Bool.false_eq_true, if_false, Nat.reduceAdd, Nat.reduceSub, List.map_cons, List.map_nil, List.replicate_succ, List.replicate_zero, Bool.not_true, Bool.not_false, Sim.x_sized, Nat.reduceLeDiff, Nat.zero_add, Bool.true_and, Bool.false_and, Bool.and_true, Bool.and_false, Bool.true_or, Bool.false_or, Bool.or_true, Bool.or_false, Bool.and_self, decide_true, decide_false]
      rw [← List.drop_drop]
      cases hbj : begins ws ((y.drop (y.length - 6)).drop j) with
      | true =>
        refine ⟨.inr (tI (farF ws y)), ?_, .inr rfl⟩
        try simp -implicitDefEqProofs only [Sim.sM_pass, Sim.sM_seq, Sim.sM_asg, Sim.sM_ret, Sim.sM_expr, Sim.sM_if, Sim.sM_par, Sim.sM_asgT, Sim.sM_set, Sim.ret_bind, Sim.bind_assoc, Sim.x_var0, Sim.x_varS, Sim.x_C, Sim.x_op, Sim.x_un, Sim.x_A, Sim.x_nil, Sim.x_cons, Sim.x_call, Sim.x_and, Sim.x_or, Sim.x_not, Sim.x_if, Sim.x_tV, Sim.x_tCmp, Sim.x_tTru, Sim.x_tNot, Sim.x_tAnd, Sim.x_tOr, Sim.x_asB, Sim.x_sl, Sim.x_oNone, Sim.x_oSome, Sim.x_asI, Sim.x_trN, Sim.x_trB, Sim.x_trI, Sim.x_trL, Sim.x_trR, Sim.x_trT, Sim.x_add, Sim.x_sub, Sim.x_neg, Sim.x_lt, Sim.x_le, Sim.x_gt, Sim.x_ge, Sim.x_abs, Sim.x_max2, Sim.x_min2, Sim.x_intI, Sim.x_intB, Sim.x_eqI, Sim.x_neI, Sim.x_eqS, Sim.x_neS, Sim.x_lst, Sim.x_tup, Sim.x_lenL, Sim.x_lenT, Sim.x_lenR, Sim.x_tupleL, Sim.x_listL, Sim.x_listT, Sim.x_slL, Sim.x_slR, Sim.x_slT, Sim.callM, Sim.arrOf, List.filterMap_cons, List.filterMap_nil, List.getElem?_cons_zero, List.getElem?_cons_succ, List.cons_append, List.nil_append, List.append_nil, List.length_cons, List.length_nil, and_self, if_true, List.set_cons_zero, List.set_cons_succ, Bool.false_eq_true, if_false, Nat.reduceAdd, Nat.reduceSub, List.map_cons, List.map_nil, List.replicate_succ, List.replicate_zero, Bool.not_true, Bool.not_false, Sim.x_sized, Nat.reduceLeDiff, Nat.zero_add, Bool.true_and, Bool.false_and, Bool.and_true, Bool.and_false, Bool.true_or, Bool.false_or, Bool.or_true, Bool.or_false, Bool.and_self, decide_true, decide_false]
        rw [cut_drop, ← hf, farF_first (by rw [List.length_drop]; omega) hb, farF_here (by rw [List.length_drop]; omega) hbj, List.drop_drop]
      | false =>
        refine ⟨.inl _, by try simp -implicitDefEqProofs only [Sim.sM_pass, Sim.sM_seq, Sim.sM_asg, Sim.sM_ret, Sim.sM_expr, Sim.sM_if, Sim.sM_par, Sim.sM_asgT, Sim.sM_set, Sim.ret_bind, Sim.bind_assoc, Sim.x_var0, Sim.x_varS, Sim.x_C, Sim.x_op, Sim.x_un, Sim.x_A, Sim.x_nil, Sim.x_cons, Sim.x_call, Sim.x_and, Sim.x_or, Sim.x_not, Sim.x_if, Sim.x_tV, Sim.x_tCmp, Sim.x_tTru, Sim.x_tNot, Sim.x_tAnd, Sim.x_tOr, Sim.x_asB, Sim.x_sl, Sim.x_oNone, Sim.x_oSome, Sim.x_asI, Sim.x_trN, Sim.x_trB, Sim.x_trI, Sim.x_trL, Sim.x_trR, Sim.x_trT, Sim.x_add, Sim.x_sub, Sim.x_neg, Sim.x_lt, Sim.x_le, Sim.x_gt, Sim.x_ge, Sim.x_abs, Sim.x_max2, Sim.x_min2, Sim.x_intI, Sim.x_intB, Sim.x_eqI, Sim.x_neI, Sim.x_eqS, Sim.x_neS, Sim.x_lst, Sim.x_tup, Sim.x_lenL, Sim.x_lenT, Sim.x_lenR, Sim.x_tupleL, Sim.x_listL, Sim.x_listT, Sim.x_slL, Sim.x_slR, Sim.x_slT, Sim.callM, Sim.arrOf, List.filterMap_cons, List.filterMap_nil, List.getElem?_cons_zero, List.getElem?_cons_succ, List.cons_append, List.nil_append, List.append_nil, List.length_cons, List.length_nil, and_self, if_true, List.set_cons_zero, List.set_cons_succ, Bool.false_eq_true, if_false, Nat.reduceAdd, Nat.reduceSub, List.map_cons, List.map_nil, List.replicate_succ, List.replicate_zero, Bool.not_true, Bool.not_false, Sim.x_sized, Nat.reduceLeDiff, Nat.zero_add, Bool.true_and, Bool.false_and, Bool.and_true, Bool.and_false, Bool.true_or, Bool.false_or, Bool.or_true, Bool.or_false, Bool.and_self, decide_true, decide_false]; rfl, ⟨_, _, rfl⟩, fun i hi => ?_⟩
        by_cases e : i = j
        · subst e; exact hbj
        · exact hb i (by omega))
    (fun ev ⟨_, hb⟩ => .inl ⟨ev, rfl, by rw [← hf, farF_first (j := (y.drop (y.length - 6)).length) (Nat.le_refl _) (by rw [List.length_drop]; exact hb), List.drop_length]; rfl⟩)
  rw [hq]
  rcases hv with ⟨ev, e, hn⟩ | e
  · subst e
    try simp -implicitDefEqProofs only [Sim.sM_pass, Sim.sM_seq, Sim.sM_asg, Sim.sM_ret, Sim.sM_expr, Sim.sM_if, Sim.sM_par, Sim.sM_asgT, Sim.sM_set, Sim.ret_bind, Sim.bind_assoc, Sim.x_var0, Sim.x_varS, Sim.x_C, Sim.x_op, Sim.x_un, Sim.x_A, Sim.x_nil, Sim.x_cons, Sim.x_call, Sim.x_and, Sim.x_or, Sim.x_not, Sim.x_if, Sim.x_tV, Sim.x_tCmp, Sim.x_tTru, Sim.x_tNot, Sim.x_tAnd, Sim.x_tOr, Sim.x_asB, Sim.x_sl, Sim.x_oNone, Sim.x_oSome, Sim.x_asI, Sim.x_trN, Sim.x_trB, Sim.x_trI, Sim.x_trL, Sim.x_trR, Sim.x_trT, Sim.x_add, Sim.x_sub, Sim.x_neg, Sim.x_lt, Sim.x_le, Sim.x_gt, Sim.x_ge, Sim.x_abs, Sim.x_max2, Sim.x_min2, Sim.x_intI, Sim.x_intB, Sim.x_eqI, Sim.x_neI, Sim.x_eqS, Sim.x_neS, Sim.x_lst, Sim.x_tup, Sim.x_lenL, Sim.x_lenT, Sim.x_lenR, Sim.x_tupleL, Sim.x_listL, Sim.x_listT, Sim.x_slL, Sim.x_slR, Sim.x_slT, Sim.callM, Sim.arrOf, List.filterMap_cons, List.filterMap_nil, List.getElem?_cons_zero, List.getElem?_cons_succ, List.cons_append, List.nil_append, List.append_nil, List.length_cons, List.length_nil, and_self, if_true, List.set_cons_zero, List.set_cons_succ, Bool.false_eq_true, if_false, Nat.reduceAdd, Nat.reduceSub, List.map_cons, List.map_nil, List.replicate_succ, List.replicate_zero, Bool.not_true, Bool.not_false, Sim.x_sized, Nat.reduceLeDiff, Nat.zero_add, Bool.true_and, Bool.false_and, Bool.and_true, Bool.and_false, Bool.true_or, Bool.false_or, Bool.or_true, Bool.or_false, Bool.and_self, decide_true, decide_false]
    rw [hn]; rfl
  · subst e
    try simp -implicitDefEqProofs only [Sim.sM_pass, Sim.sM_seq, Sim.sM_asg, Sim.sM_ret, Sim.sM_expr, Sim.sM_if, Sim.sM_par, Sim.sM_asgT, Sim.sM_set, Sim.ret_bind, Sim.bind_assoc, Sim.x_var0, Sim.x_varS, Sim.x_C, Sim.x_op, Sim.x_un, Sim.x_A, Sim.x_nil, Sim.x_cons, Sim.x_call, Sim.x_and, Sim.x_or, Sim.x_not, Sim.x_if, Sim.x_tV, Sim.x_tCmp, Sim.x_tTru, Sim.x_tNot, Sim.x_tAnd, Sim.x_tOr, Sim.x_asB, Sim.x_sl, Sim.x_oNone, Sim.x_oSome, Sim.x_asI, Sim.x_trN, Sim.x_trB, Sim.x_trI, Sim.x_trL, Sim.x_trR, Sim.x_trT, Sim.x_add, Sim.x_sub, Sim.x_neg, Sim.x_lt, Sim.x_le, Sim.x_gt, Sim.x_ge, Sim.x_abs, Sim.x_max2, Sim.x_min2, Sim.x_intI, Sim.x_intB, Sim.x_eqI, Sim.x_neI, Sim.x_eqS, Sim.x_neS, Sim.x_lst, Sim.x_tup, Sim.x_lenL, Sim.x_lenT, Sim.x_lenR, Sim.x_tupleL, Sim.x_listL, Sim.x_listT, Sim.x_slL, Sim.x_slR, Sim.x_slT, Sim.callM, Sim.arrOf, List.filterMap_cons, List.filterMap_nil, List.getElem?_cons_zero, List.getElem?_cons_succ, List.cons_append, List.nil_append, List.append_nil, List.length_cons, List.length_nil, and_self, if_true, List.set_cons_zero, List.set_cons_succ, Bool.false_eq_true, if_false, Nat.reduceAdd, Nat.reduceSub, List.map_cons, List.map_nil, List.replicate_succ, List.replicate_zero, Bool.not_true, Bool.not_false, Sim.x_sized, Nat.reduceLeDiff, Nat.zero_add, Bool.true_and, Bool.false_and, Bool.and_true, Bool.and_false, Bool.true_or, Bool.false_or, Bool.or_true, Bool.or_false, Bool.and_self, decide_true, decide_false]
/-! the bar is made -/
theorem once_nodup {α : Type} [DecidableEq α] : ∀ {l : List α}, l.Nodup → Sim.once l = l
  | [], _ => rfl
  | x :: r, h => by
    rw [List.nodup_cons] at h
    unfold Sim.once
    rw [if_neg h.1, once_nodup h.2]
theorem asInts_ints (w : List Int) : asInts (w.map D.int) = some w := asInts_map w
theorem asTupI_W : ∀ ws : List (List Int), asTupI (ws.map tI) = some ws
  | [] => rfl
  | w :: r => by
    show (match asInts (w.map D.int), asTupI (r.map tI) with | some a, some b => some (a :: b) | _, _ => none) = _
    rw [asInts_ints, asTupI_W r]
theorem x_lenSet {ws : List (List Int)} (h : ws.Nodup) (hz : ws.length ≤ 3) : M.of (gLenSet (tW ws)) = M.ret (.int ws.length) := of_some fun st => by
  simp only [gLenSet, asTupI_W]
  rw [if_pos (by omega), once_nodup h]
abbrev WP := List (D × List Int)
theorem init_bar {st : Store} {ps : WP} (h : ∀ p ∈ ps, seqV st p.1 = some (p.2.map D.int) ∧ D.low st.length p.1 = true) (g : Good (ps.map (·.2))) :
    m_Bar___init__ (.cl st.length :: ps.map (·.1)) (st ++ [.ins "Bar" []]) = .ok .non (st ++ [.ins "Bar" [("words", tW (ps.map (·.2)))]]) := by
  have hlen : ps.length = (ps.map (·.2)).length := by rw [List.length_map]
  have few := g.few
  rw [← hlen] at few
  generalize hS : st ++ [Cell.ins "Bar" []] = S
  have hSl : S.length = st.length + 1 := by rw [← hS, List.length_append]; rfl
  have h' : ∀ p ∈ ps, seqV S p.1 = some (p.2.map D.int) ∧ D.low S.length p.1 = true := fun p hp => by
    obtain ⟨a, b⟩ := h p hp
    rw [← hS]
    exact ⟨by rw [seqV_app b, a], D.low_mono (by rw [List.length_append]; omega) b⟩
  have key : sM d_Bar___init__ [some (.cl st.length), some (.tup (ps.map (·.1))), none, none] S = .ok (.inl [some (.cl st.length), some (.tup (ps.map (·.1))), none, some (tW (ps.map (·.2)))]) (st ++ [.ins "Bar" [("words", tW (ps.map (·.2)))]]) := by
    unfold d_Bar___init__
    try simp -implicitDefEqProofs only [x_chain, sM_setF, Sim.sM_pass, Sim.sM_seq, Sim.sM_asg, Sim.sM_ret, Sim.sM_expr, Sim.sM_if, Sim.sM_par, Sim.sM_asgT, Sim.sM_set, Sim.ret_bind, Sim.bind_assoc, Sim.x_var0, Sim.x_varS, Sim.x_C, Sim.x_op, Sim.x_un, Sim.x_A, Sim.x_nil, Sim.x_cons, Sim.x_call, Sim.x_and, Sim.x_or, Sim.x_not, Sim.x_if, Sim.x_tV, Sim.x_tCmp, Sim.x_tTru, Sim.x_tNot, Sim.x_tAnd, Sim.x_tOr, Sim.x_asB, Sim.x_sl, Sim.x_oNone, Sim.x_oSome, Sim.x_asI, Sim.x_trN, Sim.x_trB, Sim.x_trI, Sim.x_trL, Sim.x_trR, Sim.x_trT, Sim.x_add, Sim.x_sub, Sim.x_neg, Sim.x_lt, Sim.x_le, Sim.x_gt, Sim.x_ge, Sim.x_abs, Sim.x_max2, Sim.x_min2, Sim.x_intI, Sim.x_intB, Sim.x_eqI, Sim.x_neI, Sim.x_eqS, Sim.x_neS, Sim.x_lst, Sim.x_tup, Sim.x_lenL, Sim.x_lenT, Sim.x_lenR, Sim.x_tupleL, Sim.x_listL, Sim.x_listT, Sim.x_slL, Sim.x_slR, Sim.x_slT, Sim.callM, Sim.arrOf, List.filterMap_cons, List.filterMap_nil, List.getElem?_cons_zero, List.getElem?_cons_succ, List.cons_append, List.nil_append, List.append_nil, List.length_cons, List.length_nil, and_self, if_true, List.set_cons_zero, List.set_cons_succ, Bool.false_eq_true, if_false, Nat.reduceAdd, Nat.reduceSub, List.map_cons, List.map_nil, List.replicate_succ, List.replicate_zero, Bool.not_true, Bool.not_false, Sim.x_sized, Nat.reduceLeDiff, Nat.zero_add, Bool.true_and, Bool.false_and, Bool.and_true, Bool.and_false, Bool.true_or, Bool.false_or, Bool.or_true, Bool.or_false, Bool.and_self, decide_true, decide_false, List.length_map]
    rw [decide_eq_true (by omega : (1 : Int) ≤ (ps.length : Int))]
    try simp -implicitDefEqProofs only [Sim.sM_pass, Sim.sM_seq, Sim.sM_asg, Sim.sM_ret, Sim.sM_expr, Sim.sM_if, Sim.sM_par, Sim.sM_asgT, Sim.sM_set, Sim.ret_bind, Sim.bind_assoc, Sim.x_var0, Sim.x_varS, Sim.x_C, Sim.x_op, Sim.x_un, Sim.x_A, Sim.x_nil, Sim.x_cons, Sim.x_call, Sim.x_and, Sim.x_or, Sim.x_not, Sim.x_if, Sim.x_tV, Sim.x_tCmp, Sim.x_tTru, Sim.x_tNot, Sim.x_tAnd, Sim.x_tOr, Sim.x_asB, Sim.x_sl, Sim.x_oNone, Sim.x_oSome, Sim.x_asI, Sim.x_trN, Sim.x_trB, Sim.x_trI, Sim.x_trL, Sim.x_trR, Sim.x_trT, Sim.x_add, Sim.x_sub, Sim.x_neg, Sim.x_lt, Sim.x_le, Sim.x_gt, Sim.x_ge, Sim.x_abs, Sim.x_max2, Sim.x_min2, Sim.x_intI, Sim.x_intB, Sim.x_eqI, Sim.x_neI, Sim.x_eqS, Sim.x_neS, Sim.x_lst, Sim.x_tup, Sim.x_lenL, Sim.x_lenT, Sim.x_lenR, Sim.x_tupleL, Sim.x_listL, Sim.x_listT, Sim.x_slL, Sim.x_slR, Sim.x_slT, Sim.callM, Sim.arrOf, List.filterMap_cons, List.filterMap_nil, List.getElem?_cons_zero, List.getElem?_cons_succ, List.cons_append, List.nil_append, List.append_nil, List.length_cons, List.length_nil, and_self, if_true, List.set_cons_zero, List.set_cons_succ, Bool.false_eq_true, if_false, Nat.reduceAdd, Nat.reduceSub, List.map_cons, List.map_nil, List.replicate_succ, List.replicate_zero, Bool.not_true, Bool.not_false, Sim.x_sized, Nat.reduceLeDiff, Nat.zero_add, Bool.true_and, Bool.false_and, Bool.and_true, Bool.and_false, Bool.true_or, Bool.false_or, Bool.or_true, Bool.or_false, Bool.and_self, decide_true, decide_false]
    rw [decide_eq_true (by omega : (ps.length : Int) ≤ 3)]
    try simp -implicitDefEqProofs only [Sim.sM_pass, Sim.sM_seq, Sim.sM_asg, Sim.sM_ret, Sim.sM_expr, Sim.sM_if, Sim.sM_par, Sim.sM_asgT, Sim.sM_set, Sim.ret_bind, Sim.bind_assoc, Sim.x_var0, Sim.x_varS, Sim.x_C, Sim.x_op, Sim.x_un, Sim.x_A, Sim.x_nil, Sim.x_cons, Sim.x_call, Sim.x_and, Sim.x_or, Sim.x_not, Sim.x_if, Sim.x_tV, Sim.x_tCmp, Sim.x_tTru, Sim.x_tNot, Sim.x_tAnd, Sim.x_tOr, Sim.x_asB, Sim.x_sl, Sim.x_oNone, Sim.x_oSome, Sim.x_asI, Sim.x_trN, Sim.x_trB, Sim.x_trI, Sim.x_trL, Sim.x_trR, Sim.x_trT, Sim.x_add, Sim.x_sub, Sim.x_neg, Sim.x_lt, Sim.x_le, Sim.x_gt, Sim.x_ge, Sim.x_abs, Sim.x_max2, Sim.x_min2, Sim.x_intI, Sim.x_intB, Sim.x_eqI, Sim.x_neI, Sim.x_eqS, Sim.x_neS, Sim.x_lst, Sim.x_tup, Sim.x_lenL, Sim.x_lenT, Sim.x_lenR, Sim.x_tupleL, Sim.x_listL, Sim.x_listT, Sim.x_slL, Sim.x_slR, Sim.x_slT, Sim.callM, Sim.arrOf, List.filterMap_cons, List.filterMap_nil, List.getElem?_cons_zero, List.getElem?_cons_succ, List.cons_append, List.nil_append, List.append_nil, List.length_cons, List.length_nil, and_self, if_true, List.set_cons_zero, List.set_cons_succ, Bool.false_eq_true, if_false, Nat.reduceAdd, Nat.reduceSub, List.map_cons, List.map_nil, List.replicate_succ, List.replicate_zero, Bool.not_true, Bool.not_false, Sim.x_sized, Nat.reduceLeDiff, Nat.zero_add, Bool.true_and, Bool.false_and, Bool.and_true, Bool.and_false, Bool.true_or, Bool.false_or, Bool.or_true, Bool.or_false, Bool.and_self, decide_true, decide_false]
    refine (bind_ok (comp_atA (st := S) (g := fun p : D × List Int => p.1) (xs := ps) (f := fun _ => .bl true) (src := .seq (.tup (ps.map (·.1)))) ?_ (fun i acc _ => rfl) (by omega) fun p hp => ⟨[some (.cl st.length), some (.tup (ps.map (·.1))), some p.1, none], rfl, by simp only [D.low], fun acc => ?_⟩)).trans ?_
    · show iSeq _ _ S = _
      rw [x_iSeq]
      try simp -implicitDefEqProofs only [Sim.sM_pass, Sim.sM_seq, Sim.sM_asg, Sim.sM_ret, Sim.sM_expr, Sim.sM_if, Sim.sM_par, Sim.sM_asgT, Sim.sM_set, Sim.ret_bind, Sim.bind_assoc, Sim.x_var0, Sim.x_varS, Sim.x_C, Sim.x_op, Sim.x_un, Sim.x_A, Sim.x_nil, Sim.x_cons, Sim.x_call, Sim.x_and, Sim.x_or, Sim.x_not, Sim.x_if, Sim.x_tV, Sim.x_tCmp, Sim.x_tTru, Sim.x_tNot, Sim.x_tAnd, Sim.x_tOr, Sim.x_asB, Sim.x_sl, Sim.x_oNone, Sim.x_oSome, Sim.x_asI, Sim.x_trN, Sim.x_trB, Sim.x_trI, Sim.x_trL, Sim.x_trR, Sim.x_trT, Sim.x_add, Sim.x_sub, Sim.x_neg, Sim.x_lt, Sim.x_le, Sim.x_gt, Sim.x_ge, Sim.x_abs, Sim.x_max2, Sim.x_min2, Sim.x_intI, Sim.x_intB, Sim.x_eqI, Sim.x_neI, Sim.x_eqS, Sim.x_neS, Sim.x_lst, Sim.x_tup, Sim.x_lenL, Sim.x_lenT, Sim.x_lenR, Sim.x_tupleL, Sim.x_listL, Sim.x_listT, Sim.x_slL, Sim.x_slR, Sim.x_slT, Sim.callM, Sim.arrOf, List.filterMap_cons, List.filterMap_nil, List.getElem?_cons_zero, List.getElem?_cons_succ, List.cons_append, List.nil_append, List.append_nil, List.length_cons, List.length_nil, and_self, if_true, List.set_cons_zero, List.set_cons_succ, Bool.false_eq_true, if_false, Nat.reduceAdd, Nat.reduceSub, List.map_cons, List.map_nil, List.replicate_succ, List.replicate_zero, Bool.not_true, Bool.not_false, Sim.x_sized, Nat.reduceLeDiff, Nat.zero_add, Bool.true_and, Bool.false_and, Bool.and_true, Bool.and_false, Bool.true_or, Bool.false_or, Bool.or_true, Bool.or_false, Bool.and_self, decide_true, decide_false]
      rfl
    · obtain ⟨a, b⟩ := h' p hp
      have hw : p.2 ∈ ps.map (·.2) := List.mem_map.mpr ⟨p, hp, rfl⟩
      have s6 := g.six _ hw
      have e1 : seqV (S ++ [.lst acc]) p.1 = some (p.2.map D.int) := by rw [seqV_app b, a]
      have b2 : D.low (S ++ [Cell.lst acc]).length p.1 = true := D.low_mono (by rw [List.length_append]; omega) b
      try simp -implicitDefEqProofs only [Sim.sM_pass, Sim.sM_seq, Sim.sM_asg, Sim.sM_ret, Sim.sM_expr, Sim.sM_if, Sim.sM_par, Sim.sM_asgT, Sim.sM_set, Sim.ret_bind, Sim.bind_assoc, Sim.x_var0, Sim.x_varS, Sim.x_C, Sim.x_op, Sim.x_un, Sim.x_A, Sim.x_nil, Sim.x_cons, Sim.x_call, Sim.x_and, Sim.x_or, Sim.x_not, Sim.x_if, Sim.x_tV, Sim.x_tCmp, Sim.x_tTru, Sim.x_tNot, Sim.x_tAnd, Sim.x_tOr, Sim.x_asB, Sim.x_sl, Sim.x_oNone, Sim.x_oSome, Sim.x_asI, Sim.x_trN, Sim.x_trB, Sim.x_trI, Sim.x_trL, Sim.x_trR, Sim.x_trT, Sim.x_add, Sim.x_sub, Sim.x_neg, Sim.x_lt, Sim.x_le, Sim.x_gt, Sim.x_ge, Sim.x_abs, Sim.x_max2, Sim.x_min2, Sim.x_intI, Sim.x_intB, Sim.x_eqI, Sim.x_neI, Sim.x_eqS, Sim.x_neS, Sim.x_lst, Sim.x_tup, Sim.x_lenL, Sim.x_lenT, Sim.x_lenR, Sim.x_tupleL, Sim.x_listL, Sim.x_listT, Sim.x_slL, Sim.x_slR, Sim.x_slT, Sim.callM, Sim.arrOf, List.filterMap_cons, List.filterMap_nil, List.getElem?_cons_zero, List.getElem?_cons_succ, List.cons_append, List.nil_append, List.append_nil, List.length_cons, List.length_nil, and_self, if_true, List.set_cons_zero, List.set_cons_succ, Bool.false_eq_true, if_false, Nat.reduceAdd, Nat.reduceSub, List.map_cons, List.map_nil, List.replicate_succ, List.replicate_zero, Bool.not_true, Bool.not_false, Sim.x_sized, Nat.reduceLeDiff, Nat.zero_add, Bool.true_and, Bool.false_and, Bool.and_true, Bool.and_false, Bool.true_or, Bool.false_or, Bool.or_true, Bool.or_false, Bool.and_self, decide_true, decide_false]
      refine (bind_ok (at_is_text e1 b2 (by omega))).trans ?_
      rw [okT_of (by omega) (g.let4 _ hw)]
      try simp -implicitDefEqProofs only [Sim.sM_pass, Sim.sM_seq, Sim.sM_asg, Sim.sM_ret, Sim.sM_expr, Sim.sM_if, Sim.sM_par, Sim.sM_asgT, Sim.sM_set, Sim.ret_bind, Sim.bind_assoc, Sim.x_var0, Sim.x_varS, Sim.x_C, Sim.x_op, Sim.x_un, Sim.x_A, Sim.x_nil, Sim.x_cons, Sim.x_call, Sim.x_and, Sim.x_or, Sim.x_not, Sim.x_if, Sim.x_tV, Sim.x_tCmp, Sim.x_tTru, Sim.x_tNot, Sim.x_tAnd, Sim.x_tOr, Sim.x_asB, Sim.x_sl, Sim.x_oNone, Sim.x_oSome, Sim.x_asI, Sim.x_trN, Sim.x_trB, Sim.x_trI, Sim.x_trL, Sim.x_trR, Sim.x_trT, Sim.x_add, Sim.x_sub, Sim.x_neg, Sim.x_lt, Sim.x_le, Sim.x_gt, Sim.x_ge, Sim.x_abs, Sim.x_max2, Sim.x_min2, Sim.x_intI, Sim.x_intB, Sim.x_eqI, Sim.x_neI, Sim.x_eqS, Sim.x_neS, Sim.x_lst, Sim.x_tup, Sim.x_lenL, Sim.x_lenT, Sim.x_lenR, Sim.x_tupleL, Sim.x_listL, Sim.x_listT, Sim.x_slL, Sim.x_slR, Sim.x_slT, Sim.callM, Sim.arrOf, List.filterMap_cons, List.filterMap_nil, List.getElem?_cons_zero, List.getElem?_cons_succ, List.cons_append, List.nil_append, List.append_nil, List.length_cons, List.length_nil, and_self, if_true, List.set_cons_zero, List.set_cons_succ, Bool.false_eq_true, if_false, Nat.reduceAdd, Nat.reduceSub, List.map_cons, List.map_nil, List.replicate_succ, List.replicate_zero, Bool.not_true, Bool.not_false, Sim.x_sized, Nat.reduceLeDiff, Nat.zero_add, Bool.true_and, Bool.false_and, Bool.and_true, Bool.and_false, Bool.true_or, Bool.false_or, Bool.or_true, Bool.or_false, Bool.and_self, decide_true, decide_false]
      refine (bind_ok (of_at (len_seq e1))).trans ?_
      try simp -implicitDefEqProofs only [Sim.sM_pass, Sim.sM_seq, Sim.sM_asg, Sim.sM_ret, Sim.sM_expr, Sim.sM_if, Sim.sM_par, Sim.sM_asgT, Sim.sM_set, Sim.ret_bind, Sim.bind_assoc, Sim.x_var0, Sim.x_varS, Sim.x_C, Sim.x_op, Sim.x_un, Sim.x_A, Sim.x_nil, Sim.x_cons, Sim.x_call, Sim.x_and, Sim.x_or, Sim.x_not, Sim.x_if, Sim.x_tV, Sim.x_tCmp, Sim.x_tTru, Sim.x_tNot, Sim.x_tAnd, Sim.x_tOr, Sim.x_asB, Sim.x_sl, Sim.x_oNone, Sim.x_oSome, Sim.x_asI, Sim.x_trN, Sim.x_trB, Sim.x_trI, Sim.x_trL, Sim.x_trR, Sim.x_trT, Sim.x_add, Sim.x_sub, Sim.x_neg, Sim.x_lt, Sim.x_le, Sim.x_gt, Sim.x_ge, Sim.x_abs, Sim.x_max2, Sim.x_min2, Sim.x_intI, Sim.x_intB, Sim.x_eqI, Sim.x_neI, Sim.x_eqS, Sim.x_neS, Sim.x_lst, Sim.x_tup, Sim.x_lenL, Sim.x_lenT, Sim.x_lenR, Sim.x_tupleL, Sim.x_listL, Sim.x_listT, Sim.x_slL, Sim.x_slR, Sim.x_slT, Sim.callM, Sim.arrOf, List.filterMap_cons, List.filterMap_nil, List.getElem?_cons_zero, List.getElem?_cons_succ, List.cons_append, List.nil_append, List.append_nil, List.length_cons, List.length_nil, and_self, if_true, List.set_cons_zero, List.set_cons_succ, Bool.false_eq_true, if_false, Nat.reduceAdd, Nat.reduceSub, List.map_cons, List.map_nil, List.replicate_succ, List.replicate_zero, Bool.not_true, Bool.not_false, Sim.x_sized, Nat.reduceLeDiff, Nat.zero_add, Bool.true_and, Bool.false_and, Bool.and_true, Bool.and_false, Bool.true_or, Bool.false_or, Bool.or_true, Bool.or_false, Bool.and_self, decide_true, decide_false]
      have hp : 0 < p.2.length := List.length_pos_iff.mpr (g.ne _ hw)
      rw [List.length_map, decide_eq_true (by omega : (0 : Int) < (p.2.length : Int))]
      rfl
    · have e : (ps.map fun _ => D.bl true) = (ps.map fun _ => true).map D.bl := by rw [List.map_map]; rfl
      rw [e, x_all]
      have e2 : ((ps.map fun _ => true).all id) = true := by simp
      rw [e2]
      try simp -implicitDefEqProofs only [Sim.sM_pass, Sim.sM_seq, Sim.sM_asg, Sim.sM_ret, Sim.sM_expr, Sim.sM_if, Sim.sM_par, Sim.sM_asgT, Sim.sM_set, Sim.ret_bind, Sim.bind_assoc, Sim.x_var0, Sim.x_varS, Sim.x_C, Sim.x_op, Sim.x_un, Sim.x_A, Sim.x_nil, Sim.x_cons, Sim.x_call, Sim.x_and, Sim.x_or, Sim.x_not, Sim.x_if, Sim.x_tV, Sim.x_tCmp, Sim.x_tTru, Sim.x_tNot, Sim.x_tAnd, Sim.x_tOr, Sim.x_asB, Sim.x_sl, Sim.x_oNone, Sim.x_oSome, Sim.x_asI, Sim.x_trN, Sim.x_trB, Sim.x_trI, Sim.x_trL, Sim.x_trR, Sim.x_trT, Sim.x_add, Sim.x_sub, Sim.x_neg, Sim.x_lt, Sim.x_le, Sim.x_gt, Sim.x_ge, Sim.x_abs, Sim.x_max2, Sim.x_min2, Sim.x_intI, Sim.x_intB, Sim.x_eqI, Sim.x_neI, Sim.x_eqS, Sim.x_neS, Sim.x_lst, Sim.x_tup, Sim.x_lenL, Sim.x_lenT, Sim.x_lenR, Sim.x_tupleL, Sim.x_listL, Sim.x_listT, Sim.x_slL, Sim.x_slR, Sim.x_slT, Sim.callM, Sim.arrOf, List.filterMap_cons, List.filterMap_nil, List.getElem?_cons_zero, List.getElem?_cons_succ, List.cons_append, List.nil_append, List.append_nil, List.length_cons, List.length_nil, and_self, if_true, List.set_cons_zero, List.set_cons_succ, Bool.false_eq_true, if_false, Nat.reduceAdd, Nat.reduceSub, List.map_cons, List.map_nil, List.replicate_succ, List.replicate_zero, Bool.not_true, Bool.not_false, Sim.x_sized, Nat.reduceLeDiff, Nat.zero_add, Bool.true_and, Bool.false_and, Bool.and_true, Bool.and_false, Bool.true_or, Bool.false_or, Bool.or_true, Bool.or_false, Bool.and_self, decide_true, decide_false]
      refine (bind_ok (comp_atA (st := S) (g := fun p : D × List Int => p.1) (xs := ps) (f := fun p => tI p.2) (src := .seq (.tup (ps.map (·.1)))) ?_ (fun i acc _ => rfl) (by omega) fun p hp => ⟨[some (.cl st.length), some (.tup (ps.map (·.1))), some p.1, none], rfl, low_tI _, fun acc => ?_⟩)).trans ?_
      · show iSeq _ _ S = _
        rw [x_iSeq]
        try simp -implicitDefEqProofs only [Sim.sM_pass, Sim.sM_seq, Sim.sM_asg, Sim.sM_ret, Sim.sM_expr, Sim.sM_if, Sim.sM_par, Sim.sM_asgT, Sim.sM_set, Sim.ret_bind, Sim.bind_assoc, Sim.x_var0, Sim.x_varS, Sim.x_C, Sim.x_op, Sim.x_un, Sim.x_A, Sim.x_nil, Sim.x_cons, Sim.x_call, Sim.x_and, Sim.x_or, Sim.x_not, Sim.x_if, Sim.x_tV, Sim.x_tCmp, Sim.x_tTru, Sim.x_tNot, Sim.x_tAnd, Sim.x_tOr, Sim.x_asB, Sim.x_sl, Sim.x_oNone, Sim.x_oSome, Sim.x_asI, Sim.x_trN, Sim.x_trB, Sim.x_trI, Sim.x_trL, Sim.x_trR, Sim.x_trT, Sim.x_add, Sim.x_sub, Sim.x_neg, Sim.x_lt, Sim.x_le, Sim.x_gt, Sim.x_ge, Sim.x_abs, Sim.x_max2, Sim.x_min2, Sim.x_intI, Sim.x_intB, Sim.x_eqI, Sim.x_neI, Sim.x_eqS, Sim.x_neS, Sim.x_lst, Sim.x_tup, Sim.x_lenL, Sim.x_lenT, Sim.x_lenR, Sim.x_tupleL, Sim.x_listL, Sim.x_listT, Sim.x_slL, Sim.x_slR, Sim.x_slT, Sim.callM, Sim.arrOf, List.filterMap_cons, List.filterMap_nil, List.getElem?_cons_zero, List.getElem?_cons_succ, List.cons_append, List.nil_append, List.append_nil, List.length_cons, List.length_nil, and_self, if_true, List.set_cons_zero, List.set_cons_succ, Bool.false_eq_true, if_false, Nat.reduceAdd, Nat.reduceSub, List.map_cons, List.map_nil, List.replicate_succ, List.replicate_zero, Bool.not_true, Bool.not_false, Sim.x_sized, Nat.reduceLeDiff, Nat.zero_add, Bool.true_and, Bool.false_and, Bool.and_true, Bool.and_false, Bool.true_or, Bool.false_or, Bool.or_true, Bool.or_false, Bool.and_self, decide_true, decide_false]
        rfl
      · obtain ⟨a, b⟩ := h' p hp
        have e1 : seqV (S ++ [.lst acc]) p.1 = some (p.2.map D.int) := by rw [seqV_app b, a]
        try simp -implicitDefEqProofs only [Sim.sM_pass, Sim.sM_seq, Sim.sM_asg, Sim.sM_ret, Sim.sM_expr, Sim.sM_if, Sim.sM_par, Sim.sM_asgT, Sim.sM_set, Sim.ret_bind, Sim.bind_assoc, Sim.x_var0, Sim.x_varS, Sim.x_C, Sim.x_op, Sim.x_un, Sim.x_A, Sim.x_nil, Sim.x_cons, Sim.x_call, Sim.x_and, Sim.x_or, Sim.x_not, Sim.x_if, Sim.x_tV, Sim.x_tCmp, Sim.x_tTru, Sim.x_tNot, Sim.x_tAnd, Sim.x_tOr, Sim.x_asB, Sim.x_sl, Sim.x_oNone, Sim.x_oSome, Sim.x_asI, Sim.x_trN, Sim.x_trB, Sim.x_trI, Sim.x_trL, Sim.x_trR, Sim.x_trT, Sim.x_add, Sim.x_sub, Sim.x_neg, Sim.x_lt, Sim.x_le, Sim.x_gt, Sim.x_ge, Sim.x_abs, Sim.x_max2, Sim.x_min2, Sim.x_intI, Sim.x_intB, Sim.x_eqI, Sim.x_neI, Sim.x_eqS, Sim.x_neS, Sim.x_lst, Sim.x_tup, Sim.x_lenL, Sim.x_lenT, Sim.x_lenR, Sim.x_tupleL, Sim.x_listL, Sim.x_listT, Sim.x_slL, Sim.x_slR, Sim.x_slT, Sim.callM, Sim.arrOf, List.filterMap_cons, List.filterMap_nil, List.getElem?_cons_zero, List.getElem?_cons_succ, List.cons_append, List.nil_append, List.append_nil, List.length_cons, List.length_nil, and_self, if_true, List.set_cons_zero, List.set_cons_succ, Bool.false_eq_true, if_false, Nat.reduceAdd, Nat.reduceSub, List.map_cons, List.map_nil, List.replicate_succ, List.replicate_zero, Bool.not_true, Bool.not_false, Sim.x_sized, Nat.reduceLeDiff, Nat.zero_add, Bool.true_and, Bool.false_and, Bool.and_true, Bool.and_false, Bool.true_or, Bool.false_or, Bool.or_true, Bool.or_false, Bool.and_self, decide_true, decide_false]
        exact of_at (by simp only [gTuple, e1, Option.map_some])
      · have e3 : (ps.map fun p => tI p.2) = (ps.map (·.2)).map tI := by rw [List.map_map]; rfl
        rw [e3]
        try simp -implicitDefEqProofs only [Sim.sM_pass, Sim.sM_seq, Sim.sM_asg, Sim.sM_ret, Sim.sM_expr, Sim.sM_if, Sim.sM_par, Sim.sM_asgT, Sim.sM_set, Sim.ret_bind, Sim.bind_assoc, Sim.x_var0, Sim.x_varS, Sim.x_C, Sim.x_op, Sim.x_un, Sim.x_A, Sim.x_nil, Sim.x_cons, Sim.x_call, Sim.x_and, Sim.x_or, Sim.x_not, Sim.x_if, Sim.x_tV, Sim.x_tCmp, Sim.x_tTru, Sim.x_tNot, Sim.x_tAnd, Sim.x_tOr, Sim.x_asB, Sim.x_sl, Sim.x_oNone, Sim.x_oSome, Sim.x_asI, Sim.x_trN, Sim.x_trB, Sim.x_trI, Sim.x_trL, Sim.x_trR, Sim.x_trT, Sim.x_add, Sim.x_sub, Sim.x_neg, Sim.x_lt, Sim.x_le, Sim.x_gt, Sim.x_ge, Sim.x_abs, Sim.x_max2, Sim.x_min2, Sim.x_intI, Sim.x_intB, Sim.x_eqI, Sim.x_neI, Sim.x_eqS, Sim.x_neS, Sim.x_lst, Sim.x_tup, Sim.x_lenL, Sim.x_lenT, Sim.x_lenR, Sim.x_tupleL, Sim.x_listL, Sim.x_listT, Sim.x_slL, Sim.x_slR, Sim.x_slT, Sim.callM, Sim.arrOf, List.filterMap_cons, List.filterMap_nil, List.getElem?_cons_zero, List.getElem?_cons_succ, List.cons_append, List.nil_append, List.append_nil, List.length_cons, List.length_nil, and_self, if_true, List.set_cons_zero, List.set_cons_succ, Bool.false_eq_true, if_false, Nat.reduceAdd, Nat.reduceSub, List.map_cons, List.map_nil, List.replicate_succ, List.replicate_zero, Bool.not_true, Bool.not_false, Sim.x_sized, Nat.reduceLeDiff, Nat.zero_add, Bool.true_and, Bool.false_and, Bool.and_true, Bool.and_false, Bool.true_or, Bool.false_or, Bool.or_true, Bool.or_false, Bool.and_self, decide_true, decide_false]
        rw [x_lenSet g.nd g.few.2]
        try simp -implicitDefEqProofs only [Sim.sM_pass, Sim.sM_seq, Sim.sM_asg, Sim.sM_ret, Sim.sM_expr, Sim.sM_if, Sim.sM_par, Sim.sM_asgT, Sim.sM_set, Sim.ret_bind, Sim.bind_assoc, Sim.x_var0, Sim.x_varS, Sim.x_C, Sim.x_op, Sim.x_un, Sim.x_A, Sim.x_nil, Sim.x_cons, Sim.x_call, Sim.x_and, Sim.x_or, Sim.x_not, Sim.x_if, Sim.x_tV, Sim.x_tCmp, Sim.x_tTru, Sim.x_tNot, Sim.x_tAnd, Sim.x_tOr, Sim.x_asB, Sim.x_sl, Sim.x_oNone, Sim.x_oSome, Sim.x_asI, Sim.x_trN, Sim.x_trB, Sim.x_trI, Sim.x_trL, Sim.x_trR, Sim.x_trT, Sim.x_add, Sim.x_sub, Sim.x_neg, Sim.x_lt, Sim.x_le, Sim.x_gt, Sim.x_ge, Sim.x_abs, Sim.x_max2, Sim.x_min2, Sim.x_intI, Sim.x_intB, Sim.x_eqI, Sim.x_neI, Sim.x_eqS, Sim.x_neS, Sim.x_lst, Sim.x_tup, Sim.x_lenL, Sim.x_lenT, Sim.x_lenR, Sim.x_tupleL, Sim.x_listL, Sim.x_listT, Sim.x_slL, Sim.x_slR, Sim.x_slT, Sim.callM, Sim.arrOf, List.filterMap_cons, List.filterMap_nil, List.getElem?_cons_zero, List.getElem?_cons_succ, List.cons_append, List.nil_append, List.append_nil, List.length_cons, List.length_nil, and_self, if_true, List.set_cons_zero, List.set_cons_succ, Bool.false_eq_true, if_false, Nat.reduceAdd, Nat.reduceSub, List.map_cons, List.map_nil, List.replicate_succ, List.replicate_zero, Bool.not_true, Bool.not_false, Sim.x_sized, Nat.reduceLeDiff, Nat.zero_add, Bool.true_and, Bool.false_and, Bool.and_true, Bool.and_false, Bool.true_or, Bool.false_or, Bool.or_true, Bool.or_false, Bool.and_self, decide_true, decide_false]
        have e4 : decide ((ps.length : Int) < ((ps.map (fun x => x.2)).length : Int)) = false := by rw [List.length_map]; simp
        try simp -implicitDefEqProofs only [e4, List.length_map, Int.lt_irrefl, Sim.sM_pass, Sim.sM_seq, Sim.sM_asg, Sim.sM_ret, Sim.sM_expr, Sim.sM_if, Sim.sM_par, Sim.sM_asgT, Sim.sM_set, Sim.ret_bind, Sim.bind_assoc, Sim.x_var0, Sim.x_varS, Sim.x_C, Sim.x_op, Sim.x_un, Sim.x_A, Sim.x_nil, Sim.x_cons, Sim.x_call, Sim.x_and, Sim.x_or, Sim.x_not, Sim.x_if, Sim.x_tV, Sim.x_tCmp, Sim.x_tTru, Sim.x_tNot, Sim.x_tAnd, Sim.x_tOr, Sim.x_asB, Sim.x_sl, Sim.x_oNone, Sim.x_oSome, Sim.x_asI, Sim.x_trN, Sim.x_trB, Sim.x_trI, Sim.x_trL, Sim.x_trR, Sim.x_trT, Sim.x_add, Sim.x_sub, Sim.x_neg, Sim.x_lt, Sim.x_le, Sim.x_gt, Sim.x_ge, Sim.x_abs, Sim.x_max2, Sim.x_min2, Sim.x_intI, Sim.x_intB, Sim.x_eqI, Sim.x_neI, Sim.x_eqS, Sim.x_neS, Sim.x_lst, Sim.x_tup, Sim.x_lenL, Sim.x_lenT, Sim.x_lenR, Sim.x_tupleL, Sim.x_listL, Sim.x_listT, Sim.x_slL, Sim.x_slR, Sim.x_slT, Sim.callM, Sim.arrOf, List.filterMap_cons, List.filterMap_nil, List.getElem?_cons_zero, List.getElem?_cons_succ, List.cons_append, List.nil_append, List.append_nil, List.length_cons, List.length_nil, and_self, if_true, List.set_cons_zero, List.set_cons_succ, Bool.false_eq_true, if_false, Nat.reduceAdd, Nat.reduceSub, List.map_cons, List.map_nil, List.replicate_succ, List.replicate_zero, Bool.not_true, Bool.not_false, Sim.x_sized, Nat.reduceLeDiff, Nat.zero_add, Bool.true_and, Bool.false_and, Bool.and_true, Bool.and_false, Bool.true_or, Bool.false_or, Bool.or_true, Bool.or_false, Bool.and_self, decide_true, decide_false]
        refine (bind_ok (a := ()) (st' := st ++ [.ins "Bar" [("words", tW (ps.map (·.2)))]]) ?_).trans rfl
        refine of_at ?_
        have gk : S[st.length]? = some (.ins "Bar" []) := by rw [← hS]; simp
        simp only [gSetF, gk]
        rw [if_pos ⟨by simp [FT], by simp⟩, ← hS, List.set_append_right _ _ (Nat.le_refl _)]
        simp [putFD]
  show mStarWith exitV 1 4 d_Bar___init__ (.cl st.length :: ps.map (·.1)) S = _
  unfold mStarWith
  rw [if_pos ⟨by simp, by simp; omega⟩]
  show exitR exitV S (d_Bar___init__ [some (.cl st.length), some (.tup (ps.map (·.1))), none, none] S) = _
  unfold sM at key
  cases q : d_Bar___init__ [some (.cl st.length), some (.tup (ps.map (·.1))), none, none] S with
  | stuck => rw [q] at key; cases key
  | bk _ _ => rw [q] at key; cases key
  | ct _ _ => rw [q] at key; cases key
  | ex _ _ _ => rw [q] at key; cases key
  | rt _ _ => rw [q] at key; cases key
  | nx ev' st' =>
    rw [q] at key
    cases key
    show exitV S .non _ = _
    rw [exitV_low (by simp only [D.low]) (fun j hj c e => ?_), hSl, List.take_of_length_le (by simp)]
    rw [hSl] at hj ⊢
    by_cases hj2 : j < st.length
    · left
      rw [← hS]
      rw [List.getElem?_append_left hj2] at e ⊢
      exact e
    · have : j = st.length := by omega
      subst this
      rw [List.getElem?_append_right (Nat.le_refl _)] at e
      simp at e
      subst e
      right
      have := low_tW (ps.map (·.2)) (n := st.length + 1)
      simp only [Cell.low, D.lowF, Bool.and_true]
      exact this
theorem make_bar {st : Store} {ps : WP} (h : ∀ p ∈ ps, seqV st p.1 = some (p.2.map D.int) ∧ D.low st.length p.1 = true) (g : Good (ps.map (·.2))) {vs : List D} (hv : vs = ps.map (·.1)) :
    makeSM "Bar" m_Bar___init__ vs st = .ok (.cl st.length) (st ++ [.ins "Bar" [("words", tW (ps.map (·.2)))]]) := by
  subst hv
  unfold makeSM
  rw [init_bar h g]
theorem frz_bar {st : Store} {ws : List (List Int)} : M.of (frzV 0 (.cl st.length)) (st ++ [.ins "Bar" [("words", tW ws)]]) = .ok (barD ws) (st ++ [.dead]) := by
  refine of_at ?_
  have hl := low_tW ws (n := 0)
  rw [frzV_ins (c := "Bar") (fs := [("words", tW ws)]) (Nat.zero_le _) (by simp) (by simp only [D.lowF, Bool.and_true]; exact hl)]
  rw [List.set_append_right _ _ (Nat.le_refl _)]
  simp [barD]
theorem ix_seq {st : Store} {d : D} {xs : List D} (h : seqV st d = some xs) {i : Nat} {x : D} (hx : xs[i]? = some x) : gIx d (.int (i : Int)) st = some (x, st) := by
  have hi : i < xs.length := (List.getElem?_eq_some_iff.mp hx).1
  have e : atI xs (i : Int) = some x := by
    unfold L2.atI L2.ixN
    rw [if_pos (by omega), if_pos (by omega)]
    exact hx
  simp only [gIx, h, e, Option.map_some]
theorem list_seq {st : Store} {d : D} {xs : List D} (h : seqV st d = some xs) : gList [d] st = some (.lst xs, st) := by simp only [gList, h, Option.map_some]
theorem at_law_bar {st : Store} {d : D} {ps : WP} (hd : seqV st d = some (ps.map (·.1))) (h : ∀ p ∈ ps, seqV st p.1 = some (p.2.map D.int) ∧ D.low st.length p.1 = true) (g : Good (ps.map (·.2))) :
    m__law_bar [d] st = .ok (barD (ps.map (·.2))) st := by
  have key : ∃ st', sM d__law_bar [some d] st = .ok (.inr (barD (ps.map (·.2)))) (st ++ [st']) := by
    refine ⟨.dead, ?_⟩
    have few := g.few
    unfold d__law_bar
    try simp -implicitDefEqProofs only [x_frz, x_makeS, Sim.sM_pass, Sim.sM_seq, Sim.sM_asg, Sim.sM_ret, Sim.sM_expr, Sim.sM_if, Sim.sM_par, Sim.sM_asgT, Sim.sM_set, Sim.ret_bind, Sim.bind_assoc, Sim.x_var0, Sim.x_varS, Sim.x_C, Sim.x_op, Sim.x_un, Sim.x_A, Sim.x_nil, Sim.x_cons, Sim.x_call, Sim.x_and, Sim.x_or, Sim.x_not, Sim.x_if, Sim.x_tV, Sim.x_tCmp, Sim.x_tTru, Sim.x_tNot, Sim.x_tAnd, Sim.x_tOr, Sim.x_asB, Sim.x_sl, Sim.x_oNone, Sim.x_oSome, Sim.x_asI, Sim.x_trN, Sim.x_trB, Sim.x_trI, Sim.x_trL, Sim.x_trR, Sim.x_trT, Sim.x_add, Sim.x_sub, Sim.x_neg, Sim.x_lt, Sim.x_le, Sim.x_gt, Sim.x_ge, Sim.x_abs, Sim.x_max2, Sim.x_min2, Sim.x_intI, Sim.x_intB, Sim.x_eqI, Sim.x_neI, Sim.x_eqS, Sim.x_neS, Sim.x_lst, Sim.x_tup, Sim.x_lenL, Sim.x_lenT, Sim.x_lenR, Sim.x_tupleL, Sim.x_listL, Sim.x_listT, Sim.x_slL, Sim.x_slR, Sim.x_slT, Sim.callM, Sim.arrOf, List.filterMap_cons, List.filterMap_nil, List.getElem?_cons_zero, List.getElem?_cons_succ, List.cons_append, List.nil_append, List.append_nil, List.length_cons, List.length_nil, and_self, if_true, List.set_cons_zero, List.set_cons_succ, Bool.false_eq_true, if_false, Nat.reduceAdd, Nat.reduceSub, List.map_cons, List.map_nil, List.replicate_succ, List.replicate_zero, Bool.not_true, Bool.not_false, Sim.x_sized, Nat.reduceLeDiff, Nat.zero_add, Bool.true_and, Bool.false_and, Bool.and_true, Bool.and_false, Bool.true_or, Bool.false_or, Bool.or_true, Bool.or_false, Bool.and_self, decide_true, decide_false]
    refine (bind_ok (of_at (len_seq hd))).trans ?_
    rw [List.length_map]
    try simp -implicitDefEqProofs only [Sim.sM_pass, Sim.sM_seq, Sim.sM_asg, Sim.sM_ret, Sim.sM_expr, Sim.sM_if, Sim.sM_par, Sim.sM_asgT, Sim.sM_set, Sim.ret_bind, Sim.bind_assoc, Sim.x_var0, Sim.x_varS, Sim.x_C, Sim.x_op, Sim.x_un, Sim.x_A, Sim.x_nil, Sim.x_cons, Sim.x_call, Sim.x_and, Sim.x_or, Sim.x_not, Sim.x_if, Sim.x_tV, Sim.x_tCmp, Sim.x_tTru, Sim.x_tNot, Sim.x_tAnd, Sim.x_tOr, Sim.x_asB, Sim.x_sl, Sim.x_oNone, Sim.x_oSome, Sim.x_asI, Sim.x_trN, Sim.x_trB, Sim.x_trI, Sim.x_trL, Sim.x_trR, Sim.x_trT, Sim.x_add, Sim.x_sub, Sim.x_neg, Sim.x_lt, Sim.x_le, Sim.x_gt, Sim.x_ge, Sim.x_abs, Sim.x_max2, Sim.x_min2, Sim.x_intI, Sim.x_intB, Sim.x_eqI, Sim.x_neI, Sim.x_eqS, Sim.x_neS, Sim.x_lst, Sim.x_tup, Sim.x_lenL, Sim.x_lenT, Sim.x_lenR, Sim.x_tupleL, Sim.x_listL, Sim.x_listT, Sim.x_slL, Sim.x_slR, Sim.x_slT, Sim.callM, Sim.arrOf, List.filterMap_cons, List.filterMap_nil, List.getElem?_cons_zero, List.getElem?_cons_succ, List.cons_append, List.nil_append, List.append_nil, List.length_cons, List.length_nil, and_self, if_true, List.set_cons_zero, List.set_cons_succ, Bool.false_eq_true, if_false, Nat.reduceAdd, Nat.reduceSub, List.map_cons, List.map_nil, List.replicate_succ, List.replicate_zero, Bool.not_true, Bool.not_false, Sim.x_sized, Nat.reduceLeDiff, Nat.zero_add, Bool.true_and, Bool.false_and, Bool.and_true, Bool.and_false, Bool.true_or, Bool.false_or, Bool.or_true, Bool.or_false, Bool.and_self, decide_true, decide_false]
    have hlist : ∀ p ∈ ps, gList [p.1] st = some (.lst (p.2.map D.int), st) := fun p hp => list_seq (h p hp).1
    have hl2 : ∀ p ∈ ps, seqV st (.lst (p.2.map D.int)) = some (p.2.map D.int) ∧ D.low st.length (.lst (p.2.map D.int)) = true := fun p hp => ⟨rfl, low_lI _⟩
    match ps, hd, h, g, few, hlist, hl2 with
    | [], _, _, _, few, _, _ => simp at few
    | [p], hd, h, g, few, hlist, hl2 =>
      try simp -implicitDefEqProofs only [Sim.sM_pass, Sim.sM_seq, Sim.sM_asg, Sim.sM_ret, Sim.sM_expr, Sim.sM_if, Sim.sM_par, Sim.sM_asgT, Sim.sM_set, Sim.ret_bind, Sim.bind_assoc, Sim.x_var0, Sim.x_varS, Sim.x_C, Sim.x_op, Sim.x_un, Sim.x_A, Sim.x_nil, Sim.x_cons, Sim.x_call, Sim.x_and, Sim.x_or, Sim.x_not, Sim.x_if, Sim.x_tV, Sim.x_tCmp, Sim.x_tTru, Sim.x_tNot, Sim.x_tAnd, Sim.x_tOr, Sim.x_asB, Sim.x_sl, Sim.x_oNone, Sim.x_oSome, Sim.x_asI, Sim.x_trN, Sim.x_trB, Sim.x_trI, Sim.x_trL, Sim.x_trR, Sim.x_trT, Sim.x_add, Sim.x_sub, Sim.x_neg, Sim.x_lt, Sim.x_le, Sim.x_gt, Sim.x_ge, Sim.x_abs, Sim.x_max2, Sim.x_min2, Sim.x_intI, Sim.x_intB, Sim.x_eqI, Sim.x_neI, Sim.x_eqS, Sim.x_neS, Sim.x_lst, Sim.x_tup, Sim.x_lenL, Sim.x_lenT, Sim.x_lenR, Sim.x_tupleL, Sim.x_listL, Sim.x_listT, Sim.x_slL, Sim.x_slR, Sim.x_slT, Sim.callM, Sim.arrOf, List.filterMap_cons, List.filterMap_nil, List.getElem?_cons_zero, List.getElem?_cons_succ, List.cons_append, List.nil_append, List.append_nil, List.length_cons, List.length_nil, and_self, if_true, List.set_cons_zero, List.set_cons_succ, Bool.false_eq_true, if_false, Nat.reduceAdd, Nat.reduceSub, List.map_cons, List.map_nil, List.replicate_succ, List.replicate_zero, Bool.not_true, Bool.not_false, Sim.x_sized, Nat.reduceLeDiff, Nat.zero_add, Bool.true_and, Bool.false_and, Bool.and_true, Bool.and_false, Bool.true_or, Bool.false_or, Bool.or_true, Bool.or_false, Bool.and_self, decide_true, decide_false]
      rw [show decide (((1 : Nat) : Int) = 1) = true from rfl]
      try simp -implicitDefEqProofs only [Sim.sM_pass, Sim.sM_seq, Sim.sM_asg, Sim.sM_ret, Sim.sM_expr, Sim.sM_if, Sim.sM_par, Sim.sM_asgT, Sim.sM_set, Sim.ret_bind, Sim.bind_assoc, Sim.x_var0, Sim.x_varS, Sim.x_C, Sim.x_op, Sim.x_un, Sim.x_A, Sim.x_nil, Sim.x_cons, Sim.x_call, Sim.x_and, Sim.x_or, Sim.x_not, Sim.x_if, Sim.x_tV, Sim.x_tCmp, Sim.x_tTru, Sim.x_tNot, Sim.x_tAnd, Sim.x_tOr, Sim.x_asB, Sim.x_sl, Sim.x_oNone, Sim.x_oSome, Sim.x_asI, Sim.x_trN, Sim.x_trB, Sim.x_trI, Sim.x_trL, Sim.x_trR, Sim.x_trT, Sim.x_add, Sim.x_sub, Sim.x_neg, Sim.x_lt, Sim.x_le, Sim.x_gt, Sim.x_ge, Sim.x_abs, Sim.x_max2, Sim.x_min2, Sim.x_intI, Sim.x_intB, Sim.x_eqI, Sim.x_neI, Sim.x_eqS, Sim.x_neS, Sim.x_lst, Sim.x_tup, Sim.x_lenL, Sim.x_lenT, Sim.x_lenR, Sim.x_tupleL, Sim.x_listL, Sim.x_listT, Sim.x_slL, Sim.x_slR, Sim.x_slT, Sim.callM, Sim.arrOf, List.filterMap_cons, List.filterMap_nil, List.getElem?_cons_zero, List.getElem?_cons_succ, List.cons_append, List.nil_append, List.append_nil, List.length_cons, List.length_nil, and_self, if_true, List.set_cons_zero, List.set_cons_succ, Bool.false_eq_true, if_false, Nat.reduceAdd, Nat.reduceSub, List.map_cons, List.map_nil, List.replicate_succ, List.replicate_zero, Bool.not_true, Bool.not_false, Sim.x_sized, Nat.reduceLeDiff, Nat.zero_add, Bool.true_and, Bool.false_and, Bool.and_true, Bool.and_false, Bool.true_or, Bool.false_or, Bool.or_true, Bool.or_false, Bool.and_self, decide_true, decide_false]
      refine (bind_ok (of_at (ix_seq hd (i := 0) rfl))).trans ?_
      refine (bind_ok (make_bar (ps := [p]) h g rfl)).trans ?_
      rw [bind_ok frz_bar]
      rfl
    | [p, q], hd, h, g, few, hlist, hl2 =>
      have e : decide ((([p, q] : WP).length : Int) = 1) = false := rfl
      rw [e]
      try simp -implicitDefEqProofs only [Sim.sM_pass, Sim.sM_seq, Sim.sM_asg, Sim.sM_ret, Sim.sM_expr, Sim.sM_if, Sim.sM_par, Sim.sM_asgT, Sim.sM_set, Sim.ret_bind, Sim.bind_assoc, Sim.x_var0, Sim.x_varS, Sim.x_C, Sim.x_op, Sim.x_un, Sim.x_A, Sim.x_nil, Sim.x_cons, Sim.x_call, Sim.x_and, Sim.x_or, Sim.x_not, Sim.x_if, Sim.x_tV, Sim.x_tCmp, Sim.x_tTru, Sim.x_tNot, Sim.x_tAnd, Sim.x_tOr, Sim.x_asB, Sim.x_sl, Sim.x_oNone, Sim.x_oSome, Sim.x_asI, Sim.x_trN, Sim.x_trB, Sim.x_trI, Sim.x_trL, Sim.x_trR, Sim.x_trT, Sim.x_add, Sim.x_sub, Sim.x_neg, Sim.x_lt, Sim.x_le, Sim.x_gt, Sim.x_ge, Sim.x_abs, Sim.x_max2, Sim.x_min2, Sim.x_intI, Sim.x_intB, Sim.x_eqI, Sim.x_neI, Sim.x_eqS, Sim.x_neS, Sim.x_lst, Sim.x_tup, Sim.x_lenL, Sim.x_lenT, Sim.x_lenR, Sim.x_tupleL, Sim.x_listL, Sim.x_listT, Sim.x_slL, Sim.x_slR, Sim.x_slT, Sim.callM, Sim.arrOf, List.filterMap_cons, List.filterMap_nil, List.getElem?_cons_zero, List.getElem?_cons_succ, List.cons_append, List.nil_append, List.append_nil, List.length_cons, List.length_nil, and_self, if_true, List.set_cons_zero, List.set_cons_succ, Bool.false_eq_true, if_false, Nat.reduceAdd, Nat.reduceSub, List.map_cons, List.map_nil, List.replicate_succ, List.replicate_zero, Bool.not_true, Bool.not_false, Sim.x_sized, Nat.reduceLeDiff, Nat.zero_add, Bool.true_and, Bool.false_and, Bool.and_true, Bool.and_false, Bool.true_or, Bool.false_or, Bool.or_true, Bool.or_false, Bool.and_self, decide_true, decide_false]
      refine (bind_ok (of_at (len_seq hd))).trans ?_
      try simp -implicitDefEqProofs only [Sim.sM_pass, Sim.sM_seq, Sim.sM_asg, Sim.sM_ret, Sim.sM_expr, Sim.sM_if, Sim.sM_par, Sim.sM_asgT, Sim.sM_set, Sim.ret_bind, Sim.bind_assoc, Sim.x_var0, Sim.x_varS, Sim.x_C, Sim.x_op, Sim.x_un, Sim.x_A, Sim.x_nil, Sim.x_cons, Sim.x_call, Sim.x_and, Sim.x_or, Sim.x_not, Sim.x_if, Sim.x_tV, Sim.x_tCmp, Sim.x_tTru, Sim.x_tNot, Sim.x_tAnd, Sim.x_tOr, Sim.x_asB, Sim.x_sl, Sim.x_oNone, Sim.x_oSome, Sim.x_asI, Sim.x_trN, Sim.x_trB, Sim.x_trI, Sim.x_trL, Sim.x_trR, Sim.x_trT, Sim.x_add, Sim.x_sub, Sim.x_neg, Sim.x_lt, Sim.x_le, Sim.x_gt, Sim.x_ge, Sim.x_abs, Sim.x_max2, Sim.x_min2, Sim.x_intI, Sim.x_intB, Sim.x_eqI, Sim.x_neI, Sim.x_eqS, Sim.x_neS, Sim.x_lst, Sim.x_tup, Sim.x_lenL, Sim.x_lenT, Sim.x_lenR, Sim.x_tupleL, Sim.x_listL, Sim.x_listT, Sim.x_slL, Sim.x_slR, Sim.x_slT, Sim.callM, Sim.arrOf, List.filterMap_cons, List.filterMap_nil, List.getElem?_cons_zero, List.getElem?_cons_succ, List.cons_append, List.nil_append, List.append_nil, List.length_cons, List.length_nil, and_self, if_true, List.set_cons_zero, List.set_cons_succ, Bool.false_eq_true, if_false, Nat.reduceAdd, Nat.reduceSub, List.map_cons, List.map_nil, List.replicate_succ, List.replicate_zero, Bool.not_true, Bool.not_false, Sim.x_sized, Nat.reduceLeDiff, Nat.zero_add, Bool.true_and, Bool.false_and, Bool.and_true, Bool.and_false, Bool.true_or, Bool.false_or, Bool.or_true, Bool.or_false, Bool.and_self, decide_true, decide_false]
      rw [show decide (((2 : Nat) : Int) = 2) = true from rfl]
      try simp -implicitDefEqProofs only [Sim.sM_pass, Sim.sM_seq, Sim.sM_asg, Sim.sM_ret, Sim.sM_expr, Sim.sM_if, Sim.sM_par, Sim.sM_asgT, Sim.sM_set, Sim.ret_bind, Sim.bind_assoc, Sim.x_var0, Sim.x_varS, Sim.x_C, Sim.x_op, Sim.x_un, Sim.x_A, Sim.x_nil, Sim.x_cons, Sim.x_call, Sim.x_and, Sim.x_or, Sim.x_not, Sim.x_if, Sim.x_tV, Sim.x_tCmp, Sim.x_tTru, Sim.x_tNot, Sim.x_tAnd, Sim.x_tOr, Sim.x_asB, Sim.x_sl, Sim.x_oNone, Sim.x_oSome, Sim.x_asI, Sim.x_trN, Sim.x_trB, Sim.x_trI, Sim.x_trL, Sim.x_trR, Sim.x_trT, Sim.x_add, Sim.x_sub, Sim.x_neg, Sim.x_lt, Sim.x_le, Sim.x_gt, Sim.x_ge, Sim.x_abs, Sim.x_max2, Sim.x_min2, Sim.x_intI, Sim.x_intB, Sim.x_eqI, Sim.x_neI, Sim.x_eqS, Sim.x_neS, Sim.x_lst, Sim.x_tup, Sim.x_lenL, Sim.x_lenT, Sim.x_lenR, Sim.x_tupleL, Sim.x_listL, Sim.x_listT, Sim.x_slL, Sim.x_slR, Sim.x_slT, Sim.callM, Sim.arrOf, List.filterMap_cons, List.filterMap_nil, List.getElem?_cons_zero, List.getElem?_cons_succ, List.cons_append, List.nil_append, List.append_nil, List.length_cons, List.length_nil, and_self, if_true, List.set_cons_zero, List.set_cons_succ, Bool.false_eq_true, if_false, Nat.reduceAdd, Nat.reduceSub, List.map_cons, List.map_nil, List.replicate_succ, List.replicate_zero, Bool.not_true, Bool.not_false, Sim.x_sized, Nat.reduceLeDiff, Nat.zero_add, Bool.true_and, Bool.false_and, Bool.and_true, Bool.and_false, Bool.true_or, Bool.false_or, Bool.or_true, Bool.or_false, Bool.and_self, decide_true, decide_false]
      refine (bind_ok (of_at (ix_seq hd (i := 0) rfl))).trans ?_
      refine (bind_ok (of_at (hlist p (by simp)))).trans ?_
      refine (bind_ok (of_at (ix_seq hd (i := 1) rfl))).trans ?_
      refine (bind_ok (make_bar (ps := [(.lst (p.2.map D.int), p.2), q]) (fun x hx => by
        simp only [List.mem_cons, List.not_mem_nil, or_false] at hx
        rcases hx with rfl | rfl
        · exact hl2 p (by simp)
        · exact h _ (by simp)) g rfl)).trans ?_
      rw [bind_ok frz_bar]
      rfl
    | [p, q, z], hd, h, g, few, hlist, hl2 =>
      have e : decide ((([p, q, z] : WP).length : Int) = 1) = false := rfl
      rw [e]
      try simp -implicitDefEqProofs only [Sim.sM_pass, Sim.sM_seq, Sim.sM_asg, Sim.sM_ret, Sim.sM_expr, Sim.sM_if, Sim.sM_par, Sim.sM_asgT, Sim.sM_set, Sim.ret_bind, Sim.bind_assoc, Sim.x_var0, Sim.x_varS, Sim.x_C, Sim.x_op, Sim.x_un, Sim.x_A, Sim.x_nil, Sim.x_cons, Sim.x_call, Sim.x_and, Sim.x_or, Sim.x_not, Sim.x_if, Sim.x_tV, Sim.x_tCmp, Sim.x_tTru, Sim.x_tNot, Sim.x_tAnd, Sim.x_tOr, Sim.x_asB, Sim.x_sl, Sim.x_oNone, Sim.x_oSome, Sim.x_asI, Sim.x_trN, Sim.x_trB, Sim.x_trI, Sim.x_trL, Sim.x_trR, Sim.x_trT, Sim.x_add, Sim.x_sub, Sim.x_neg, Sim.x_lt, Sim.x_le, Sim.x_gt, Sim.x_ge, Sim.x_abs, Sim.x_max2, Sim.x_min2, Sim.x_intI, Sim.x_intB, Sim.x_eqI, Sim.x_neI, Sim.x_eqS, Sim.x_neS, Sim.x_lst, Sim.x_tup, Sim.x_lenL, Sim.x_lenT, Sim.x_lenR, Sim.x_tupleL, Sim.x_listL, Sim.x_listT, Sim.x_slL, Sim.x_slR, Sim.x_slT, Sim.callM, Sim.arrOf, List.filterMap_cons, List.filterMap_nil, List.getElem?_cons_zero, List.getElem?_cons_succ, List.cons_append, List.nil_append, List.append_nil, List.length_cons, List.length_nil, and_self, if_true, List.set_cons_zero, List.set_cons_succ, Bool.false_eq_true, if_false, Nat.reduceAdd, Nat.reduceSub, List.map_cons, List.map_nil, List.replicate_succ, List.replicate_zero, Bool.not_true, Bool.not_false, Sim.x_sized, Nat.reduceLeDiff, Nat.zero_add, Bool.true_and, Bool.false_and, Bool.and_true, Bool.and_false, Bool.true_or, Bool.false_or, Bool.or_true, Bool.or_false, Bool.and_self, decide_true, decide_false]
      refine (bind_ok (of_at (len_seq hd))).trans ?_
      try simp -implicitDefEqProofs only [Sim.sM_pass, Sim.sM_seq, Sim.sM_asg, Sim.sM_ret, Sim.sM_expr, Sim.sM_if, Sim.sM_par, Sim.sM_asgT, Sim.sM_set, Sim.ret_bind, Sim.bind_assoc, Sim.x_var0, Sim.x_varS, Sim.x_C, Sim.x_op, Sim.x_un, Sim.x_A, Sim.x_nil, Sim.x_cons, Sim.x_call, Sim.x_and, Sim.x_or, Sim.x_not, Sim.x_if, Sim.x_tV, Sim.x_tCmp, Sim.x_tTru, Sim.x_tNot, Sim.x_tAnd, Sim.x_tOr, Sim.x_asB, Sim.x_sl, Sim.x_oNone, Sim.x_oSome, Sim.x_asI, Sim.x_trN, Sim.x_trB, Sim.x_trI, Sim.x_trL, Sim.x_trR, Sim.x_trT, Sim.x_add, Sim.x_sub, Sim.x_neg, Sim.x_lt, Sim.x_le, Sim.x_gt, Sim.x_ge, Sim.x_abs, Sim.x_max2, Sim.x_min2, Sim.x_intI, Sim.x_intB, Sim.x_eqI, Sim.x_neI, Sim.x_eqS, Sim.x_neS, Sim.x_lst, Sim.x_tup, Sim.x_lenL, Sim.x_lenT, Sim.x_lenR, Sim.x_tupleL, Sim.x_listL, Sim.x_listT, Sim.x_slL, Sim.x_slR, Sim.x_slT, Sim.callM, Sim.arrOf, List.filterMap_cons, List.filterMap_nil, List.getElem?_cons_zero, List.getElem?_cons_succ, List.cons_append, List.nil_append, List.append_nil, List.length_cons, List.length_nil, and_self, if_true, List.set_cons_zero, List.set_cons_succ, Bool.false_eq_true, if_false, Nat.reduceAdd, Nat.reduceSub, List.map_cons, List.map_nil, List.replicate_succ, List.replicate_zero, Bool.not_true, Bool.not_false, Sim.x_sized, Nat.reduceLeDiff, Nat.zero_add, Bool.true_and, Bool.false_and, Bool.and_true, Bool.and_false, Bool.true_or, Bool.false_or, Bool.or_true, Bool.or_false, Bool.and_self, decide_true, decide_false]
      rw [show decide (((3 : Nat) : Int) = 2) = false from rfl]
      try simp -implicitDefEqProofs only [Sim.sM_pass, Sim.sM_seq, Sim.sM_asg, Sim.sM_ret, Sim.sM_expr, Sim.sM_if, Sim.sM_par, Sim.sM_asgT, Sim.sM_set, Sim.ret_bind, Sim.bind_assoc, Sim.x_var0, Sim.x_varS, Sim.x_C, Sim.x_op, Sim.x_un, Sim.x_A, Sim.x_nil, Sim.x_cons, Sim.x_call, Sim.x_and, Sim.x_or, Sim.x_not, Sim.x_if, Sim.x_tV, Sim.x_tCmp, Sim.x_tTru, Sim.x_tNot, Sim.x_tAnd, Sim.x_tOr, Sim.x_asB, Sim.x_sl, Sim.x_oNone, Sim.x_oSome, Sim.x_asI, Sim.x_trN, Sim.x_trB, Sim.x_trI, Sim.x_trL, Sim.x_trR, Sim.x_trT, Sim.x_add, Sim.x_sub, Sim.x_neg, Sim.x_lt, Sim.x_le, Sim.x_gt, Sim.x_ge, Sim.x_abs, Sim.x_max2, Sim.x_min2, Sim.x_intI, Sim.x_intB, Sim.x_eqI, Sim.x_neI, Sim.x_eqS, Sim.x_neS, Sim.x_lst, Sim.x_tup, Sim.x_lenL, Sim.x_lenT, Sim.x_lenR, Sim.x_tupleL, Sim.x_listL, Sim.x_listT, Sim.x_slL, Sim.x_slR, Sim.x_slT, Sim.callM, Sim.arrOf, List.filterMap_cons, List.filterMap_nil, List.getElem?_cons_zero, List.getElem?_cons_succ, List.cons_append, List.nil_append, List.append_nil, List.length_cons, List.length_nil, and_self, if_true, List.set_cons_zero, List.set_cons_succ, Bool.false_eq_true, if_false, Nat.reduceAdd, Nat.reduceSub, List.map_cons, List.map_nil, List.replicate_succ, List.replicate_zero, Bool.not_true, Bool.not_false, Sim.x_sized, Nat.reduceLeDiff, Nat.zero_add, Bool.true_and, Bool.false_and, Bool.and_true, Bool.and_false, Bool.true_or, Bool.false_or, Bool.or_true, Bool.or_false, Bool.and_self, decide_true, decide_false]
      refine (bind_ok (of_at (ix_seq hd (i := 0) rfl))).trans ?_
      refine (bind_ok (of_at (ix_seq hd (i := 1) rfl))).trans ?_
      refine (bind_ok (of_at (hlist q (by simp)))).trans ?_
      refine (bind_ok (of_at (ix_seq hd (i := 2) rfl))).trans ?_
      refine (bind_ok (make_bar (ps := [p, (.lst (q.2.map D.int), q.2), z]) (fun x hx => by
        simp only [List.mem_cons, List.not_mem_nil, or_false] at hx
        rcases hx with rfl | rfl | rfl
        · exact h _ (by simp)
        · exact hl2 q (by simp)
        · exact h _ (by simp)) g rfl)).trans ?_
      rw [bind_ok frz_bar]
      rfl
    | _ :: _ :: _ :: _ :: _, _, _, _, few, _, _ => simp only [List.map_cons, List.length_cons] at few; omega
  obtain ⟨c, key⟩ := key
  show mFun 1 1 d__law_bar [d] st = _
  rw [fun_ok key]
  show exitV st (barD _) _ = _
  rw [exitV_low (low_bar _) CutOk.app, List.take_left]
theorem e_law_bar {ws : List (List Int)} (g : Good ws) : m__law_bar [lW ws] = M.ret (barD ws) := by
  funext st
  have e1 : (ws.map fun w => (tI w, w)).map (fun x : D × List Int => x.1) = ws.map tI := by rw [List.map_map]; rfl
  have e2 : (ws.map fun w => (tI w, w)).map (fun x : D × List Int => x.2) = ws := by rw [List.map_map]; exact List.map_id' ws
  have q := at_law_bar (st := st) (d := lW ws) (ps := ws.map fun w => (tI w, w)) (by rw [e1]; rfl) (fun p hp => by
    obtain ⟨w, _, rfl⟩ := List.mem_map.mp hp
    exact ⟨rfl, low_tI w⟩) (by rw [e2]; exact g)
  rw [e2] at q
  exact q
end K15
end

section
open PySem PySem.Spec PyProof.Rows L2 RZ Sim
namespace K15
theorem e_bar_eq {a b : List (List Int)} : m_Bar___eq__ [barD a, barD b] = M.ret (.bl (decide (a = b))) := fn_eq (by
  unfold d_Bar___eq__
  try simp -implicitDefEqProofs only [x_isBar, x_words, Sim.sM_pass, Sim.sM_seq, Sim.sM_asg, Sim.sM_ret, Sim.sM_expr, Sim.sM_if, Sim.sM_par, Sim.sM_asgT, Sim.sM_set, Sim.ret_bind, Sim.bind_assoc, Sim.x_var0, Sim.x_varS, Sim.x_C, Sim.x_op, Sim.x_un, Sim.x_A, Sim.x_nil, Sim.x_cons, Sim.x_call, Sim.x_and, Sim.x_or, Sim.x_not, Sim.x_if, Sim.x_tV, Sim.x_tCmp, Sim.x_tTru, Sim.x_tNot, Sim.x_tAnd, Sim.x_tOr, Sim.x_asB, Sim.x_sl, Sim.x_oNone, Sim.x_oSome, Sim.x_asI, Sim.x_trN, Sim.x_trB, Sim.x_trI, Sim.x_trL, Sim.x_trR, Sim.x_trT, Sim.x_add, Sim.x_sub, Sim.x_neg, Sim.x_lt, Sim.x_le, Sim.x_gt, Sim.x_ge, Sim.x_abs, Sim.x_max2, Sim.x_min2, Sim.x_intI, Sim.x_intB, Sim.x_eqI, Sim.x_neI, Sim.x_eqS, Sim.x_neS, Sim.x_lst, Sim.x_tup, Sim.x_lenL, Sim.x_lenT, Sim.x_lenR, Sim.x_tupleL, Sim.x_listL, Sim.x_listT, Sim.x_slL, Sim.x_slR, Sim.x_slT, Sim.callM, Sim.arrOf, List.filterMap_cons, List.filterMap_nil, List.getElem?_cons_zero, List.getElem?_cons_succ, List.cons_append, List.nil_append, List.append_nil, List.length_cons, List.length_nil, and_self, if_true, List.set_cons_zero, List.set_cons_succ, Bool.false_eq_true, if_false, Nat.reduceAdd, Nat.reduceSub, List.map_cons, List.map_nil, List.replicate_succ, List.replicate_zero, Bool.not_true, Bool.not_false, Sim.x_sized, Nat.reduceLeDiff, Nat.zero_add, Bool.true_and, Bool.false_and, Bool.and_true, Bool.and_false, Bool.true_or, Bool.false_or, Bool.or_true, Bool.or_false, Bool.and_self, decide_true, decide_false]
  rw [x_eqTW]
  try simp -implicitDefEqProofs only [Sim.sM_pass, Sim.sM_seq, Sim.sM_asg, Sim.sM_ret, Sim.sM_expr, Sim.sM_if, Sim.sM_par, Sim.sM_asgT, Sim.sM_set, Sim.ret_bind, Sim.bind_assoc, Sim.x_var0, Sim.x_varS, Sim.x_C, Sim.x_op, Sim.x_un, Sim.x_A, Sim.x_nil, Sim.x_cons, Sim.x_call, Sim.x_and, Sim.x_or, Sim.x_not, Sim.x_if, Sim.x_tV, Sim.x_tCmp, Sim.x_tTru, Sim.x_tNot, Sim.x_tAnd, Sim.x_tOr, Sim.x_asB, Sim.x_sl, Sim.x_oNone, Sim.x_oSome, Sim.x_asI, Sim.x_trN, Sim.x_trB, Sim.x_trI, Sim.x_trL, Sim.x_trR, Sim.x_trT, Sim.x_add, Sim.x_sub, Sim.x_neg, Sim.x_lt, Sim.x_le, Sim.x_gt, Sim.x_ge, Sim.x_abs, Sim.x_max2, Sim.x_min2, Sim.x_intI, Sim.x_intB, Sim.x_eqI, Sim.x_neI, Sim.x_eqS, Sim.x_neS, Sim.x_lst, Sim.x_tup, Sim.x_lenL, Sim.x_lenT, Sim.x_lenR, Sim.x_tupleL, Sim.x_listL, Sim.x_listT, Sim.x_slL, Sim.x_slR, Sim.x_slT, Sim.callM, Sim.arrOf, List.filterMap_cons, List.filterMap_nil, List.getElem?_cons_zero, List.getElem?_cons_succ, List.cons_append, List.nil_append, List.append_nil, List.length_cons, List.length_nil, and_self, if_true, List.set_cons_zero, List.set_cons_succ, Bool.false_eq_true, if_false, Nat.reduceAdd, Nat.reduceSub, List.map_cons, List.map_nil, List.replicate_succ, List.replicate_zero, Bool.not_true, Bool.not_false, Sim.x_sized, Nat.reduceLeDiff, Nat.zero_add, Bool.true_and, Bool.false_and, Bool.and_true, Bool.and_false, Bool.true_or, Bool.false_or, Bool.or_true, Bool.or_false, Bool.and_self, decide_true, decide_false])
theorem e_bar_eqL {a : List (List Int)} {xs : List D} : m_Bar___eq__ [barD a, .lst xs] = M.ret (.bl false) := fn_eq (by
  unfold d_Bar___eq__
  try simp -implicitDefEqProofs only [x_isBarL, Sim.sM_pass, Sim.sM_seq, Sim.sM_asg, Sim.sM_ret, Sim.sM_expr, Sim.sM_if, Sim.sM_par, Sim.sM_asgT, Sim.sM_set, Sim.ret_bind, Sim.bind_assoc, Sim.x_var0, Sim.x_varS, Sim.x_C, Sim.x_op, Sim.x_un, Sim.x_A, Sim.x_nil, Sim.x_cons, Sim.x_call, Sim.x_and, Sim.x_or, Sim.x_not, Sim.x_if, Sim.x_tV, Sim.x_tCmp, Sim.x_tTru, Sim.x_tNot, Sim.x_tAnd, Sim.x_tOr, Sim.x_asB, Sim.x_sl, Sim.x_oNone, Sim.x_oSome, Sim.x_asI, Sim.x_trN, Sim.x_trB, Sim.x_trI, Sim.x_trL, Sim.x_trR, Sim.x_trT, Sim.x_add, Sim.x_sub, Sim.x_neg, Sim.x_lt, Sim.x_le, Sim.x_gt, Sim.x_ge, Sim.x_abs, Sim.x_max2, Sim.x_min2, Sim.x_intI, Sim.x_intB, Sim.x_eqI, Sim.x_neI, Sim.x_eqS, Sim.x_neS, Sim.x_lst, Sim.x_tup, Sim.x_lenL, Sim.x_lenT, Sim.x_lenR, Sim.x_tupleL, Sim.x_listL, Sim.x_listT, Sim.x_slL, Sim.x_slR, Sim.x_slT, Sim.callM, Sim.arrOf, List.filterMap_cons, List.filterMap_nil, List.getElem?_cons_zero, List.getElem?_cons_succ, List.cons_append, List.nil_append, List.append_nil, List.length_cons, List.length_nil, and_self, if_true, List.set_cons_zero, List.set_cons_succ, Bool.false_eq_true, if_false, Nat.reduceAdd, Nat.reduceSub, List.map_cons, List.map_nil, List.replicate_succ, List.replicate_zero, Bool.not_true, Bool.not_false, Sim.x_sized, Nat.reduceLeDiff, Nat.zero_add, Bool.true_and, Bool.false_and, Bool.and_true, Bool.and_false, Bool.true_or, Bool.false_or, Bool.or_true, Bool.or_false, Bool.and_self, decide_true, decide_false])
theorem x_own {neg : Bool} {a b : List (List Int)} : M.of (gOwn "Bar" CS NF_Bar neg m_Bar___eq__ (barD a) (barD b)) = M.ret (.bl (if neg then !decide (a = b) else decide (a = b))) := of_some fun st => by
  have e := congrFun (e_bar_eq (a := a) (b := b)) st
  have h1 : insV st (barD a) = some (("Bar" : Str), [(("words" : Str), tW a)]) := rfl
  have h2 : clsV st (barD b) = some (.inr "Bar") := rfl
  simp only [gOwn, h1, h2, e]
  rw [if_pos ⟨trivial, by decide, by decide⟩]
  cases neg <;> rfl
theorem x_ownL {a : List (List Int)} {xs : List D} : M.of (gOwn "Bar" CS NF_Bar false m_Bar___eq__ (barD a) (.lst xs)) = M.ret (.bl false) := of_some fun st => by
  have e := congrFun (e_bar_eqL (a := a) (xs := xs)) st
  have h1 : insV st (barD a) = some (("Bar" : Str), [(("words" : Str), tW a)]) := rfl
  have h2 : clsV st (.lst xs) = some (.inl "list") := rfl
  simp only [gOwn, h1, h2, e]
  rw [if_pos ⟨trivial, by decide, by decide⟩]
  rfl
theorem x_eqLW0 (a : List (List Int)) : M.of (gEq (lW a) (.lst [])) = M.ret (.bl (decide (a = []))) := x_eqLW a []
theorem cutW_take {w : List (List Int)} (n : Nat) : Sim.cutD (w.map tI) none (some (n : Int)) = (w.take n).map tI := by rw [cutD_to, List.map_take]
theorem cutW_drop {w : List (List Int)} (n : Nat) : Sim.cutD (w.map tI) (some (n : Int)) none = (w.drop n).map tI := by rw [cutD_from, List.map_drop]
theorem good_turn {ws : List (List Int)} (g : Good ws) : Good (ws.drop 1 ++ ws.take 1) := by
  have hm : ∀ w, w ∈ ws.drop 1 ++ ws.take 1 → w ∈ ws := fun w h => (List.mem_append.mp h).elim List.mem_of_mem_drop List.mem_of_mem_take
  have hp : (ws.drop 1 ++ ws.take 1).Perm ws := List.perm_append_comm.trans (by rw [List.take_append_drop])
  exact ⟨by rw [hp.length_eq]; exact g.few, hp.nodup_iff.mpr g.nd, fun w h => g.ne w (hm w h), fun w h => g.six w (hm w h), fun w h => g.let4 w (hm w h)⟩
theorem sub_len {α : Type} [DecidableEq α] : ∀ {l m : List α}, l.Nodup → (∀ a ∈ l, a ∈ m) → l.length ≤ m.length
  | [], _, _, _ => Nat.zero_le _
  | x :: r, m, h, hs => by
    rw [List.nodup_cons] at h
    have ih := sub_len (m := m.erase x) h.2 fun a ha => (List.mem_erase_of_ne (fun e : a = x => h.1 (by rw [← e]; exact ha))).mpr (hs a (List.mem_cons_of_mem _ ha))
    have hx := hs x List.mem_cons_self
    have hp : 0 < m.length := List.length_pos_of_mem hx
    rw [List.length_erase_of_mem hx] at ih
    rw [List.length_cons]; omega
/-- the one-letter words that are left -/
def others (ws : List (List Int)) : List (List Int) := [[0], [1], [2], [3]].filter fun w => !decide (w ∈ ws)
theorem others_ne {ws : List (List Int)} (h : ws.length ≤ 3) : others ws ≠ [] := by
  intro e
  have hall : ∀ w ∈ [[(0 : Int)], [1], [2], [3]], w ∈ ws := fun w hw => by
    by_cases hq : w ∈ ws
    · exact hq
    · have : w ∈ others ws := List.mem_filter.mpr ⟨hw, by rw [decide_eq_false hq]; rfl⟩
      rw [e] at this; cases this
  have hs : [[(0 : Int)], [1], [2], [3]].Nodup := by decide
  have := sub_len hs hall
  simp at this
  omega
theorem good_other {ws : List (List Int)} (g : Good ws) : Good (ws.drop 1 ++ (others ws).take 1) ∧ ws ≠ ws.drop 1 ++ (others ws).take 1 := by
  cases ho : others ws with
  | nil => exact absurd ho (others_ne g.few.2)
  | cons x r =>
    have hx : x ∈ others ws := by rw [ho]; exact List.mem_cons_self
    obtain ⟨hx1, hx2⟩ := List.mem_filter.mp hx
    have hx3 : x ∉ ws := fun h => by rw [decide_eq_true h] at hx2; cases hx2
    have e : (x :: r).take 1 = [x] := rfl
    rw [e]
    have hd : ∀ w, w ∈ ws.drop 1 ++ [x] → w ∈ ws ∨ w = x := fun w h => (List.mem_append.mp h).elim (fun h => .inl (List.mem_of_mem_drop h)) fun h => .inr (by simpa using h)
    have hxx : x ≠ [] ∧ x.length ≤ 6 ∧ ∀ i ∈ x, 0 ≤ i ∧ i ≤ 3 := by
      simp only [List.mem_cons, List.not_mem_nil, or_false] at hx1
      rcases hx1 with rfl | rfl | rfl | rfl <;> simp
    have few := g.few
    refine ⟨⟨by rw [List.length_append, List.length_drop, List.length_singleton]; omega, ?_, fun w h => ?_, fun w h => ?_, fun w h => ?_⟩, fun e2 => hx3 ?_⟩
    · refine List.nodup_append.mpr ⟨g.nd.sublist (List.drop_sublist _ _), by simp, fun a ha b hb => ?_⟩
      have : b = x := by simpa using hb
      subst this
      exact fun e => hx3 (e ▸ List.mem_of_mem_drop ha)
    · rcases hd w h with h | rfl
      · exact g.ne w h
      · exact hxx.1
    · rcases hd w h with h | rfl
      · exact g.six w h
      · exact hxx.2.1
    · rcases hd w h with h | rfl
      · exact g.let4 w h
      · exact hxx.2.2
    · rw [e2]; simp
theorem e_bar_right {ws : List (List Int)} (g : Good ws) : m__law_bar_right [barD ws, lW ws] = M.ret (.bl true) := fn_eq (by
  have few := g.few
  obtain ⟨go, gn⟩ := good_other g
  have hz2 : (ws.zip ws).length ≤ 16777216 := by rw [List.length_zip]; omega
  unfold d__law_bar_right
  try simp -implicitDefEqProofs only [x_words, x_isTup, e_law_bar g, x_own, x_ownL, Sim.sM_pass, Sim.sM_seq, Sim.sM_asg, Sim.sM_ret, Sim.sM_expr, Sim.sM_if, Sim.sM_par, Sim.sM_asgT, Sim.sM_set, Sim.ret_bind, Sim.bind_assoc, Sim.x_var0, Sim.x_varS, Sim.x_C, Sim.x_op, Sim.x_un, Sim.x_A, Sim.x_nil, Sim.x_cons, Sim.x_call, Sim.x_and, Sim.x_or, Sim.x_not, Sim.x_if, Sim.x_tV, Sim.x_tCmp, Sim.x_tTru, Sim.x_tNot, Sim.x_tAnd, Sim.x_tOr, Sim.x_asB, Sim.x_sl, Sim.x_oNone, Sim.x_oSome, Sim.x_asI, Sim.x_trN, Sim.x_trB, Sim.x_trI, Sim.x_trL, Sim.x_trR, Sim.x_trT, Sim.x_add, Sim.x_sub, Sim.x_neg, Sim.x_lt, Sim.x_le, Sim.x_gt, Sim.x_ge, Sim.x_abs, Sim.x_max2, Sim.x_min2, Sim.x_intI, Sim.x_intB, Sim.x_eqI, Sim.x_neI, Sim.x_eqS, Sim.x_neS, Sim.x_lst, Sim.x_tup, Sim.x_lenL, Sim.x_lenT, Sim.x_lenR, Sim.x_tupleL, Sim.x_listL, Sim.x_listT, Sim.x_slL, Sim.x_slR, Sim.x_slT, Sim.callM, Sim.arrOf, List.filterMap_cons, List.filterMap_nil, List.getElem?_cons_zero, List.getElem?_cons_succ, List.cons_append, List.nil_append, List.append_nil, List.length_cons, List.length_nil, and_self, if_true, List.set_cons_zero, List.set_cons_succ, Bool.false_eq_true, if_false, Nat.reduceAdd, Nat.reduceSub, List.map_cons, List.map_nil, List.replicate_succ, List.replicate_zero, Bool.not_true, Bool.not_false, Sim.x_sized, Nat.reduceLeDiff, Nat.zero_add, Bool.true_and, Bool.false_and, Bool.and_true, Bool.and_false, Bool.true_or, Bool.false_or, Bool.or_true, Bool.or_false, Bool.and_self, decide_true, decide_false]
  rw [all_retB (wk_zip (xs := ws) (ys := ws) (ga := tI) (gb := tI) (v := tW ws) (u := lW ws) (by try simp -implicitDefEqProofs only [x_words, Sim.sM_pass, Sim.sM_seq, Sim.sM_asg, Sim.sM_ret, Sim.sM_expr, Sim.sM_if, Sim.sM_par, Sim.sM_asgT, Sim.sM_set, Sim.ret_bind, Sim.bind_assoc, Sim.x_var0, Sim.x_varS, Sim.x_C, Sim.x_op, Sim.x_un, Sim.x_A, Sim.x_nil, Sim.x_cons, Sim.x_call, Sim.x_and, Sim.x_or, Sim.x_not, Sim.x_if, Sim.x_tV, Sim.x_tCmp, Sim.x_tTru, Sim.x_tNot, Sim.x_tAnd, Sim.x_tOr, Sim.x_asB, Sim.x_sl, Sim.x_oNone, Sim.x_oSome, Sim.x_asI, Sim.x_trN, Sim.x_trB, Sim.x_trI, Sim.x_trL, Sim.x_trR, Sim.x_trT, Sim.x_add, Sim.x_sub, Sim.x_neg, Sim.x_lt, Sim.x_le, Sim.x_gt, Sim.x_ge, Sim.x_abs, Sim.x_max2, Sim.x_min2, Sim.x_intI, Sim.x_intB, Sim.x_eqI, Sim.x_neI, Sim.x_eqS, Sim.x_neS, Sim.x_lst, Sim.x_tup, Sim.x_lenL, Sim.x_lenT, Sim.x_lenR, Sim.x_tupleL, Sim.x_listL, Sim.x_listT, Sim.x_slL, Sim.x_slR, Sim.x_slT, Sim.callM, Sim.arrOf, List.filterMap_cons, List.filterMap_nil, List.getElem?_cons_zero, List.getElem?_cons_succ, List.cons_append, List.nil_append, List.append_nil, List.length_cons, List.length_nil, and_self, if_true, List.set_cons_zero, List.set_cons_succ, Bool.false_eq_true, if_false, Nat.reduceAdd, Nat.reduceSub, List.map_cons, List.map_nil, List.replicate_succ, List.replicate_zero, Bool.not_true, Bool.not_false, Sim.x_sized, Nat.reduceLeDiff, Nat.zero_add, Bool.true_and, Bool.false_and, Bool.and_true, Bool.and_false, Bool.true_or, Bool.false_or, Bool.or_true, Bool.or_false, Bool.and_self, decide_true, decide_false]) rfl rfl) (fun p => true) hz2 fun p hp => ⟨[some (barD ws), some (lW ws), some (tI p.1), some (tI p.2), none, none], by simp only [Tgt.put, Tgt.puts]; rfl, by
      have hp2 : p.1 = p.2 ∧ p.2 ∈ ws := by
        obtain ⟨i, hi⟩ := List.getElem?_of_mem hp
        rw [List.getElem?_zip_eq_some] at hi
        exact ⟨Option.some.inj (hi.1.symm.trans hi.2), List.mem_of_getElem? hi.2⟩
      try simp -implicitDefEqProofs only [Sim.sM_pass, Sim.sM_seq, Sim.sM_asg, Sim.sM_ret, Sim.sM_expr, Sim.sM_if, Sim.sM_par, Sim.sM_asgT, Sim.sM_set, Sim.ret_bind, Sim.bind_assoc, Sim.x_var0, Sim.x_varS, Sim.x_C, Sim.x_op, Sim.x_un, Sim.x_A, Sim.x_nil, Sim.x_cons, Sim.x_call, Sim.x_and, Sim.x_or, Sim.x_not, Sim.x_if, Sim.x_tV, Sim.x_tCmp, Sim.x_tTru, Sim.x_tNot, Sim.x_tAnd, Sim.x_tOr, Sim.x_asB, Sim.x_sl, Sim.x_oNone, Sim.x_oSome, Sim.x_asI, Sim.x_trN, Sim.x_trB, Sim.x_trI, Sim.x_trL, Sim.x_trR, Sim.x_trT, Sim.x_add, Sim.x_sub, Sim.x_neg, Sim.x_lt, Sim.x_le, Sim.x_gt, Sim.x_ge, Sim.x_abs, Sim.x_max2, Sim.x_min2, Sim.x_intI, Sim.x_intB, Sim.x_eqI, Sim.x_neI, Sim.x_eqS, Sim.x_neS, Sim.x_lst, Sim.x_tup, Sim.x_lenL, Sim.x_lenT, Sim.x_lenR, Sim.x_tupleL, Sim.x_listL, Sim.x_listT, Sim.x_slL, Sim.x_slR, Sim.x_slT, Sim.callM, Sim.arrOf, List.filterMap_cons, List.filterMap_nil, List.getElem?_cons_zero, List.getElem?_cons_succ, List.cons_append, List.nil_append, List.append_nil, List.length_cons, List.length_nil, and_self, if_true, List.set_cons_zero, List.set_cons_succ, Bool.false_eq_true, if_false, Nat.reduceAdd, Nat.reduceSub, List.map_cons, List.map_nil, List.replicate_succ, List.replicate_zero, Bool.not_true, Bool.not_false, Sim.x_sized, Nat.reduceLeDiff, Nat.zero_add, Bool.true_and, Bool.false_and, Bool.and_true, Bool.and_false, Bool.true_or, Bool.false_or, Bool.or_true, Bool.or_false, Bool.and_self, decide_true, decide_false]
      rw [hp2.1]
      have := g.six _ hp2.2
      exact e_plain (by omega)⟩]
  have e1 : ((ws.zip ws).all fun _ => true) = true := by simp
  rw [e1]
  try simp -implicitDefEqProofs only [x_words, x_isTup, e_law_bar g, x_own, x_ownL, e_truth, Sim.sM_pass, Sim.sM_seq, Sim.sM_asg, Sim.sM_ret, Sim.sM_expr, Sim.sM_if, Sim.sM_par, Sim.sM_asgT, Sim.sM_set, Sim.ret_bind, Sim.bind_assoc, Sim.x_var0, Sim.x_varS, Sim.x_C, Sim.x_op, Sim.x_un, Sim.x_A, Sim.x_nil, Sim.x_cons, Sim.x_call, Sim.x_and, Sim.x_or, Sim.x_not, Sim.x_if, Sim.x_tV, Sim.x_tCmp, Sim.x_tTru, Sim.x_tNot, Sim.x_tAnd, Sim.x_tOr, Sim.x_asB, Sim.x_sl, Sim.x_oNone, Sim.x_oSome, Sim.x_asI, Sim.x_trN, Sim.x_trB, Sim.x_trI, Sim.x_trL, Sim.x_trR, Sim.x_trT, Sim.x_add, Sim.x_sub, Sim.x_neg, Sim.x_lt, Sim.x_le, Sim.x_gt, Sim.x_ge, Sim.x_abs, Sim.x_max2, Sim.x_min2, Sim.x_intI, Sim.x_intB, Sim.x_eqI, Sim.x_neI, Sim.x_eqS, Sim.x_neS, Sim.x_lst, Sim.x_tup, Sim.x_lenL, Sim.x_lenT, Sim.x_lenR, Sim.x_tupleL, Sim.x_listL, Sim.x_listT, Sim.x_slL, Sim.x_slR, Sim.x_slT, Sim.callM, Sim.arrOf, List.filterMap_cons, List.filterMap_nil, List.getElem?_cons_zero, List.getElem?_cons_succ, List.cons_append, List.nil_append, List.append_nil, List.length_cons, List.length_nil, and_self, if_true, List.set_cons_zero, List.set_cons_succ, Bool.false_eq_true, if_false, Nat.reduceAdd, Nat.reduceSub, List.map_cons, List.map_nil, List.replicate_succ, List.replicate_zero, Bool.not_true, Bool.not_false, Sim.x_sized, Nat.reduceLeDiff, Nat.zero_add, Bool.true_and, Bool.false_and, Bool.and_true, Bool.and_false, Bool.true_or, Bool.false_or, Bool.or_true, Bool.or_false, Bool.and_self, decide_true, decide_false]
  have c1 : Sim.cutD (ws.map tI) (some 1) none = (ws.drop 1).map tI := cutW_drop 1
  have c2 : Sim.cutD (ws.map tI) none (some 1) = (ws.take 1).map tI := cutW_take 1
  rw [c1, c2, x_addL (by simp; omega), ← List.map_append]
  have gt := good_turn g
  try simp -implicitDefEqProofs only [x_words, x_isTup, e_law_bar g, e_law_bar gt, x_eqLW, x_own, x_ownL, e_truth, Sim.sM_pass, Sim.sM_seq, Sim.sM_asg, Sim.sM_ret, Sim.sM_expr, Sim.sM_if, Sim.sM_par, Sim.sM_asgT, Sim.sM_set, Sim.ret_bind, Sim.bind_assoc, Sim.x_var0, Sim.x_varS, Sim.x_C, Sim.x_op, Sim.x_un, Sim.x_A, Sim.x_nil, Sim.x_cons, Sim.x_call, Sim.x_and, Sim.x_or, Sim.x_not, Sim.x_if, Sim.x_tV, Sim.x_tCmp, Sim.x_tTru, Sim.x_tNot, Sim.x_tAnd, Sim.x_tOr, Sim.x_asB, Sim.x_sl, Sim.x_oNone, Sim.x_oSome, Sim.x_asI, Sim.x_trN, Sim.x_trB, Sim.x_trI, Sim.x_trL, Sim.x_trR, Sim.x_trT, Sim.x_add, Sim.x_sub, Sim.x_neg, Sim.x_lt, Sim.x_le, Sim.x_gt, Sim.x_ge, Sim.x_abs, Sim.x_max2, Sim.x_min2, Sim.x_intI, Sim.x_intB, Sim.x_eqI, Sim.x_neI, Sim.x_eqS, Sim.x_neS, Sim.x_lst, Sim.x_tup, Sim.x_lenL, Sim.x_lenT, Sim.x_lenR, Sim.x_tupleL, Sim.x_listL, Sim.x_listT, Sim.x_slL, Sim.x_slR, Sim.x_slT, Sim.callM, Sim.arrOf, List.filterMap_cons, List.filterMap_nil, List.getElem?_cons_zero, List.getElem?_cons_succ, List.cons_append, List.nil_append, List.append_nil, List.length_cons, List.length_nil, and_self, if_true, List.set_cons_zero, List.set_cons_succ, Bool.false_eq_true, if_false, Nat.reduceAdd, Nat.reduceSub, List.map_cons, List.map_nil, List.replicate_succ, List.replicate_zero, Bool.not_true, Bool.not_false, Sim.x_sized, Nat.reduceLeDiff, Nat.zero_add, Bool.true_and, Bool.false_and, Bool.and_true, Bool.and_false, Bool.true_or, Bool.false_or, Bool.or_true, Bool.or_false, Bool.and_self, decide_true, decide_false]
  have e2 : decide (ws = ws.drop 1 ++ ws.take 1) = decide (ws.drop 1 ++ ws.take 1 = ws) := decide_eq_decide.mpr ⟨fun h => h.symm, fun h => h.symm⟩
  try simp -implicitDefEqProofs only [e2, x_words, x_isTup, e_law_bar g, e_law_bar gt, x_eqLW, x_own, x_ownL, e_truth, Sim.sM_pass, Sim.sM_seq, Sim.sM_asg, Sim.sM_ret, Sim.sM_expr, Sim.sM_if, Sim.sM_par, Sim.sM_asgT, Sim.sM_set, Sim.ret_bind, Sim.bind_assoc, Sim.x_var0, Sim.x_varS, Sim.x_C, Sim.x_op, Sim.x_un, Sim.x_A, Sim.x_nil, Sim.x_cons, Sim.x_call, Sim.x_and, Sim.x_or, Sim.x_not, Sim.x_if, Sim.x_tV, Sim.x_tCmp, Sim.x_tTru, Sim.x_tNot, Sim.x_tAnd, Sim.x_tOr, Sim.x_asB, Sim.x_sl, Sim.x_oNone, Sim.x_oSome, Sim.x_asI, Sim.x_trN, Sim.x_trB, Sim.x_trI, Sim.x_trL, Sim.x_trR, Sim.x_trT, Sim.x_add, Sim.x_sub, Sim.x_neg, Sim.x_lt, Sim.x_le, Sim.x_gt, Sim.x_ge, Sim.x_abs, Sim.x_max2, Sim.x_min2, Sim.x_intI, Sim.x_intB, Sim.x_eqI, Sim.x_neI, Sim.x_eqS, Sim.x_neS, Sim.x_lst, Sim.x_tup, Sim.x_lenL, Sim.x_lenT, Sim.x_lenR, Sim.x_tupleL, Sim.x_listL, Sim.x_listT, Sim.x_slL, Sim.x_slR, Sim.x_slT, Sim.callM, Sim.arrOf, List.filterMap_cons, List.filterMap_nil, List.getElem?_cons_zero, List.getElem?_cons_succ, List.cons_append, List.nil_append, List.append_nil, List.length_cons, List.length_nil, and_self, if_true, List.set_cons_zero, List.set_cons_succ, Bool.false_eq_true, if_false, Nat.reduceAdd, Nat.reduceSub, List.map_cons, List.map_nil, List.replicate_succ, List.replicate_zero, Bool.not_true, Bool.not_false, Sim.x_sized, Nat.reduceLeDiff, Nat.zero_add, Bool.true_and, Bool.false_and, Bool.and_true, Bool.and_false, Bool.true_or, Bool.false_or, Bool.or_true, Bool.or_false, Bool.and_self, decide_true, decide_false]
  have hc : eComp (iSeq (eA gLst (aCons (eA gTup (aCons (eC (.int 0)) aNil)) (aCons (eA gTup (aCons (eC (.int 1)) aNil)) (aCons (eA gTup (aCons (eC (.int 2)) aNil)) (aCons (eA gTup (aCons (eC (.int 3)) aNil)) aNil)))))) (.nm 3) (Sim.tCmp (gIn true) (eVar 3) (eVar 1)) (eVar 3) [3]
      [some (barD ws), some (lW ws), none, none, some (lW (ws.drop 1 ++ ws.take 1)), none] = M.ret (lW (others ws)) :=
    comp_retF (g := tI) (xs := [[0], [1], [2], [3]]) (wk_seq (v := lW [[0], [1], [2], [3]]) (by try simp -implicitDefEqProofs only [Sim.sM_pass, Sim.sM_seq, Sim.sM_asg, Sim.sM_ret, Sim.sM_expr, Sim.sM_if, Sim.sM_par, Sim.sM_asgT, Sim.sM_set, Sim.ret_bind, Sim.bind_assoc, Sim.x_var0, Sim.x_varS, Sim.x_C, Sim.x_op, Sim.x_un, Sim.x_A, Sim.x_nil, Sim.x_cons, Sim.x_call, Sim.x_and, Sim.x_or, Sim.x_not, Sim.x_if, Sim.x_tV, Sim.x_tCmp, Sim.x_tTru, Sim.x_tNot, Sim.x_tAnd, Sim.x_tOr, Sim.x_asB, Sim.x_sl, Sim.x_oNone, Sim.x_oSome, Sim.x_asI, Sim.x_trN, Sim.x_trB, Sim.x_trI, Sim.x_trL, Sim.x_trR, Sim.x_trT, Sim.x_add, Sim.x_sub, Sim.x_neg, Sim.x_lt, Sim.x_le, Sim.x_gt, Sim.x_ge, Sim.x_abs, Sim.x_max2, Sim.x_min2, Sim.x_intI, Sim.x_intB, Sim.x_eqI, Sim.x_neI, Sim.x_eqS, Sim.x_neS, Sim.x_lst, Sim.x_tup, Sim.x_lenL, Sim.x_lenT, Sim.x_lenR, Sim.x_tupleL, Sim.x_listL, Sim.x_listT, Sim.x_slL, Sim.x_slR, Sim.x_slT, Sim.callM, Sim.arrOf, List.filterMap_cons, List.filterMap_nil, List.getElem?_cons_zero, List.getElem?_cons_succ, List.cons_append, List.nil_append, List.append_nil, List.length_cons, List.length_nil, and_self, if_true, List.set_cons_zero, List.set_cons_succ, Bool.false_eq_true, if_false, Nat.reduceAdd, Nat.reduceSub, List.map_cons, List.map_nil, List.replicate_succ, List.replicate_zero, Bool.not_true, Bool.not_false, Sim.x_sized, Nat.reduceLeDiff, Nat.zero_add, Bool.true_and, Bool.false_and, Bool.and_true, Bool.and_false, Bool.true_or, Bool.false_or, Bool.or_true, Bool.or_false, Bool.and_self, decide_true, decide_false]; rfl) rfl) (fun w => !decide (w ∈ ws)) tI (by decide) fun w hw => ⟨[some (barD ws), some (lW ws), none, some (tI w), some (lW (ws.drop 1 ++ ws.take 1)), none], rfl, by
      try simp -implicitDefEqProofs only [Sim.sM_pass, Sim.sM_seq, Sim.sM_asg, Sim.sM_ret, Sim.sM_expr, Sim.sM_if, Sim.sM_par, Sim.sM_asgT, Sim.sM_set, Sim.ret_bind, Sim.bind_assoc, Sim.x_var0, Sim.x_varS, Sim.x_C, Sim.x_op, Sim.x_un, Sim.x_A, Sim.x_nil, Sim.x_cons, Sim.x_call, Sim.x_and, Sim.x_or, Sim.x_not, Sim.x_if, Sim.x_tV, Sim.x_tCmp, Sim.x_tTru, Sim.x_tNot, Sim.x_tAnd, Sim.x_tOr, Sim.x_asB, Sim.x_sl, Sim.x_oNone, Sim.x_oSome, Sim.x_asI, Sim.x_trN, Sim.x_trB, Sim.x_trI, Sim.x_trL, Sim.x_trR, Sim.x_trT, Sim.x_add, Sim.x_sub, Sim.x_neg, Sim.x_lt, Sim.x_le, Sim.x_gt, Sim.x_ge, Sim.x_abs, Sim.x_max2, Sim.x_min2, Sim.x_intI, Sim.x_intB, Sim.x_eqI, Sim.x_neI, Sim.x_eqS, Sim.x_neS, Sim.x_lst, Sim.x_tup, Sim.x_lenL, Sim.x_lenT, Sim.x_lenR, Sim.x_tupleL, Sim.x_listL, Sim.x_listT, Sim.x_slL, Sim.x_slR, Sim.x_slT, Sim.callM, Sim.arrOf, List.filterMap_cons, List.filterMap_nil, List.getElem?_cons_zero, List.getElem?_cons_succ, List.cons_append, List.nil_append, List.append_nil, List.length_cons, List.length_nil, and_self, if_true, List.set_cons_zero, List.set_cons_succ, Bool.false_eq_true, if_false, Nat.reduceAdd, Nat.reduceSub, List.map_cons, List.map_nil, List.replicate_succ, List.replicate_zero, Bool.not_true, Bool.not_false, Sim.x_sized, Nat.reduceLeDiff, Nat.zero_add, Bool.true_and, Bool.false_and, Bool.and_true, Bool.and_false, Bool.true_or, Bool.false_or, Bool.or_true, Bool.or_false, Bool.and_self, decide_true, decide_false]
      rw [x_inLW]
      try simp -implicitDefEqProofs only [Sim.sM_pass, Sim.sM_seq, Sim.sM_asg, Sim.sM_ret, Sim.sM_expr, Sim.sM_if, Sim.sM_par, Sim.sM_asgT, Sim.sM_set, Sim.ret_bind, Sim.bind_assoc, Sim.x_var0, Sim.x_varS, Sim.x_C, Sim.x_op, Sim.x_un, Sim.x_A, Sim.x_nil, Sim.x_cons, Sim.x_call, Sim.x_and, Sim.x_or, Sim.x_not, Sim.x_if, Sim.x_tV, Sim.x_tCmp, Sim.x_tTru, Sim.x_tNot, Sim.x_tAnd, Sim.x_tOr, Sim.x_asB, Sim.x_sl, Sim.x_oNone, Sim.x_oSome, Sim.x_asI, Sim.x_trN, Sim.x_trB, Sim.x_trI, Sim.x_trL, Sim.x_trR, Sim.x_trT, Sim.x_add, Sim.x_sub, Sim.x_neg, Sim.x_lt, Sim.x_le, Sim.x_gt, Sim.x_ge, Sim.x_abs, Sim.x_max2, Sim.x_min2, Sim.x_intI, Sim.x_intB, Sim.x_eqI, Sim.x_neI, Sim.x_eqS, Sim.x_neS, Sim.x_lst, Sim.x_tup, Sim.x_lenL, Sim.x_lenT, Sim.x_lenR, Sim.x_tupleL, Sim.x_listL, Sim.x_listT, Sim.x_slL, Sim.x_slR, Sim.x_slT, Sim.callM, Sim.arrOf, List.filterMap_cons, List.filterMap_nil, List.getElem?_cons_zero, List.getElem?_cons_succ, List.cons_append, List.nil_append, List.append_nil, List.length_cons, List.length_nil, and_self, if_true, List.set_cons_zero, List.set_cons_succ, Bool.false_eq_true, if_false, Nat.reduceAdd, Nat.reduceSub, List.map_cons, List.map_nil, List.replicate_succ, List.replicate_zero, Bool.not_true, Bool.not_false, Sim.x_sized, Nat.reduceLeDiff, Nat.zero_add, Bool.true_and, Bool.false_and, Bool.and_true, Bool.and_false, Bool.true_or, Bool.false_or, Bool.or_true, Bool.or_false, Bool.and_self, decide_true, decide_false], fun _ => ⟨by try simp -implicitDefEqProofs only [Sim.sM_pass, Sim.sM_seq, Sim.sM_asg, Sim.sM_ret, Sim.sM_expr, Sim.sM_if, Sim.sM_par, Sim.sM_asgT, Sim.sM_set, Sim.ret_bind, Sim.bind_assoc, Sim.x_var0, Sim.x_varS, Sim.x_C, Sim.x_op, Sim.x_un, Sim.x_A, Sim.x_nil, Sim.x_cons, Sim.x_call, Sim.x_and, Sim.x_or, Sim.x_not, Sim.x_if, Sim.x_tV, Sim.x_tCmp, Sim.x_tTru, Sim.x_tNot, Sim.x_tAnd, Sim.x_tOr, Sim.x_asB, Sim.x_sl, Sim.x_oNone, Sim.x_oSome, Sim.x_asI, Sim.x_trN, Sim.x_trB, Sim.x_trI, Sim.x_trL, Sim.x_trR, Sim.x_trT, Sim.x_add, Sim.x_sub, Sim.x_neg, Sim.x_lt, Sim.x_le, Sim.x_gt, Sim.x_ge, Sim.x_abs, Sim.x_max2, Sim.x_min2, Sim.x_intI, Sim.x_intB, Sim.x_eqI, Sim.x_neI, Sim.x_eqS, Sim.x_neS, Sim.x_lst, Sim.x_tup, Sim.x_lenL, Sim.x_lenT, Sim.x_lenR, Sim.x_tupleL, Sim.x_listL, Sim.x_listT, Sim.x_slL, Sim.x_slR, Sim.x_slT, Sim.callM, Sim.arrOf, List.filterMap_cons, List.filterMap_nil, List.getElem?_cons_zero, List.getElem?_cons_succ, List.cons_append, List.nil_append, List.append_nil, List.length_cons, List.length_nil, and_self, if_true, List.set_cons_zero, List.set_cons_succ, Bool.false_eq_true, if_false, Nat.reduceAdd, Nat.reduceSub, List.map_cons, List.map_nil, List.replicate_succ, List.replicate_zero, Bool.not_true, Bool.not_false, Sim.x_sized, Nat.reduceLeDiff, Nat.zero_add, Bool.true_and, Bool.false_and, Bool.and_true, Bool.and_false, Bool.true_or, Bool.false_or, Bool.or_true, Bool.or_false, Bool.and_self, decide_true, decide_false], low_tI w⟩⟩
  rw [hc]
  try simp -implicitDefEqProofs only [Sim.sM_pass, Sim.sM_seq, Sim.sM_asg, Sim.sM_ret, Sim.sM_expr, Sim.sM_if, Sim.sM_par, Sim.sM_asgT, Sim.sM_set, Sim.ret_bind, Sim.bind_assoc, Sim.x_var0, Sim.x_varS, Sim.x_C, Sim.x_op, Sim.x_un, Sim.x_A, Sim.x_nil, Sim.x_cons, Sim.x_call, Sim.x_and, Sim.x_or, Sim.x_not, Sim.x_if, Sim.x_tV, Sim.x_tCmp, Sim.x_tTru, Sim.x_tNot, Sim.x_tAnd, Sim.x_tOr, Sim.x_asB, Sim.x_sl, Sim.x_oNone, Sim.x_oSome, Sim.x_asI, Sim.x_trN, Sim.x_trB, Sim.x_trI, Sim.x_trL, Sim.x_trR, Sim.x_trT, Sim.x_add, Sim.x_sub, Sim.x_neg, Sim.x_lt, Sim.x_le, Sim.x_gt, Sim.x_ge, Sim.x_abs, Sim.x_max2, Sim.x_min2, Sim.x_intI, Sim.x_intB, Sim.x_eqI, Sim.x_neI, Sim.x_eqS, Sim.x_neS, Sim.x_lst, Sim.x_tup, Sim.x_lenL, Sim.x_lenT, Sim.x_lenR, Sim.x_tupleL, Sim.x_listL, Sim.x_listT, Sim.x_slL, Sim.x_slR, Sim.x_slT, Sim.callM, Sim.arrOf, List.filterMap_cons, List.filterMap_nil, List.getElem?_cons_zero, List.getElem?_cons_succ, List.cons_append, List.nil_append, List.append_nil, List.length_cons, List.length_nil, and_self, if_true, List.set_cons_zero, List.set_cons_succ, Bool.false_eq_true, if_false, Nat.reduceAdd, Nat.reduceSub, List.map_cons, List.map_nil, List.replicate_succ, List.replicate_zero, Bool.not_true, Bool.not_false, Sim.x_sized, Nat.reduceLeDiff, Nat.zero_add, Bool.true_and, Bool.false_and, Bool.and_true, Bool.and_false, Bool.true_or, Bool.false_or, Bool.or_true, Bool.or_false, Bool.and_self, decide_true, decide_false]
  have c3 : Sim.cutD ((others ws).map tI) none (some 1) = ((others ws).take 1).map tI := cutW_take 1
  have ho : (others ws).length ≤ 4 := List.length_filter_le _ _
  rw [c1, c3, x_addL (by simp; omega), ← List.map_append]
  try simp -implicitDefEqProofs only [e_law_bar go, x_own, decide_eq_false gn, e_truth, Sim.sM_pass, Sim.sM_seq, Sim.sM_asg, Sim.sM_ret, Sim.sM_expr, Sim.sM_if, Sim.sM_par, Sim.sM_asgT, Sim.sM_set, Sim.ret_bind, Sim.bind_assoc, Sim.x_var0, Sim.x_varS, Sim.x_C, Sim.x_op, Sim.x_un, Sim.x_A, Sim.x_nil, Sim.x_cons, Sim.x_call, Sim.x_and, Sim.x_or, Sim.x_not, Sim.x_if, Sim.x_tV, Sim.x_tCmp, Sim.x_tTru, Sim.x_tNot, Sim.x_tAnd, Sim.x_tOr, Sim.x_asB, Sim.x_sl, Sim.x_oNone, Sim.x_oSome, Sim.x_asI, Sim.x_trN, Sim.x_trB, Sim.x_trI, Sim.x_trL, Sim.x_trR, Sim.x_trT, Sim.x_add, Sim.x_sub, Sim.x_neg, Sim.x_lt, Sim.x_le, Sim.x_gt, Sim.x_ge, Sim.x_abs, Sim.x_max2, Sim.x_min2, Sim.x_intI, Sim.x_intB, Sim.x_eqI, Sim.x_neI, Sim.x_eqS, Sim.x_neS, Sim.x_lst, Sim.x_tup, Sim.x_lenL, Sim.x_lenT, Sim.x_lenR, Sim.x_tupleL, Sim.x_listL, Sim.x_listT, Sim.x_slL, Sim.x_slR, Sim.x_slT, Sim.callM, Sim.arrOf, List.filterMap_cons, List.filterMap_nil, List.getElem?_cons_zero, List.getElem?_cons_succ, List.cons_append, List.nil_append, List.append_nil, List.length_cons, List.length_nil, and_self, if_true, List.set_cons_zero, List.set_cons_succ, Bool.false_eq_true, if_false, Nat.reduceAdd, Nat.reduceSub, List.map_cons, List.map_nil, List.replicate_succ, List.replicate_zero, Bool.not_true, Bool.not_false, Sim.x_sized, Nat.reduceLeDiff, Nat.zero_add, Bool.true_and, Bool.false_and, Bool.and_true, Bool.and_false, Bool.true_or, Bool.false_or, Bool.or_true, Bool.or_false, Bool.and_self, decide_true, decide_false])
/-! draws -/
section
variable {cells : List Int} {k : Nat}
theorem r_next {ws : List (List Int)} {how : List Int} {letters : Int} (g : Good ws) (hl : 1 ≤ letters ∧ letters ≤ 4) : Rn cells k (m__law_next [.cl k, lW ws, tI how, .int letters]) 2 fun v => ∃ l, v = .int l ∧ 0 ≤ l ∧ l ≤ 3 := by
  have few := g.few
  refine Rn.fn ?_
  unfold d__law_next
  try simp -implicitDefEqProofs only [Sim.sM_pass, Sim.sM_seq, Sim.sM_asg, Sim.sM_ret, Sim.sM_expr, Sim.sM_if, Sim.sM_par, Sim.sM_asgT, Sim.sM_set, Sim.ret_bind, Sim.bind_assoc, Sim.x_var0, Sim.x_varS, Sim.x_C, Sim.x_op, Sim.x_un, Sim.x_A, Sim.x_nil, Sim.x_cons, Sim.x_call, Sim.x_and, Sim.x_or, Sim.x_not, Sim.x_if, Sim.x_tV, Sim.x_tCmp, Sim.x_tTru, Sim.x_tNot, Sim.x_tAnd, Sim.x_tOr, Sim.x_asB, Sim.x_sl, Sim.x_oNone, Sim.x_oSome, Sim.x_asI, Sim.x_trN, Sim.x_trB, Sim.x_trI, Sim.x_trL, Sim.x_trR, Sim.x_trT, Sim.x_add, Sim.x_sub, Sim.x_neg, Sim.x_lt, Sim.x_le, Sim.x_gt, Sim.x_ge, Sim.x_abs, Sim.x_max2, Sim.x_min2, Sim.x_intI, Sim.x_intB, Sim.x_eqI, Sim.x_neI, Sim.x_eqS, Sim.x_neS, Sim.x_lst, Sim.x_tup, Sim.x_lenL, Sim.x_lenT, Sim.x_lenR, Sim.x_tupleL, Sim.x_listL, Sim.x_listT, Sim.x_slL, Sim.x_slR, Sim.x_slT, Sim.callM, Sim.arrOf, List.filterMap_cons, List.filterMap_nil, List.getElem?_cons_zero, List.getElem?_cons_succ, List.cons_append, List.nil_append, List.append_nil, List.length_cons, List.length_nil, and_self, if_true, List.set_cons_zero, List.set_cons_succ, Bool.false_eq_true, if_false, Nat.reduceAdd, Nat.reduceSub, List.map_cons, List.map_nil, List.replicate_succ, List.replicate_zero, Bool.not_true, Bool.not_false, Sim.x_sized, Nat.reduceLeDiff, Nat.zero_add, Bool.true_and, Bool.false_and, Bool.and_true, Bool.and_false, Bool.true_or, Bool.false_or, Bool.or_true, Bool.or_false, Bool.and_self, decide_true, decide_false]
  have hc : eComp (iSeq (eVar 1)) (.nm 5) (Sim.tAnd (Sim.tCmp gEq (eSl (eVar 5) oNone (oSome (eA gLen (aCons (eVar 2) aNil)))) (eVar 2)) (Sim.tCmp gGt (eA gLen (aCons (eVar 5) aNil)) (eA gLen (aCons (eVar 2) aNil)))) (eVar 5) [5]
      [some (.cl k), some (lW ws), some (tI how), some (.int letters), none, none] = M.ret (lW (ws.filter fun w => decide (w.take how.length = how) && decide ((how.length : Int) < (w.length : Int)))) :=
    comp_retF (g := tI) (xs := ws) (wk_seq (v := lW ws) (by try simp -implicitDefEqProofs only [Sim.sM_pass, Sim.sM_seq, Sim.sM_asg, Sim.sM_ret, Sim.sM_expr, Sim.sM_if, Sim.sM_par, Sim.sM_asgT, Sim.sM_set, Sim.ret_bind, Sim.bind_assoc, Sim.x_var0, Sim.x_varS, Sim.x_C, Sim.x_op, Sim.x_un, Sim.x_A, Sim.x_nil, Sim.x_cons, Sim.x_call, Sim.x_and, Sim.x_or, Sim.x_not, Sim.x_if, Sim.x_tV, Sim.x_tCmp, Sim.x_tTru, Sim.x_tNot, Sim.x_tAnd, Sim.x_tOr, Sim.x_asB, Sim.x_sl, Sim.x_oNone, Sim.x_oSome, Sim.x_asI, Sim.x_trN, Sim.x_trB, Sim.x_trI, Sim.x_trL, Sim.x_trR, Sim.x_trT, Sim.x_add, Sim.x_sub, Sim.x_neg, Sim.x_lt, Sim.x_le, Sim.x_gt, Sim.x_ge, Sim.x_abs, Sim.x_max2, Sim.x_min2, Sim.x_intI, Sim.x_intB, Sim.x_eqI, Sim.x_neI, Sim.x_eqS, Sim.x_neS, Sim.x_lst, Sim.x_tup, Sim.x_lenL, Sim.x_lenT, Sim.x_lenR, Sim.x_tupleL, Sim.x_listL, Sim.x_listT, Sim.x_slL, Sim.x_slR, Sim.x_slT, Sim.callM, Sim.arrOf, List.filterMap_cons, List.filterMap_nil, List.getElem?_cons_zero, List.getElem?_cons_succ, List.cons_append, List.nil_append, List.append_nil, List.length_cons, List.length_nil, and_self, if_true, List.set_cons_zero, List.set_cons_succ, Bool.false_eq_true, if_false, Nat.reduceAdd, Nat.reduceSub, List.map_cons, List.map_nil, List.replicate_succ, List.replicate_zero, Bool.not_true, Bool.not_false, Sim.x_sized, Nat.reduceLeDiff, Nat.zero_add, Bool.true_and, Bool.false_and, Bool.and_true, Bool.and_false, Bool.true_or, Bool.false_or, Bool.or_true, Bool.or_false, Bool.and_self, decide_true, decide_false]) rfl) (fun w => decide (w.take how.length = how) && decide ((how.length : Int) < (w.length : Int))) tI (by omega) fun w hw => ⟨[some (.cl k), some (lW ws), some (tI how), some (.int letters), none, some (tI w)], rfl, by
      try simp -implicitDefEqProofs only [Sim.sM_pass, Sim.sM_seq, Sim.sM_asg, Sim.sM_ret, Sim.sM_expr, Sim.sM_if, Sim.sM_par, Sim.sM_asgT, Sim.sM_set, Sim.ret_bind, Sim.bind_assoc, Sim.x_var0, Sim.x_varS, Sim.x_C, Sim.x_op, Sim.x_un, Sim.x_A, Sim.x_nil, Sim.x_cons, Sim.x_call, Sim.x_and, Sim.x_or, Sim.x_not, Sim.x_if, Sim.x_tV, Sim.x_tCmp, Sim.x_tTru, Sim.x_tNot, Sim.x_tAnd, Sim.x_tOr, Sim.x_asB, Sim.x_sl, Sim.x_oNone, Sim.x_oSome, Sim.x_asI, Sim.x_trN, Sim.x_trB, Sim.x_trI, Sim.x_trL, Sim.x_trR, Sim.x_trT, Sim.x_add, Sim.x_sub, Sim.x_neg, Sim.x_lt, Sim.x_le, Sim.x_gt, Sim.x_ge, Sim.x_abs, Sim.x_max2, Sim.x_min2, Sim.x_intI, Sim.x_intB, Sim.x_eqI, Sim.x_neI, Sim.x_eqS, Sim.x_neS, Sim.x_lst, Sim.x_tup, Sim.x_lenL, Sim.x_lenT, Sim.x_lenR, Sim.x_tupleL, Sim.x_listL, Sim.x_listT, Sim.x_slL, Sim.x_slR, Sim.x_slT, Sim.callM, Sim.arrOf, List.filterMap_cons, List.filterMap_nil, List.getElem?_cons_zero, List.getElem?_cons_succ, List.cons_append, List.nil_append, List.append_nil, List.length_cons, List.length_nil, and_self, if_true, List.set_cons_zero, List.set_cons_succ, Bool.false_eq_true, if_false, Nat.reduceAdd, Nat.reduceSub, List.map_cons, List.map_nil, List.replicate_succ, List.replicate_zero, Bool.not_true, Bool.not_false, Sim.x_sized, Nat.reduceLeDiff, Nat.zero_add, Bool.true_and, Bool.false_and, Bool.and_true, Bool.and_false, Bool.true_or, Bool.false_or, Bool.or_true, Bool.or_false, Bool.and_self, decide_true, decide_false]
      rw [List.length_map, cut_take, x_eqTI]
      try simp -implicitDefEqProofs only [Sim.sM_pass, Sim.sM_seq, Sim.sM_asg, Sim.sM_ret, Sim.sM_expr, Sim.sM_if, Sim.sM_par, Sim.sM_asgT, Sim.sM_set, Sim.ret_bind, Sim.bind_assoc, Sim.x_var0, Sim.x_varS, Sim.x_C, Sim.x_op, Sim.x_un, Sim.x_A, Sim.x_nil, Sim.x_cons, Sim.x_call, Sim.x_and, Sim.x_or, Sim.x_not, Sim.x_if, Sim.x_tV, Sim.x_tCmp, Sim.x_tTru, Sim.x_tNot, Sim.x_tAnd, Sim.x_tOr, Sim.x_asB, Sim.x_sl, Sim.x_oNone, Sim.x_oSome, Sim.x_asI, Sim.x_trN, Sim.x_trB, Sim.x_trI, Sim.x_trL, Sim.x_trR, Sim.x_trT, Sim.x_add, Sim.x_sub, Sim.x_neg, Sim.x_lt, Sim.x_le, Sim.x_gt, Sim.x_ge, Sim.x_abs, Sim.x_max2, Sim.x_min2, Sim.x_intI, Sim.x_intB, Sim.x_eqI, Sim.x_neI, Sim.x_eqS, Sim.x_neS, Sim.x_lst, Sim.x_tup, Sim.x_lenL, Sim.x_lenT, Sim.x_lenR, Sim.x_tupleL, Sim.x_listL, Sim.x_listT, Sim.x_slL, Sim.x_slR, Sim.x_slT, Sim.callM, Sim.arrOf, List.filterMap_cons, List.filterMap_nil, List.getElem?_cons_zero, List.getElem?_cons_succ, List.cons_append, List.nil_append, List.append_nil, List.length_cons, List.length_nil, and_self, if_true, List.set_cons_zero, List.set_cons_succ, Bool.false_eq_true, if_false, Nat.reduceAdd, Nat.reduceSub, List.map_cons, List.map_nil, List.replicate_succ, List.replicate_zero, Bool.not_true, Bool.not_false, Sim.x_sized, Nat.reduceLeDiff, Nat.zero_add, Bool.true_and, Bool.false_and, Bool.and_true, Bool.and_false, Bool.true_or, Bool.false_or, Bool.or_true, Bool.or_false, Bool.and_self, decide_true, decide_false]
      rw [List.length_map]
      cases decide (w.take how.length = how) <;> rfl, fun _ => ⟨by try simp -implicitDefEqProofs only [Sim.sM_pass, Sim.sM_seq, Sim.sM_asg, Sim.sM_ret, Sim.sM_expr, Sim.sM_if, Sim.sM_par, Sim.sM_asgT, Sim.sM_set, Sim.ret_bind, Sim.bind_assoc, Sim.x_var0, Sim.x_varS, Sim.x_C, Sim.x_op, Sim.x_un, Sim.x_A, Sim.x_nil, Sim.x_cons, Sim.x_call, Sim.x_and, Sim.x_or, Sim.x_not, Sim.x_if, Sim.x_tV, Sim.x_tCmp, Sim.x_tTru, Sim.x_tNot, Sim.x_tAnd, Sim.x_tOr, Sim.x_asB, Sim.x_sl, Sim.x_oNone, Sim.x_oSome, Sim.x_asI, Sim.x_trN, Sim.x_trB, Sim.x_trI, Sim.x_trL, Sim.x_trR, Sim.x_trT, Sim.x_add, Sim.x_sub, Sim.x_neg, Sim.x_lt, Sim.x_le, Sim.x_gt, Sim.x_ge, Sim.x_abs, Sim.x_max2, Sim.x_min2, Sim.x_intI, Sim.x_intB, Sim.x_eqI, Sim.x_neI, Sim.x_eqS, Sim.x_neS, Sim.x_lst, Sim.x_tup, Sim.x_lenL, Sim.x_lenT, Sim.x_lenR, Sim.x_tupleL, Sim.x_listL, Sim.x_listT, Sim.x_slL, Sim.x_slR, Sim.x_slT, Sim.callM, Sim.arrOf, List.filterMap_cons, List.filterMap_nil, List.getElem?_cons_zero, List.getElem?_cons_succ, List.cons_append, List.nil_append, List.append_nil, List.length_cons, List.length_nil, and_self, if_true, List.set_cons_zero, List.set_cons_succ, Bool.false_eq_true, if_false, Nat.reduceAdd, Nat.reduceSub, List.map_cons, List.map_nil, List.replicate_succ, List.replicate_zero, Bool.not_true, Bool.not_false, Sim.x_sized, Nat.reduceLeDiff, Nat.zero_add, Bool.true_and, Bool.false_and, Bool.and_true, Bool.and_false, Bool.true_or, Bool.false_or, Bool.or_true, Bool.or_false, Bool.and_self, decide_true, decide_false], low_tI w⟩⟩
  rw [hc]
  generalize hs : (ws.filter fun w => decide (w.take how.length = how) && decide ((how.length : Int) < (w.length : Int))) = some_
  have hmem : ∀ w ∈ some_, w ∈ ws ∧ how.length < w.length := fun w hw => by
    rw [← hs] at hw
    obtain ⟨a, b⟩ := List.mem_filter.mp hw
    rw [Bool.and_eq_true, decide_eq_true_eq, decide_eq_true_eq] at b
    exact ⟨a, by omega⟩
  have hlen : some_.length ≤ 3 := by rw [← hs]; exact Nat.le_trans (List.length_filter_le _ _) few.2
  try simp -implicitDefEqProofs only [Sim.sM_pass, Sim.sM_seq, Sim.sM_asg, Sim.sM_ret, Sim.sM_expr, Sim.sM_if, Sim.sM_par, Sim.sM_asgT, Sim.sM_set, Sim.ret_bind, Sim.bind_assoc, Sim.x_var0, Sim.x_varS, Sim.x_C, Sim.x_op, Sim.x_un, Sim.x_A, Sim.x_nil, Sim.x_cons, Sim.x_call, Sim.x_and, Sim.x_or, Sim.x_not, Sim.x_if, Sim.x_tV, Sim.x_tCmp, Sim.x_tTru, Sim.x_tNot, Sim.x_tAnd, Sim.x_tOr, Sim.x_asB, Sim.x_sl, Sim.x_oNone, Sim.x_oSome, Sim.x_asI, Sim.x_trN, Sim.x_trB, Sim.x_trI, Sim.x_trL, Sim.x_trR, Sim.x_trT, Sim.x_add, Sim.x_sub, Sim.x_neg, Sim.x_lt, Sim.x_le, Sim.x_gt, Sim.x_ge, Sim.x_abs, Sim.x_max2, Sim.x_min2, Sim.x_intI, Sim.x_intB, Sim.x_eqI, Sim.x_neI, Sim.x_eqS, Sim.x_neS, Sim.x_lst, Sim.x_tup, Sim.x_lenL, Sim.x_lenT, Sim.x_lenR, Sim.x_tupleL, Sim.x_listL, Sim.x_listT, Sim.x_slL, Sim.x_slR, Sim.x_slT, Sim.callM, Sim.arrOf, List.filterMap_cons, List.filterMap_nil, List.getElem?_cons_zero, List.getElem?_cons_succ, List.cons_append, List.nil_append, List.append_nil, List.length_cons, List.length_nil, and_self, if_true, List.set_cons_zero, List.set_cons_succ, Bool.false_eq_true, if_false, Nat.reduceAdd, Nat.reduceSub, List.map_cons, List.map_nil, List.replicate_succ, List.replicate_zero, Bool.not_true, Bool.not_false, Sim.x_sized, Nat.reduceLeDiff, Nat.zero_add, Bool.true_and, Bool.false_and, Bool.and_true, Bool.and_false, Bool.true_or, Bool.false_or, Bool.or_true, Bool.or_false, Bool.and_self, decide_true, decide_false]
  rw [x_eqLW0]
  have hlast : Rn cells k ((m__law_draw [.cl k, .int letters]).bind fun v => (M.ret (Sum.inr v) : M (Ev ⊕ D))) 1 fun r => match r with | .inl _ => (∃ l, D.non = .int l ∧ 0 ≤ l ∧ l ≤ 3) | .inr v => D.low 0 v = true ∧ ∃ l, v = .int l ∧ 0 ≤ l ∧ l ≤ 3 :=
    Rn.step (r_draw (by omega) (by omega)) fun v ⟨d, e, d0, d1⟩ => by
      subst e
      exact Rn.ret ⟨by simp only [D.low], d, rfl, d0, by omega⟩
  cases he : decide (some_ = []) with
  | true =>
    try simp -implicitDefEqProofs only [Sim.sM_pass, Sim.sM_seq, Sim.sM_asg, Sim.sM_ret, Sim.sM_expr, Sim.sM_if, Sim.sM_par, Sim.sM_asgT, Sim.sM_set, Sim.ret_bind, Sim.bind_assoc, Sim.x_var0, Sim.x_varS, Sim.x_C, Sim.x_op, Sim.x_un, Sim.x_A, Sim.x_nil, Sim.x_cons, Sim.x_call, Sim.x_and, Sim.x_or, Sim.x_not, Sim.x_if, Sim.x_tV, Sim.x_tCmp, Sim.x_tTru, Sim.x_tNot, Sim.x_tAnd, Sim.x_tOr, Sim.x_asB, Sim.x_sl, Sim.x_oNone, Sim.x_oSome, Sim.x_asI, Sim.x_trN, Sim.x_trB, Sim.x_trI, Sim.x_trL, Sim.x_trR, Sim.x_trT, Sim.x_add, Sim.x_sub, Sim.x_neg, Sim.x_lt, Sim.x_le, Sim.x_gt, Sim.x_ge, Sim.x_abs, Sim.x_max2, Sim.x_min2, Sim.x_intI, Sim.x_intB, Sim.x_eqI, Sim.x_neI, Sim.x_eqS, Sim.x_neS, Sim.x_lst, Sim.x_tup, Sim.x_lenL, Sim.x_lenT, Sim.x_lenR, Sim.x_tupleL, Sim.x_listL, Sim.x_listT, Sim.x_slL, Sim.x_slR, Sim.x_slT, Sim.callM, Sim.arrOf, List.filterMap_cons, List.filterMap_nil, List.getElem?_cons_zero, List.getElem?_cons_succ, List.cons_append, List.nil_append, List.append_nil, List.length_cons, List.length_nil, and_self, if_true, List.set_cons_zero, List.set_cons_succ, Bool.false_eq_true, if_false, Nat.reduceAdd, Nat.reduceSub, List.map_cons, List.map_nil, List.replicate_succ, List.replicate_zero, Bool.not_true, Bool.not_false, Sim.x_sized, Nat.reduceLeDiff, Nat.zero_add, Bool.true_and, Bool.false_and, Bool.and_true, Bool.and_false, Bool.true_or, Bool.false_or, Bool.or_true, Bool.or_false, Bool.and_self, decide_true, decide_false]
    exact hlast.imp (by decide) fun _ p => p
  | false =>
    try simp -implicitDefEqProofs only [Sim.sM_pass, Sim.sM_seq, Sim.sM_asg, Sim.sM_ret, Sim.sM_expr, Sim.sM_if, Sim.sM_par, Sim.sM_asgT, Sim.sM_set, Sim.ret_bind, Sim.bind_assoc, Sim.x_var0, Sim.x_varS, Sim.x_C, Sim.x_op, Sim.x_un, Sim.x_A, Sim.x_nil, Sim.x_cons, Sim.x_call, Sim.x_and, Sim.x_or, Sim.x_not, Sim.x_if, Sim.x_tV, Sim.x_tCmp, Sim.x_tTru, Sim.x_tNot, Sim.x_tAnd, Sim.x_tOr, Sim.x_asB, Sim.x_sl, Sim.x_oNone, Sim.x_oSome, Sim.x_asI, Sim.x_trN, Sim.x_trB, Sim.x_trI, Sim.x_trL, Sim.x_trR, Sim.x_trT, Sim.x_add, Sim.x_sub, Sim.x_neg, Sim.x_lt, Sim.x_le, Sim.x_gt, Sim.x_ge, Sim.x_abs, Sim.x_max2, Sim.x_min2, Sim.x_intI, Sim.x_intB, Sim.x_eqI, Sim.x_neI, Sim.x_eqS, Sim.x_neS, Sim.x_lst, Sim.x_tup, Sim.x_lenL, Sim.x_lenT, Sim.x_lenR, Sim.x_tupleL, Sim.x_listL, Sim.x_listT, Sim.x_slL, Sim.x_slR, Sim.x_slT, Sim.callM, Sim.arrOf, List.filterMap_cons, List.filterMap_nil, List.getElem?_cons_zero, List.getElem?_cons_succ, List.cons_append, List.nil_append, List.append_nil, List.length_cons, List.length_nil, and_self, if_true, List.set_cons_zero, List.set_cons_succ, Bool.false_eq_true, if_false, Nat.reduceAdd, Nat.reduceSub, List.map_cons, List.map_nil, List.replicate_succ, List.replicate_zero, Bool.not_true, Bool.not_false, Sim.x_sized, Nat.reduceLeDiff, Nat.zero_add, Bool.true_and, Bool.false_and, Bool.and_true, Bool.and_false, Bool.true_or, Bool.false_or, Bool.or_true, Bool.or_false, Bool.and_self, decide_true, decide_false]
    refine Rn.step (r_draw (by decide) (by decide)) fun v ⟨d, e, d0, d1⟩ => ?_
    subst e
    try simp -implicitDefEqProofs only [Sim.sM_pass, Sim.sM_seq, Sim.sM_asg, Sim.sM_ret, Sim.sM_expr, Sim.sM_if, Sim.sM_par, Sim.sM_asgT, Sim.sM_set, Sim.ret_bind, Sim.bind_assoc, Sim.x_var0, Sim.x_varS, Sim.x_C, Sim.x_op, Sim.x_un, Sim.x_A, Sim.x_nil, Sim.x_cons, Sim.x_call, Sim.x_and, Sim.x_or, Sim.x_not, Sim.x_if, Sim.x_tV, Sim.x_tCmp, Sim.x_tTru, Sim.x_tNot, Sim.x_tAnd, Sim.x_tOr, Sim.x_asB, Sim.x_sl, Sim.x_oNone, Sim.x_oSome, Sim.x_asI, Sim.x_trN, Sim.x_trB, Sim.x_trI, Sim.x_trL, Sim.x_trR, Sim.x_trT, Sim.x_add, Sim.x_sub, Sim.x_neg, Sim.x_lt, Sim.x_le, Sim.x_gt, Sim.x_ge, Sim.x_abs, Sim.x_max2, Sim.x_min2, Sim.x_intI, Sim.x_intB, Sim.x_eqI, Sim.x_neI, Sim.x_eqS, Sim.x_neS, Sim.x_lst, Sim.x_tup, Sim.x_lenL, Sim.x_lenT, Sim.x_lenR, Sim.x_tupleL, Sim.x_listL, Sim.x_listT, Sim.x_slL, Sim.x_slR, Sim.x_slT, Sim.callM, Sim.arrOf, List.filterMap_cons, List.filterMap_nil, List.getElem?_cons_zero, List.getElem?_cons_succ, List.cons_append, List.nil_append, List.append_nil, List.length_cons, List.length_nil, and_self, if_true, List.set_cons_zero, List.set_cons_succ, Bool.false_eq_true, if_false, Nat.reduceAdd, Nat.reduceSub, List.map_cons, List.map_nil, List.replicate_succ, List.replicate_zero, Bool.not_true, Bool.not_false, Sim.x_sized, Nat.reduceLeDiff, Nat.zero_add, Bool.true_and, Bool.false_and, Bool.and_true, Bool.and_false, Bool.true_or, Bool.false_or, Bool.or_true, Bool.or_false, Bool.and_self, decide_true, decide_false]
    cases hd : decide (d = 0) with
    | true =>
      try simp -implicitDefEqProofs only [Sim.sM_pass, Sim.sM_seq, Sim.sM_asg, Sim.sM_ret, Sim.sM_expr, Sim.sM_if, Sim.sM_par, Sim.sM_asgT, Sim.sM_set, Sim.ret_bind, Sim.bind_assoc, Sim.x_var0, Sim.x_varS, Sim.x_C, Sim.x_op, Sim.x_un, Sim.x_A, Sim.x_nil, Sim.x_cons, Sim.x_call, Sim.x_and, Sim.x_or, Sim.x_not, Sim.x_if, Sim.x_tV, Sim.x_tCmp, Sim.x_tTru, Sim.x_tNot, Sim.x_tAnd, Sim.x_tOr, Sim.x_asB, Sim.x_sl, Sim.x_oNone, Sim.x_oSome, Sim.x_asI, Sim.x_trN, Sim.x_trB, Sim.x_trI, Sim.x_trL, Sim.x_trR, Sim.x_trT, Sim.x_add, Sim.x_sub, Sim.x_neg, Sim.x_lt, Sim.x_le, Sim.x_gt, Sim.x_ge, Sim.x_abs, Sim.x_max2, Sim.x_min2, Sim.x_intI, Sim.x_intB, Sim.x_eqI, Sim.x_neI, Sim.x_eqS, Sim.x_neS, Sim.x_lst, Sim.x_tup, Sim.x_lenL, Sim.x_lenT, Sim.x_lenR, Sim.x_tupleL, Sim.x_listL, Sim.x_listT, Sim.x_slL, Sim.x_slR, Sim.x_slT, Sim.callM, Sim.arrOf, List.filterMap_cons, List.filterMap_nil, List.getElem?_cons_zero, List.getElem?_cons_succ, List.cons_append, List.nil_append, List.append_nil, List.length_cons, List.length_nil, and_self, if_true, List.set_cons_zero, List.set_cons_succ, Bool.false_eq_true, if_false, Nat.reduceAdd, Nat.reduceSub, List.map_cons, List.map_nil, List.replicate_succ, List.replicate_zero, Bool.not_true, Bool.not_false, Sim.x_sized, Nat.reduceLeDiff, Nat.zero_add, Bool.true_and, Bool.false_and, Bool.and_true, Bool.and_false, Bool.true_or, Bool.false_or, Bool.or_true, Bool.or_false, Bool.and_self, decide_true, decide_false]
      exact hlast
    | false =>
      try simp -implicitDefEqProofs only [Sim.sM_pass, Sim.sM_seq, Sim.sM_asg, Sim.sM_ret, Sim.sM_expr, Sim.sM_if, Sim.sM_par, Sim.sM_asgT, Sim.sM_set, Sim.ret_bind, Sim.bind_assoc, Sim.x_var0, Sim.x_varS, Sim.x_C, Sim.x_op, Sim.x_un, Sim.x_A, Sim.x_nil, Sim.x_cons, Sim.x_call, Sim.x_and, Sim.x_or, Sim.x_not, Sim.x_if, Sim.x_tV, Sim.x_tCmp, Sim.x_tTru, Sim.x_tNot, Sim.x_tAnd, Sim.x_tOr, Sim.x_asB, Sim.x_sl, Sim.x_oNone, Sim.x_oSome, Sim.x_asI, Sim.x_trN, Sim.x_trB, Sim.x_trI, Sim.x_trL, Sim.x_trR, Sim.x_trT, Sim.x_add, Sim.x_sub, Sim.x_neg, Sim.x_lt, Sim.x_le, Sim.x_gt, Sim.x_ge, Sim.x_abs, Sim.x_max2, Sim.x_min2, Sim.x_intI, Sim.x_intB, Sim.x_eqI, Sim.x_neI, Sim.x_eqS, Sim.x_neS, Sim.x_lst, Sim.x_tup, Sim.x_lenL, Sim.x_lenT, Sim.x_lenR, Sim.x_tupleL, Sim.x_listL, Sim.x_listT, Sim.x_slL, Sim.x_slR, Sim.x_slT, Sim.callM, Sim.arrOf, List.filterMap_cons, List.filterMap_nil, List.getElem?_cons_zero, List.getElem?_cons_succ, List.cons_append, List.nil_append, List.append_nil, List.length_cons, List.length_nil, and_self, if_true, List.set_cons_zero, List.set_cons_succ, Bool.false_eq_true, if_false, Nat.reduceAdd, Nat.reduceSub, List.map_cons, List.map_nil, List.replicate_succ, List.replicate_zero, Bool.not_true, Bool.not_false, Sim.x_sized, Nat.reduceLeDiff, Nat.zero_add, Bool.true_and, Bool.false_and, Bool.and_true, Bool.and_false, Bool.true_or, Bool.false_or, Bool.or_true, Bool.or_false, Bool.and_self, decide_true, decide_false]
      have hne : some_ ≠ [] := fun e => by rw [e] at he; cases he
      refine Rn.step (r_pick (xs := some_.map tI) (lows_of fun d hd => by obtain ⟨i, _, rfl⟩ := List.mem_map.mp hd; exact low_tI i) (by simpa using hne) (by simp; omega)) fun v hv => ?_
      obtain ⟨w, hw, rfl⟩ := List.mem_map.mp hv
      obtain ⟨hw1, hw2⟩ := hmem w hw
      try simp -implicitDefEqProofs only [Sim.sM_pass, Sim.sM_seq, Sim.sM_asg, Sim.sM_ret, Sim.sM_expr, Sim.sM_if, Sim.sM_par, Sim.sM_asgT, Sim.sM_set, Sim.ret_bind, Sim.bind_assoc, Sim.x_var0, Sim.x_varS, Sim.x_C, Sim.x_op, Sim.x_un, Sim.x_A, Sim.x_nil, Sim.x_cons, Sim.x_call, Sim.x_and, Sim.x_or, Sim.x_not, Sim.x_if, Sim.x_tV, Sim.x_tCmp, Sim.x_tTru, Sim.x_tNot, Sim.x_tAnd, Sim.x_tOr, Sim.x_asB, Sim.x_sl, Sim.x_oNone, Sim.x_oSome, Sim.x_asI, Sim.x_trN, Sim.x_trB, Sim.x_trI, Sim.x_trL, Sim.x_trR, Sim.x_trT, Sim.x_add, Sim.x_sub, Sim.x_neg, Sim.x_lt, Sim.x_le, Sim.x_gt, Sim.x_ge, Sim.x_abs, Sim.x_max2, Sim.x_min2, Sim.x_intI, Sim.x_intB, Sim.x_eqI, Sim.x_neI, Sim.x_eqS, Sim.x_neS, Sim.x_lst, Sim.x_tup, Sim.x_lenL, Sim.x_lenT, Sim.x_lenR, Sim.x_tupleL, Sim.x_listL, Sim.x_listT, Sim.x_slL, Sim.x_slR, Sim.x_slT, Sim.callM, Sim.arrOf, List.filterMap_cons, List.filterMap_nil, List.getElem?_cons_zero, List.getElem?_cons_succ, List.cons_append, List.nil_append, List.append_nil, List.length_cons, List.length_nil, and_self, if_true, List.set_cons_zero, List.set_cons_succ, Bool.false_eq_true, if_false, Nat.reduceAdd, Nat.reduceSub, List.map_cons, List.map_nil, List.replicate_succ, List.replicate_zero, Bool.not_true, Bool.not_false, Sim.x_sized, Nat.reduceLeDiff, Nat.zero_add, Bool.true_and, Bool.false_and, Bool.and_true, Bool.and_false, Bool.true_or, Bool.false_or, Bool.or_true, Bool.or_false, Bool.and_self, decide_true, decide_false]
      rw [List.length_map]
      have ha : atI (w.map D.int) (how.length : Int) = some (.int w[how.length]) := by
        unfold L2.atI L2.ixN
        rw [if_pos (by omega), if_pos (by rw [List.length_map]; omega)]
        show (w.map D.int)[how.length]? = _
        rw [List.getElem?_map, List.getElem?_eq_getElem hw2]; rfl
      rw [x_ixT ha]
      try simp -implicitDefEqProofs only [Sim.sM_pass, Sim.sM_seq, Sim.sM_asg, Sim.sM_ret, Sim.sM_expr, Sim.sM_if, Sim.sM_par, Sim.sM_asgT, Sim.sM_set, Sim.ret_bind, Sim.bind_assoc, Sim.x_var0, Sim.x_varS, Sim.x_C, Sim.x_op, Sim.x_un, Sim.x_A, Sim.x_nil, Sim.x_cons, Sim.x_call, Sim.x_and, Sim.x_or, Sim.x_not, Sim.x_if, Sim.x_tV, Sim.x_tCmp, Sim.x_tTru, Sim.x_tNot, Sim.x_tAnd, Sim.x_tOr, Sim.x_asB, Sim.x_sl, Sim.x_oNone, Sim.x_oSome, Sim.x_asI, Sim.x_trN, Sim.x_trB, Sim.x_trI, Sim.x_trL, Sim.x_trR, Sim.x_trT, Sim.x_add, Sim.x_sub, Sim.x_neg, Sim.x_lt, Sim.x_le, Sim.x_gt, Sim.x_ge, Sim.x_abs, Sim.x_max2, Sim.x_min2, Sim.x_intI, Sim.x_intB, Sim.x_eqI, Sim.x_neI, Sim.x_eqS, Sim.x_neS, Sim.x_lst, Sim.x_tup, Sim.x_lenL, Sim.x_lenT, Sim.x_lenR, Sim.x_tupleL, Sim.x_listL, Sim.x_listT, Sim.x_slL, Sim.x_slR, Sim.x_slT, Sim.callM, Sim.arrOf, List.filterMap_cons, List.filterMap_nil, List.getElem?_cons_zero, List.getElem?_cons_succ, List.cons_append, List.nil_append, List.append_nil, List.length_cons, List.length_nil, and_self, if_true, List.set_cons_zero, List.set_cons_succ, Bool.false_eq_true, if_false, Nat.reduceAdd, Nat.reduceSub, List.map_cons, List.map_nil, List.replicate_succ, List.replicate_zero, Bool.not_true, Bool.not_false, Sim.x_sized, Nat.reduceLeDiff, Nat.zero_add, Bool.true_and, Bool.false_and, Bool.and_true, Bool.and_false, Bool.true_or, Bool.false_or, Bool.or_true, Bool.or_false, Bool.and_self, decide_true, decide_false]
      have := g.let4 w hw1 _ (List.getElem_mem hw2)
      exact Rn.ret ⟨by simp only [D.low], _, rfl, this⟩
end
end K15
end

section
open PySem PySem.Spec PyProof.Rows L2 RZ Sim
namespace K15
section
variable {cells : List Int} {k : Nat}
theorem ints_of {ds : List D} {p : Int → Prop} (h : ∀ d ∈ ds, ∃ i, d = .int i ∧ p i) : ∃ is : List Int, ds = is.map D.int ∧ ∀ i ∈ is, p i := by
  induction ds with
  | nil => exact ⟨[], rfl, fun i hi => by cases hi⟩
  | cons d r ih =>
    obtain ⟨i, rfl, hi⟩ := h d List.mem_cons_self
    obtain ⟨is, rfl, his⟩ := ih fun x hx => h x (List.mem_cons_of_mem _ hx)
    exact ⟨i :: is, rfl, fun j hj => (List.mem_cons.mp hj).elim (fun e => e ▸ hi) (his j)⟩
/-- so many draws in a row -/
theorem r_row {mi : MI} {m : ME} {v : Nat} {ev : Ev} {n : Nat} {many : Int} (hi : Pu (mi ev) (.ints 0 n)) (hz : n ≤ 1000) (hm : 0 < many ∧ many < 1073741824)
    (h : ∀ x, m ((wipeE ev [v]).set v (some x)) = m__law_draw [.cl k, .int many]) : Rn cells k (eComp mi (.nm v) tYesM m [v] ev) (n * 1) fun d => ∃ is : List Int, d = lI is ∧ is.length = n ∧ ∀ i ∈ is, 0 ≤ i ∧ i < many := by
  refine (Rn.comp (n := n) (src := .ints 0 n) (item := fun i => .int (0 + (i : Nat))) (P := fun _ d => ∃ i, d = .int i ∧ 0 ≤ i ∧ i < many) (c := 1) hi (fun i st => rfl) (by omega) (fun i _ => ⟨_, x_put1, ?_⟩) fun i d ⟨j, e, _⟩ => by subst e; simp only [D.low]).imp (Nat.le_refl _) fun d hd => ?_
  · rw [h]
    exact r_draw hm.1 hm.2
  · obtain ⟨ds, rfl, hl, hp⟩ := hd
    obtain ⟨is, rfl, his⟩ := ints_of fun d hd => by
      obtain ⟨j, hj⟩ := List.getElem?_of_mem hd
      exact hp j d hj
    exact ⟨is, rfl, by simpa using hl, his⟩
def Wd4 (w : List Int) : Prop := w ≠ [] ∧ w.length ≤ 6 ∧ ∀ i ∈ w, 0 ≤ i ∧ i ≤ 3
noncomputable def bodyEnd : MS := (Sim.sIf (Sim.tCmp (gIn true) (eVar 7) (eVar 3)) (sExpr (eMtL gAppend (eVar 3) (aCons (eVar 7) aNil))) sPass)
noncomputable def bodyW : MS := (sSeq (sPar 5 6 (aCons (eCall 2 0 2 [] [0, 1] m__law_draw (aCons (eVar 0) (aCons (eC (.int 7)) aNil)) aNil) (aCons (eOp gAdd (eC (.int 1)) (eCall 2 0 2 [] [0, 1] m__law_draw (aCons (eVar 0) (aCons (eC (.int 6)) aNil)) aNil)) aNil)))
 (sSeq (sAsg 7 (eA gTuple (aCons (eSl (eVar 2) (oSome (eVar 5)) (oSome (eOp gAdd (eVar 5) (eVar 6)))) aNil)))
 (sSeq (Sim.sIf (Sim.tCmp gEq (eCall 2 0 2 [] [0, 1] m__law_draw (aCons (eVar 0) (aCons (eC (.int 4)) aNil)) aNil) (eC (.int 0))) (sAsg 7 (eA gTuple (aCons (eComp (iRng1 (aCons (eVar 6) aNil)) (.nm 8) tYesM (eCall 2 0 2 [] [0, 1] m__law_draw (aCons (eVar 0) (aCons (eC (.int 4)) aNil)) aNil) [8]) aNil))) sPass)
 bodyEnd)))
theorem T.last {α β : Type} {I : Store → Prop} {m : M α} {a : α} {Q : α → Store → Prop} (e : m = M.ret a) (h : ∀ st, I st → Q a st) : T I m Q := by rw [e]; exact T.ret h
theorem pyW_lst {st : Store} {j : Nat} {ws : List (List Int)} (h : st[j]? = some (.lst (ws.map tI))) : pyV st (.cl j) = some (.list (ws.map Enc.py)) := by
  have e : D.py (.cl j) = none := rfl
  obtain ⟨f, q⟩ := DEEP_eq
  have hd : ∃ g, f = g + 2 := ⟨996, by have : DEEP = 1000 := by unfold DEEP; rfl
                                       omega⟩
  obtain ⟨g, rfl⟩ := hd
  have h1 : ∀ i : Int, pyD st (g + 1) (Enc.d i) = some (Enc.py i) := fun i => rfl
  have h2 : ∀ w : List Int, pyD st (g + 2) (Enc.d w) = some (Enc.py w) := fun w => by
    show (pysW (pyD st (g + 1)) (w.map Enc.d)).map PyData.tuple = _
    rw [pyW_enc h1]; rfl
  unfold pyV
  rw [e, q, Option.none_or]
  show (match st[j]? with | some (.lst xs) => (pysW (pyD st (g + 3)) xs).map PyData.list | _ => none) = _
  have h3 : ∀ w : List Int, pyD st (g + 3) (Enc.d w) = some (Enc.py w) := fun w => by
    have h1' : ∀ i : Int, pyD st (g + 2) (Enc.d i) = some (Enc.py i) := fun i => rfl
    show (pysW (pyD st (g + 2)) (w.map Enc.d)).map PyData.tuple = _
    rw [pyW_enc h1']; rfl
  rw [h]
  show (pysW (pyD st (g + 3)) (ws.map Enc.d)).map PyData.list = _
  rw [pyW_enc h3]; rfl
theorem body_word {base : Store} {B : Int} (hk : k < base.length) (hB : B ≤ 1000000) {letters : Int} {row : List Int} {ws : List (List Int)} {N : Nat} (hN : 9 ≤ N) (hr : row.length = 12) (hr4 : ∀ i ∈ row, 0 ≤ i ∧ i ≤ 3) (hw : ∀ w ∈ ws, Wd4 w) (hn : ws.Nodup) (hl : ws.length < 3) {o4 o5 o6 o7 o8 : Option D} :
    T (Vt cells k base B N [.lst (ws.map tI)]) (sM bodyW [some (.cl k), some (.int letters), some (lI row), some (.cl base.length), o4, o5, o6, o7, o8]) fun r st => ∃ ws' : List (List Int), (∃ o4 o5 o6 o7 o8, r = .inl [some (.cl k), some (.int letters), some (lI row), some (.cl base.length), o4, o5, o6, o7, o8]) ∧
      Vt cells k base B (N - 9) [.lst (ws'.map tI)] st ∧ (∀ w ∈ ws', Wd4 w) ∧ ws'.Nodup ∧ ws'.length ≤ ws.length + 1 ∧ 1 ≤ ws'.length := by
  have hend : ∀ (w : List Int) (o4 o5 o6 o8 : Option D) (N' : Nat), Wd4 w → N - 9 ≤ N' → T (Vt cells k base B N' [.lst (ws.map tI)]) (sM bodyEnd [some (.cl k), some (.int letters), some (lI row), some (.cl base.length), o4, o5, o6, some (tI w), o8]) fun r st => ∃ ws' : List (List Int), (∃ o4 o5 o6 o7 o8, r = .inl [some (.cl k), some (.int letters), some (lI row), some (.cl base.length), o4, o5, o6, o7, o8]) ∧
      Vt cells k base B (N - 9) [.lst (ws'.map tI)] st ∧ (∀ w ∈ ws', Wd4 w) ∧ ws'.Nodup ∧ ws'.length ≤ ws.length + 1 ∧ 1 ≤ ws'.length := by
    intro w o4 o5 o6 o8 N' hw4 hN'
    unfold bodyEnd
    try simp -implicitDefEqProofs only [Sim.sM_pass, Sim.sM_seq, Sim.sM_asg, Sim.sM_ret, Sim.sM_expr, Sim.sM_if, Sim.sM_par, Sim.sM_asgT, Sim.sM_set, Sim.ret_bind, Sim.bind_assoc, Sim.x_var0, Sim.x_varS, Sim.x_C, Sim.x_op, Sim.x_un, Sim.x_A, Sim.x_nil, Sim.x_cons, Sim.x_call, Sim.x_and, Sim.x_or, Sim.x_not, Sim.x_if, Sim.x_tV, Sim.x_tCmp, Sim.x_tTru, Sim.x_tNot, Sim.x_tAnd, Sim.x_tOr, Sim.x_asB, Sim.x_sl, Sim.x_oNone, Sim.x_oSome, Sim.x_asI, Sim.x_trN, Sim.x_trB, Sim.x_trI, Sim.x_trL, Sim.x_trR, Sim.x_trT, Sim.x_add, Sim.x_sub, Sim.x_neg, Sim.x_lt, Sim.x_le, Sim.x_gt, Sim.x_ge, Sim.x_abs, Sim.x_max2, Sim.x_min2, Sim.x_intI, Sim.x_intB, Sim.x_eqI, Sim.x_neI, Sim.x_eqS, Sim.x_neS, Sim.x_lst, Sim.x_tup, Sim.x_lenL, Sim.x_lenT, Sim.x_lenR, Sim.x_tupleL, Sim.x_listL, Sim.x_listT, Sim.x_slL, Sim.x_slR, Sim.x_slT, Sim.callM, Sim.arrOf, List.filterMap_cons, List.filterMap_nil, List.getElem?_cons_zero, List.getElem?_cons_succ, List.cons_append, List.nil_append, List.append_nil, List.length_cons, List.length_nil, and_self, if_true, List.set_cons_zero, List.set_cons_succ, Bool.false_eq_true, if_false, Nat.reduceAdd, Nat.reduceSub, List.map_cons, List.map_nil, List.replicate_succ, List.replicate_zero, Bool.not_true, Bool.not_false, Sim.x_sized, Nat.reduceLeDiff, Nat.zero_add, Bool.true_and, Bool.false_and, Bool.and_true, Bool.and_false, Bool.true_or, Bool.false_or, Bool.or_true, Bool.or_false, Bool.and_self, decide_true, decide_false]
    refine T.one (a := .bl (!decide (w ∈ ws))) (I' := Vt cells k base B N' [.lst (ws.map tI)]) (fun st hst => ⟨st, of_at ?_, hst⟩) ?_
    · have g := hst.get 0
      exact enc_inS (α := List Int) (by decide) true w ws (pyW_lst g)
    · try simp -implicitDefEqProofs only [Sim.sM_pass, Sim.sM_seq, Sim.sM_asg, Sim.sM_ret, Sim.sM_expr, Sim.sM_if, Sim.sM_par, Sim.sM_asgT, Sim.sM_set, Sim.ret_bind, Sim.bind_assoc, Sim.x_var0, Sim.x_varS, Sim.x_C, Sim.x_op, Sim.x_un, Sim.x_A, Sim.x_nil, Sim.x_cons, Sim.x_call, Sim.x_and, Sim.x_or, Sim.x_not, Sim.x_if, Sim.x_tV, Sim.x_tCmp, Sim.x_tTru, Sim.x_tNot, Sim.x_tAnd, Sim.x_tOr, Sim.x_asB, Sim.x_sl, Sim.x_oNone, Sim.x_oSome, Sim.x_asI, Sim.x_trN, Sim.x_trB, Sim.x_trI, Sim.x_trL, Sim.x_trR, Sim.x_trT, Sim.x_add, Sim.x_sub, Sim.x_neg, Sim.x_lt, Sim.x_le, Sim.x_gt, Sim.x_ge, Sim.x_abs, Sim.x_max2, Sim.x_min2, Sim.x_intI, Sim.x_intB, Sim.x_eqI, Sim.x_neI, Sim.x_eqS, Sim.x_neS, Sim.x_lst, Sim.x_tup, Sim.x_lenL, Sim.x_lenT, Sim.x_lenR, Sim.x_tupleL, Sim.x_listL, Sim.x_listT, Sim.x_slL, Sim.x_slR, Sim.x_slT, Sim.callM, Sim.arrOf, List.filterMap_cons, List.filterMap_nil, List.getElem?_cons_zero, List.getElem?_cons_succ, List.cons_append, List.nil_append, List.append_nil, List.length_cons, List.length_nil, and_self, if_true, List.set_cons_zero, List.set_cons_succ, Bool.false_eq_true, if_false, Nat.reduceAdd, Nat.reduceSub, List.map_cons, List.map_nil, List.replicate_succ, List.replicate_zero, Bool.not_true, Bool.not_false, Sim.x_sized, Nat.reduceLeDiff, Nat.zero_add, Bool.true_and, Bool.false_and, Bool.and_true, Bool.and_false, Bool.true_or, Bool.false_or, Bool.or_true, Bool.or_false, Bool.and_self, decide_true, decide_false]
      by_cases hm : w ∈ ws
      · rw [decide_eq_true hm]
        try simp -implicitDefEqProofs only [Sim.sM_pass, Sim.sM_seq, Sim.sM_asg, Sim.sM_ret, Sim.sM_expr, Sim.sM_if, Sim.sM_par, Sim.sM_asgT, Sim.sM_set, Sim.ret_bind, Sim.bind_assoc, Sim.x_var0, Sim.x_varS, Sim.x_C, Sim.x_op, Sim.x_un, Sim.x_A, Sim.x_nil, Sim.x_cons, Sim.x_call, Sim.x_and, Sim.x_or, Sim.x_not, Sim.x_if, Sim.x_tV, Sim.x_tCmp, Sim.x_tTru, Sim.x_tNot, Sim.x_tAnd, Sim.x_tOr, Sim.x_asB, Sim.x_sl, Sim.x_oNone, Sim.x_oSome, Sim.x_asI, Sim.x_trN, Sim.x_trB, Sim.x_trI, Sim.x_trL, Sim.x_trR, Sim.x_trT, Sim.x_add, Sim.x_sub, Sim.x_neg, Sim.x_lt, Sim.x_le, Sim.x_gt, Sim.x_ge, Sim.x_abs, Sim.x_max2, Sim.x_min2, Sim.x_intI, Sim.x_intB, Sim.x_eqI, Sim.x_neI, Sim.x_eqS, Sim.x_neS, Sim.x_lst, Sim.x_tup, Sim.x_lenL, Sim.x_lenT, Sim.x_lenR, Sim.x_tupleL, Sim.x_listL, Sim.x_listT, Sim.x_slL, Sim.x_slR, Sim.x_slT, Sim.callM, Sim.arrOf, List.filterMap_cons, List.filterMap_nil, List.getElem?_cons_zero, List.getElem?_cons_succ, List.cons_append, List.nil_append, List.append_nil, List.length_cons, List.length_nil, and_self, if_true, List.set_cons_zero, List.set_cons_succ, Bool.false_eq_true, if_false, Nat.reduceAdd, Nat.reduceSub, List.map_cons, List.map_nil, List.replicate_succ, List.replicate_zero, Bool.not_true, Bool.not_false, Sim.x_sized, Nat.reduceLeDiff, Nat.zero_add, Bool.true_and, Bool.false_and, Bool.and_true, Bool.and_false, Bool.true_or, Bool.false_or, Bool.or_true, Bool.or_false, Bool.and_self, decide_true, decide_false]
        exact T.ret fun st hst => ⟨ws, ⟨_, _, _, _, _, rfl⟩, hst.less hN', hw, hn, by omega, List.length_pos_of_mem hm⟩
      · rw [decide_eq_false hm]
        try simp -implicitDefEqProofs only [x_eMtL, Sim.sM_pass, Sim.sM_seq, Sim.sM_asg, Sim.sM_ret, Sim.sM_expr, Sim.sM_if, Sim.sM_par, Sim.sM_asgT, Sim.sM_set, Sim.ret_bind, Sim.bind_assoc, Sim.x_var0, Sim.x_varS, Sim.x_C, Sim.x_op, Sim.x_un, Sim.x_A, Sim.x_nil, Sim.x_cons, Sim.x_call, Sim.x_and, Sim.x_or, Sim.x_not, Sim.x_if, Sim.x_tV, Sim.x_tCmp, Sim.x_tTru, Sim.x_tNot, Sim.x_tAnd, Sim.x_tOr, Sim.x_asB, Sim.x_sl, Sim.x_oNone, Sim.x_oSome, Sim.x_asI, Sim.x_trN, Sim.x_trB, Sim.x_trI, Sim.x_trL, Sim.x_trR, Sim.x_trT, Sim.x_add, Sim.x_sub, Sim.x_neg, Sim.x_lt, Sim.x_le, Sim.x_gt, Sim.x_ge, Sim.x_abs, Sim.x_max2, Sim.x_min2, Sim.x_intI, Sim.x_intB, Sim.x_eqI, Sim.x_neI, Sim.x_eqS, Sim.x_neS, Sim.x_lst, Sim.x_tup, Sim.x_lenL, Sim.x_lenT, Sim.x_lenR, Sim.x_tupleL, Sim.x_listL, Sim.x_listT, Sim.x_slL, Sim.x_slR, Sim.x_slT, Sim.callM, Sim.arrOf, List.filterMap_cons, List.filterMap_nil, List.getElem?_cons_zero, List.getElem?_cons_succ, List.cons_append, List.nil_append, List.append_nil, List.length_cons, List.length_nil, and_self, if_true, List.set_cons_zero, List.set_cons_succ, Bool.false_eq_true, if_false, Nat.reduceAdd, Nat.reduceSub, List.map_cons, List.map_nil, List.replicate_succ, List.replicate_zero, Bool.not_true, Bool.not_false, Sim.x_sized, Nat.reduceLeDiff, Nat.zero_add, Bool.true_and, Bool.false_and, Bool.and_true, Bool.and_false, Bool.true_or, Bool.false_or, Bool.or_true, Bool.or_false, Bool.and_self, decide_true, decide_false]
        refine T.one (a := .non) (I' := Vt cells k base B N' [.lst ((ws ++ [w]).map tI)]) (fun st hst => ⟨st.set (base.length + 0) (.lst ((ws ++ [w]).map tI)), ?_, ?_⟩) ?_
        · have g := hst.get 0
          have g' : st[base.length]? = some (.lst (ws.map tI)) := g
          show (if (listV st (.cl base.length)).isSome = true then _ else _) = _
          have e1 : (listV st (.cl base.length)).isSome = true := by simp only [listV, g', Option.isSome_some]
          rw [if_pos e1]
          refine of_at ?_
          simp only [gAppend, pushC, g', List.length_map]
          rw [if_pos (by omega)]
          simp
        · have s := hst.set 0 (.lst ((ws ++ [w]).map tI))
          exact s
        · exact T.ret fun st hst => ⟨ws ++ [w], ⟨_, _, _, _, _, rfl⟩, hst.less hN', fun x hx => by
            rcases List.mem_append.mp hx with h | h
            · exact hw x h
            · rw [List.mem_singleton.mp h]; exact hw4, List.nodup_append.mpr ⟨hn, by simp, fun a ha b hb => by
              have : b = w := by simpa using hb
              subst this
              exact fun e => hm (e ▸ ha)⟩, by simp, by simp⟩
  unfold bodyW
  rw [sM_seq]
  try simp -implicitDefEqProofs only [Sim.sM_pass, Sim.sM_seq, Sim.sM_asg, Sim.sM_ret, Sim.sM_expr, Sim.sM_if, Sim.sM_par, Sim.sM_asgT, Sim.sM_set, Sim.ret_bind, Sim.bind_assoc, Sim.x_var0, Sim.x_varS, Sim.x_C, Sim.x_op, Sim.x_un, Sim.x_A, Sim.x_nil, Sim.x_cons, Sim.x_call, Sim.x_and, Sim.x_or, Sim.x_not, Sim.x_if, Sim.x_tV, Sim.x_tCmp, Sim.x_tTru, Sim.x_tNot, Sim.x_tAnd, Sim.x_tOr, Sim.x_asB, Sim.x_sl, Sim.x_oNone, Sim.x_oSome, Sim.x_asI, Sim.x_trN, Sim.x_trB, Sim.x_trI, Sim.x_trL, Sim.x_trR, Sim.x_trT, Sim.x_add, Sim.x_sub, Sim.x_neg, Sim.x_lt, Sim.x_le, Sim.x_gt, Sim.x_ge, Sim.x_abs, Sim.x_max2, Sim.x_min2, Sim.x_intI, Sim.x_intB, Sim.x_eqI, Sim.x_neI, Sim.x_eqS, Sim.x_neS, Sim.x_lst, Sim.x_tup, Sim.x_lenL, Sim.x_lenT, Sim.x_lenR, Sim.x_tupleL, Sim.x_listL, Sim.x_listT, Sim.x_slL, Sim.x_slR, Sim.x_slT, Sim.callM, Sim.arrOf, List.filterMap_cons, List.filterMap_nil, List.getElem?_cons_zero, List.getElem?_cons_succ, List.cons_append, List.nil_append, List.append_nil, List.length_cons, List.length_nil, and_self, if_true, List.set_cons_zero, List.set_cons_succ, Bool.false_eq_true, if_false, Nat.reduceAdd, Nat.reduceSub, List.map_cons, List.map_nil, List.replicate_succ, List.replicate_zero, Bool.not_true, Bool.not_false, Sim.x_sized, Nat.reduceLeDiff, Nat.zero_add, Bool.true_and, Bool.false_and, Bool.and_true, Bool.and_false, Bool.true_or, Bool.false_or, Bool.or_true, Bool.or_false, Bool.and_self, decide_true, decide_false]
  refine T.rn hk hB (r_draw (many := 7) (by decide) (by decide)) fun v ⟨at_, e, a0, a1⟩ => ?_
  subst e
  try simp -implicitDefEqProofs only [Sim.sM_pass, Sim.sM_seq, Sim.sM_asg, Sim.sM_ret, Sim.sM_expr, Sim.sM_if, Sim.sM_par, Sim.sM_asgT, Sim.sM_set, Sim.ret_bind, Sim.bind_assoc, Sim.x_var0, Sim.x_varS, Sim.x_C, Sim.x_op, Sim.x_un, Sim.x_A, Sim.x_nil, Sim.x_cons, Sim.x_call, Sim.x_and, Sim.x_or, Sim.x_not, Sim.x_if, Sim.x_tV, Sim.x_tCmp, Sim.x_tTru, Sim.x_tNot, Sim.x_tAnd, Sim.x_tOr, Sim.x_asB, Sim.x_sl, Sim.x_oNone, Sim.x_oSome, Sim.x_asI, Sim.x_trN, Sim.x_trB, Sim.x_trI, Sim.x_trL, Sim.x_trR, Sim.x_trT, Sim.x_add, Sim.x_sub, Sim.x_neg, Sim.x_lt, Sim.x_le, Sim.x_gt, Sim.x_ge, Sim.x_abs, Sim.x_max2, Sim.x_min2, Sim.x_intI, Sim.x_intB, Sim.x_eqI, Sim.x_neI, Sim.x_eqS, Sim.x_neS, Sim.x_lst, Sim.x_tup, Sim.x_lenL, Sim.x_lenT, Sim.x_lenR, Sim.x_tupleL, Sim.x_listL, Sim.x_listT, Sim.x_slL, Sim.x_slR, Sim.x_slT, Sim.callM, Sim.arrOf, List.filterMap_cons, List.filterMap_nil, List.getElem?_cons_zero, List.getElem?_cons_succ, List.cons_append, List.nil_append, List.append_nil, List.length_cons, List.length_nil, and_self, if_true, List.set_cons_zero, List.set_cons_succ, Bool.false_eq_true, if_false, Nat.reduceAdd, Nat.reduceSub, List.map_cons, List.map_nil, List.replicate_succ, List.replicate_zero, Bool.not_true, Bool.not_false, Sim.x_sized, Nat.reduceLeDiff, Nat.zero_add, Bool.true_and, Bool.false_and, Bool.and_true, Bool.and_false, Bool.true_or, Bool.false_or, Bool.or_true, Bool.or_false, Bool.and_self, decide_true, decide_false]
  refine T.rn hk hB (r_draw (many := 6) (by decide) (by decide)) fun v ⟨sz, e, s0, s1⟩ => ?_
  subst e
  try simp -implicitDefEqProofs only [Sim.sM_pass, Sim.sM_seq, Sim.sM_asg, Sim.sM_ret, Sim.sM_expr, Sim.sM_if, Sim.sM_par, Sim.sM_asgT, Sim.sM_set, Sim.ret_bind, Sim.bind_assoc, Sim.x_var0, Sim.x_varS, Sim.x_C, Sim.x_op, Sim.x_un, Sim.x_A, Sim.x_nil, Sim.x_cons, Sim.x_call, Sim.x_and, Sim.x_or, Sim.x_not, Sim.x_if, Sim.x_tV, Sim.x_tCmp, Sim.x_tTru, Sim.x_tNot, Sim.x_tAnd, Sim.x_tOr, Sim.x_asB, Sim.x_sl, Sim.x_oNone, Sim.x_oSome, Sim.x_asI, Sim.x_trN, Sim.x_trB, Sim.x_trI, Sim.x_trL, Sim.x_trR, Sim.x_trT, Sim.x_add, Sim.x_sub, Sim.x_neg, Sim.x_lt, Sim.x_le, Sim.x_gt, Sim.x_ge, Sim.x_abs, Sim.x_max2, Sim.x_min2, Sim.x_intI, Sim.x_intB, Sim.x_eqI, Sim.x_neI, Sim.x_eqS, Sim.x_neS, Sim.x_lst, Sim.x_tup, Sim.x_lenL, Sim.x_lenT, Sim.x_lenR, Sim.x_tupleL, Sim.x_listL, Sim.x_listT, Sim.x_slL, Sim.x_slR, Sim.x_slT, Sim.callM, Sim.arrOf, List.filterMap_cons, List.filterMap_nil, List.getElem?_cons_zero, List.getElem?_cons_succ, List.cons_append, List.nil_append, List.append_nil, List.length_cons, List.length_nil, and_self, if_true, List.set_cons_zero, List.set_cons_succ, Bool.false_eq_true, if_false, Nat.reduceAdd, Nat.reduceSub, List.map_cons, List.map_nil, List.replicate_succ, List.replicate_zero, Bool.not_true, Bool.not_false, Sim.x_sized, Nat.reduceLeDiff, Nat.zero_add, Bool.true_and, Bool.false_and, Bool.and_true, Bool.and_false, Bool.true_or, Bool.false_or, Bool.or_true, Bool.or_false, Bool.and_self, decide_true, decide_false]
  obtain ⟨n, rfl⟩ : ∃ n : Nat, at_ = n := ⟨at_.toNat, by omega⟩
  obtain ⟨z, rfl⟩ : ∃ z : Nat, sz = z := ⟨sz.toNat, by omega⟩
  have c1 : Sim.cutD (row.map D.int) (some (n : Int)) (some ((n : Int) + (1 + (z : Int)))) = ((row.drop n).take (1 + z)).map D.int := by
    have e : (n : Int) + (1 + (z : Int)) = ((n + (1 + z) : Nat) : Int) := by omega
    rw [e, cutD_mid, show n + (1 + z) - n = 1 + z by omega, List.map_take, List.map_drop]
  rw [c1]
  try simp -implicitDefEqProofs only [Sim.sM_pass, Sim.sM_seq, Sim.sM_asg, Sim.sM_ret, Sim.sM_expr, Sim.sM_if, Sim.sM_par, Sim.sM_asgT, Sim.sM_set, Sim.ret_bind, Sim.bind_assoc, Sim.x_var0, Sim.x_varS, Sim.x_C, Sim.x_op, Sim.x_un, Sim.x_A, Sim.x_nil, Sim.x_cons, Sim.x_call, Sim.x_and, Sim.x_or, Sim.x_not, Sim.x_if, Sim.x_tV, Sim.x_tCmp, Sim.x_tTru, Sim.x_tNot, Sim.x_tAnd, Sim.x_tOr, Sim.x_asB, Sim.x_sl, Sim.x_oNone, Sim.x_oSome, Sim.x_asI, Sim.x_trN, Sim.x_trB, Sim.x_trI, Sim.x_trL, Sim.x_trR, Sim.x_trT, Sim.x_add, Sim.x_sub, Sim.x_neg, Sim.x_lt, Sim.x_le, Sim.x_gt, Sim.x_ge, Sim.x_abs, Sim.x_max2, Sim.x_min2, Sim.x_intI, Sim.x_intB, Sim.x_eqI, Sim.x_neI, Sim.x_eqS, Sim.x_neS, Sim.x_lst, Sim.x_tup, Sim.x_lenL, Sim.x_lenT, Sim.x_lenR, Sim.x_tupleL, Sim.x_listL, Sim.x_listT, Sim.x_slL, Sim.x_slR, Sim.x_slT, Sim.callM, Sim.arrOf, List.filterMap_cons, List.filterMap_nil, List.getElem?_cons_zero, List.getElem?_cons_succ, List.cons_append, List.nil_append, List.append_nil, List.length_cons, List.length_nil, and_self, if_true, List.set_cons_zero, List.set_cons_succ, Bool.false_eq_true, if_false, Nat.reduceAdd, Nat.reduceSub, List.map_cons, List.map_nil, List.replicate_succ, List.replicate_zero, Bool.not_true, Bool.not_false, Sim.x_sized, Nat.reduceLeDiff, Nat.zero_add, Bool.true_and, Bool.false_and, Bool.and_true, Bool.and_false, Bool.true_or, Bool.false_or, Bool.or_true, Bool.or_false, Bool.and_self, decide_true, decide_false]
  have hw1 : Wd4 ((row.drop n).take (1 + z)) := by
    refine ⟨fun e => ?_, by rw [List.length_take]; omega, fun i hi => hr4 i (List.mem_of_mem_drop (List.mem_of_mem_take hi))⟩
    have := congrArg List.length e
    rw [List.length_take, List.length_drop, List.length_nil] at this; omega
  refine T.rn hk hB (r_draw (many := 4) (by decide) (by decide)) fun v ⟨d, e, d0, d1⟩ => ?_
  subst e
  try simp -implicitDefEqProofs only [Sim.sM_pass, Sim.sM_seq, Sim.sM_asg, Sim.sM_ret, Sim.sM_expr, Sim.sM_if, Sim.sM_par, Sim.sM_asgT, Sim.sM_set, Sim.ret_bind, Sim.bind_assoc, Sim.x_var0, Sim.x_varS, Sim.x_C, Sim.x_op, Sim.x_un, Sim.x_A, Sim.x_nil, Sim.x_cons, Sim.x_call, Sim.x_and, Sim.x_or, Sim.x_not, Sim.x_if, Sim.x_tV, Sim.x_tCmp, Sim.x_tTru, Sim.x_tNot, Sim.x_tAnd, Sim.x_tOr, Sim.x_asB, Sim.x_sl, Sim.x_oNone, Sim.x_oSome, Sim.x_asI, Sim.x_trN, Sim.x_trB, Sim.x_trI, Sim.x_trL, Sim.x_trR, Sim.x_trT, Sim.x_add, Sim.x_sub, Sim.x_neg, Sim.x_lt, Sim.x_le, Sim.x_gt, Sim.x_ge, Sim.x_abs, Sim.x_max2, Sim.x_min2, Sim.x_intI, Sim.x_intB, Sim.x_eqI, Sim.x_neI, Sim.x_eqS, Sim.x_neS, Sim.x_lst, Sim.x_tup, Sim.x_lenL, Sim.x_lenT, Sim.x_lenR, Sim.x_tupleL, Sim.x_listL, Sim.x_listT, Sim.x_slL, Sim.x_slR, Sim.x_slT, Sim.callM, Sim.arrOf, List.filterMap_cons, List.filterMap_nil, List.getElem?_cons_zero, List.getElem?_cons_succ, List.cons_append, List.nil_append, List.append_nil, List.length_cons, List.length_nil, and_self, if_true, List.set_cons_zero, List.set_cons_succ, Bool.false_eq_true, if_false, Nat.reduceAdd, Nat.reduceSub, List.map_cons, List.map_nil, List.replicate_succ, List.replicate_zero, Bool.not_true, Bool.not_false, Sim.x_sized, Nat.reduceLeDiff, Nat.zero_add, Bool.true_and, Bool.false_and, Bool.and_true, Bool.and_false, Bool.true_or, Bool.false_or, Bool.or_true, Bool.or_false, Bool.and_self, decide_true, decide_false]
  cases hd : decide (d = 0) with
  | false =>
    simp only [Bool.false_eq_true, if_false, ret_bind]
    exact hend _ _ _ _ _ (N - 1 - 1 - 1) hw1 (by omega)
  | true =>
    simp only [if_true]
    try simp -implicitDefEqProofs only [Sim.sM_pass, Sim.sM_seq, Sim.sM_asg, Sim.sM_ret, Sim.sM_expr, Sim.sM_if, Sim.sM_par, Sim.sM_asgT, Sim.sM_set, Sim.ret_bind, Sim.bind_assoc, Sim.x_var0, Sim.x_varS, Sim.x_C, Sim.x_op, Sim.x_un, Sim.x_A, Sim.x_nil, Sim.x_cons, Sim.x_call, Sim.x_and, Sim.x_or, Sim.x_not, Sim.x_if, Sim.x_tV, Sim.x_tCmp, Sim.x_tTru, Sim.x_tNot, Sim.x_tAnd, Sim.x_tOr, Sim.x_asB, Sim.x_sl, Sim.x_oNone, Sim.x_oSome, Sim.x_asI, Sim.x_trN, Sim.x_trB, Sim.x_trI, Sim.x_trL, Sim.x_trR, Sim.x_trT, Sim.x_add, Sim.x_sub, Sim.x_neg, Sim.x_lt, Sim.x_le, Sim.x_gt, Sim.x_ge, Sim.x_abs, Sim.x_max2, Sim.x_min2, Sim.x_intI, Sim.x_intB, Sim.x_eqI, Sim.x_neI, Sim.x_eqS, Sim.x_neS, Sim.x_lst, Sim.x_tup, Sim.x_lenL, Sim.x_lenT, Sim.x_lenR, Sim.x_tupleL, Sim.x_listL, Sim.x_listT, Sim.x_slL, Sim.x_slR, Sim.x_slT, Sim.callM, Sim.arrOf, List.filterMap_cons, List.filterMap_nil, List.getElem?_cons_zero, List.getElem?_cons_succ, List.cons_append, List.nil_append, List.append_nil, List.length_cons, List.length_nil, and_self, if_true, List.set_cons_zero, List.set_cons_succ, Bool.false_eq_true, if_false, Nat.reduceAdd, Nat.reduceSub, List.map_cons, List.map_nil, List.replicate_succ, List.replicate_zero, Bool.not_true, Bool.not_false, Sim.x_sized, Nat.reduceLeDiff, Nat.zero_add, Bool.true_and, Bool.false_and, Bool.and_true, Bool.and_false, Bool.true_or, Bool.false_or, Bool.or_true, Bool.or_false, Bool.and_self, decide_true, decide_false]
    refine T.rn hk hB (r_row (n := 1 + z) (many := 4) ?_ (by omega) (by decide) fun x => ?_) (c := (1 + z) * 1) (fun v hv => ?_)
    · intro st
      rw [x_iRng1]
      try simp -implicitDefEqProofs only [Sim.sM_pass, Sim.sM_seq, Sim.sM_asg, Sim.sM_ret, Sim.sM_expr, Sim.sM_if, Sim.sM_par, Sim.sM_asgT, Sim.sM_set, Sim.ret_bind, Sim.bind_assoc, Sim.x_var0, Sim.x_varS, Sim.x_C, Sim.x_op, Sim.x_un, Sim.x_A, Sim.x_nil, Sim.x_cons, Sim.x_call, Sim.x_and, Sim.x_or, Sim.x_not, Sim.x_if, Sim.x_tV, Sim.x_tCmp, Sim.x_tTru, Sim.x_tNot, Sim.x_tAnd, Sim.x_tOr, Sim.x_asB, Sim.x_sl, Sim.x_oNone, Sim.x_oSome, Sim.x_asI, Sim.x_trN, Sim.x_trB, Sim.x_trI, Sim.x_trL, Sim.x_trR, Sim.x_trT, Sim.x_add, Sim.x_sub, Sim.x_neg, Sim.x_lt, Sim.x_le, Sim.x_gt, Sim.x_ge, Sim.x_abs, Sim.x_max2, Sim.x_min2, Sim.x_intI, Sim.x_intB, Sim.x_eqI, Sim.x_neI, Sim.x_eqS, Sim.x_neS, Sim.x_lst, Sim.x_tup, Sim.x_lenL, Sim.x_lenT, Sim.x_lenR, Sim.x_tupleL, Sim.x_listL, Sim.x_listT, Sim.x_slL, Sim.x_slR, Sim.x_slT, Sim.callM, Sim.arrOf, List.filterMap_cons, List.filterMap_nil, List.getElem?_cons_zero, List.getElem?_cons_succ, List.cons_append, List.nil_append, List.append_nil, List.length_cons, List.length_nil, and_self, if_true, List.set_cons_zero, List.set_cons_succ, Bool.false_eq_true, if_false, Nat.reduceAdd, Nat.reduceSub, List.map_cons, List.map_nil, List.replicate_succ, List.replicate_zero, Bool.not_true, Bool.not_false, Sim.x_sized, Nat.reduceLeDiff, Nat.zero_add, Bool.true_and, Bool.false_and, Bool.and_true, Bool.and_false, Bool.true_or, Bool.false_or, Bool.or_true, Bool.or_false, Bool.and_self, decide_true, decide_false]
      rw [x_rng1 (by omega)]
      show Res.ok (Src.ints 0 (1 + (z : Int)).toNat) st = _
      rw [show (1 + (z : Int)).toNat = 1 + z by omega]
    · try simp -implicitDefEqProofs only [Sim.wipeE, Sim.sM_pass, Sim.sM_seq, Sim.sM_asg, Sim.sM_ret, Sim.sM_expr, Sim.sM_if, Sim.sM_par, Sim.sM_asgT, Sim.sM_set, Sim.ret_bind, Sim.bind_assoc, Sim.x_var0, Sim.x_varS, Sim.x_C, Sim.x_op, Sim.x_un, Sim.x_A, Sim.x_nil, Sim.x_cons, Sim.x_call, Sim.x_and, Sim.x_or, Sim.x_not, Sim.x_if, Sim.x_tV, Sim.x_tCmp, Sim.x_tTru, Sim.x_tNot, Sim.x_tAnd, Sim.x_tOr, Sim.x_asB, Sim.x_sl, Sim.x_oNone, Sim.x_oSome, Sim.x_asI, Sim.x_trN, Sim.x_trB, Sim.x_trI, Sim.x_trL, Sim.x_trR, Sim.x_trT, Sim.x_add, Sim.x_sub, Sim.x_neg, Sim.x_lt, Sim.x_le, Sim.x_gt, Sim.x_ge, Sim.x_abs, Sim.x_max2, Sim.x_min2, Sim.x_intI, Sim.x_intB, Sim.x_eqI, Sim.x_neI, Sim.x_eqS, Sim.x_neS, Sim.x_lst, Sim.x_tup, Sim.x_lenL, Sim.x_lenT, Sim.x_lenR, Sim.x_tupleL, Sim.x_listL, Sim.x_listT, Sim.x_slL, Sim.x_slR, Sim.x_slT, Sim.callM, Sim.arrOf, List.filterMap_cons, List.filterMap_nil, List.getElem?_cons_zero, List.getElem?_cons_succ, List.cons_append, List.nil_append, List.append_nil, List.length_cons, List.length_nil, and_self, if_true, List.set_cons_zero, List.set_cons_succ, Bool.false_eq_true, if_false, Nat.reduceAdd, Nat.reduceSub, List.map_cons, List.map_nil, List.replicate_succ, List.replicate_zero, Bool.not_true, Bool.not_false, Sim.x_sized, Nat.reduceLeDiff, Nat.zero_add, Bool.true_and, Bool.false_and, Bool.and_true, Bool.and_false, Bool.true_or, Bool.false_or, Bool.or_true, Bool.or_false, Bool.and_self, decide_true, decide_false]
    · obtain ⟨is, rfl, hlen, h4⟩ := hv
      try simp -implicitDefEqProofs only [Sim.sM_pass, Sim.sM_seq, Sim.sM_asg, Sim.sM_ret, Sim.sM_expr, Sim.sM_if, Sim.sM_par, Sim.sM_asgT, Sim.sM_set, Sim.ret_bind, Sim.bind_assoc, Sim.x_var0, Sim.x_varS, Sim.x_C, Sim.x_op, Sim.x_un, Sim.x_A, Sim.x_nil, Sim.x_cons, Sim.x_call, Sim.x_and, Sim.x_or, Sim.x_not, Sim.x_if, Sim.x_tV, Sim.x_tCmp, Sim.x_tTru, Sim.x_tNot, Sim.x_tAnd, Sim.x_tOr, Sim.x_asB, Sim.x_sl, Sim.x_oNone, Sim.x_oSome, Sim.x_asI, Sim.x_trN, Sim.x_trB, Sim.x_trI, Sim.x_trL, Sim.x_trR, Sim.x_trT, Sim.x_add, Sim.x_sub, Sim.x_neg, Sim.x_lt, Sim.x_le, Sim.x_gt, Sim.x_ge, Sim.x_abs, Sim.x_max2, Sim.x_min2, Sim.x_intI, Sim.x_intB, Sim.x_eqI, Sim.x_neI, Sim.x_eqS, Sim.x_neS, Sim.x_lst, Sim.x_tup, Sim.x_lenL, Sim.x_lenT, Sim.x_lenR, Sim.x_tupleL, Sim.x_listL, Sim.x_listT, Sim.x_slL, Sim.x_slR, Sim.x_slT, Sim.callM, Sim.arrOf, List.filterMap_cons, List.filterMap_nil, List.getElem?_cons_zero, List.getElem?_cons_succ, List.cons_append, List.nil_append, List.append_nil, List.length_cons, List.length_nil, and_self, if_true, List.set_cons_zero, List.set_cons_succ, Bool.false_eq_true, if_false, Nat.reduceAdd, Nat.reduceSub, List.map_cons, List.map_nil, List.replicate_succ, List.replicate_zero, Bool.not_true, Bool.not_false, Sim.x_sized, Nat.reduceLeDiff, Nat.zero_add, Bool.true_and, Bool.false_and, Bool.and_true, Bool.and_false, Bool.true_or, Bool.false_or, Bool.or_true, Bool.or_false, Bool.and_self, decide_true, decide_false]
      exact hend is _ _ _ _ (N - 1 - 1 - 1 - (1 + z) * 1) ⟨fun e => by rw [e] at hlen; simp at hlen; omega, by omega, fun i hi => by have := h4 i hi; omega⟩ (by omega)
theorem drawn_parts : d__law_drawn = (sSeq (sPar 2 3 (aCons (eComp (iRng1 (aCons (eC (.int 12)) aNil)) (.nm 4) tYesM (eCall 2 0 2 [] [0, 1] m__law_draw (aCons (eVar 0) (aCons (eVar 1) aNil)) aNil) [4]) (aCons (eA gLstM aNil) aNil)))
 (sSeq (sFor (iRng1 (aCons (eOp gAdd (eC (.int 1)) (eCall 2 0 2 [] [0, 1] m__law_draw (aCons (eVar 0) (aCons (eC (.int 3)) aNil)) aNil)) aNil)) (.nm 4) bodyW)
 (sRet (eVar 3)))) := rfl
theorem r_drawn {letters : Int} (hl : 1 ≤ letters ∧ letters ≤ 4) : Rn cells k (m__law_drawn [.cl k, .int letters]) 40 fun v => ∃ ws, v = lW ws ∧ Good ws := by
  refine Rn.fnT fun base B hk hB => ?_
  rw [drawn_parts, sM_seq, sM_par]
  try simp -implicitDefEqProofs only [Sim.sM_pass, Sim.sM_seq, Sim.sM_asg, Sim.sM_ret, Sim.sM_expr, Sim.sM_if, Sim.sM_par, Sim.sM_asgT, Sim.sM_set, Sim.ret_bind, Sim.bind_assoc, Sim.x_var0, Sim.x_varS, Sim.x_C, Sim.x_op, Sim.x_un, Sim.x_A, Sim.x_nil, Sim.x_cons, Sim.x_call, Sim.x_and, Sim.x_or, Sim.x_not, Sim.x_if, Sim.x_tV, Sim.x_tCmp, Sim.x_tTru, Sim.x_tNot, Sim.x_tAnd, Sim.x_tOr, Sim.x_asB, Sim.x_sl, Sim.x_oNone, Sim.x_oSome, Sim.x_asI, Sim.x_trN, Sim.x_trB, Sim.x_trI, Sim.x_trL, Sim.x_trR, Sim.x_trT, Sim.x_add, Sim.x_sub, Sim.x_neg, Sim.x_lt, Sim.x_le, Sim.x_gt, Sim.x_ge, Sim.x_abs, Sim.x_max2, Sim.x_min2, Sim.x_intI, Sim.x_intB, Sim.x_eqI, Sim.x_neI, Sim.x_eqS, Sim.x_neS, Sim.x_lst, Sim.x_tup, Sim.x_lenL, Sim.x_lenT, Sim.x_lenR, Sim.x_tupleL, Sim.x_listL, Sim.x_listT, Sim.x_slL, Sim.x_slR, Sim.x_slT, Sim.callM, Sim.arrOf, List.filterMap_cons, List.filterMap_nil, List.getElem?_cons_zero, List.getElem?_cons_succ, List.cons_append, List.nil_append, List.append_nil, List.length_cons, List.length_nil, and_self, if_true, List.set_cons_zero, List.set_cons_succ, Bool.false_eq_true, if_false, Nat.reduceAdd, Nat.reduceSub, List.map_cons, List.map_nil, List.replicate_succ, List.replicate_zero, Bool.not_true, Bool.not_false, Sim.x_sized, Nat.reduceLeDiff, Nat.zero_add, Bool.true_and, Bool.false_and, Bool.and_true, Bool.and_false, Bool.true_or, Bool.false_or, Bool.or_true, Bool.or_false, Bool.and_self, decide_true, decide_false]
  refine T.rn hk hB (r_row (n := 12) (many := letters) ?_ (by decide) (by omega) fun x => ?_) (c := 12) (fun v hv => ?_)
  · intro st
    rw [x_iRng1]
    try simp -implicitDefEqProofs only [Sim.sM_pass, Sim.sM_seq, Sim.sM_asg, Sim.sM_ret, Sim.sM_expr, Sim.sM_if, Sim.sM_par, Sim.sM_asgT, Sim.sM_set, Sim.ret_bind, Sim.bind_assoc, Sim.x_var0, Sim.x_varS, Sim.x_C, Sim.x_op, Sim.x_un, Sim.x_A, Sim.x_nil, Sim.x_cons, Sim.x_call, Sim.x_and, Sim.x_or, Sim.x_not, Sim.x_if, Sim.x_tV, Sim.x_tCmp, Sim.x_tTru, Sim.x_tNot, Sim.x_tAnd, Sim.x_tOr, Sim.x_asB, Sim.x_sl, Sim.x_oNone, Sim.x_oSome, Sim.x_asI, Sim.x_trN, Sim.x_trB, Sim.x_trI, Sim.x_trL, Sim.x_trR, Sim.x_trT, Sim.x_add, Sim.x_sub, Sim.x_neg, Sim.x_lt, Sim.x_le, Sim.x_gt, Sim.x_ge, Sim.x_abs, Sim.x_max2, Sim.x_min2, Sim.x_intI, Sim.x_intB, Sim.x_eqI, Sim.x_neI, Sim.x_eqS, Sim.x_neS, Sim.x_lst, Sim.x_tup, Sim.x_lenL, Sim.x_lenT, Sim.x_lenR, Sim.x_tupleL, Sim.x_listL, Sim.x_listT, Sim.x_slL, Sim.x_slR, Sim.x_slT, Sim.callM, Sim.arrOf, List.filterMap_cons, List.filterMap_nil, List.getElem?_cons_zero, List.getElem?_cons_succ, List.cons_append, List.nil_append, List.append_nil, List.length_cons, List.length_nil, and_self, if_true, List.set_cons_zero, List.set_cons_succ, Bool.false_eq_true, if_false, Nat.reduceAdd, Nat.reduceSub, List.map_cons, List.map_nil, List.replicate_succ, List.replicate_zero, Bool.not_true, Bool.not_false, Sim.x_sized, Nat.reduceLeDiff, Nat.zero_add, Bool.true_and, Bool.false_and, Bool.and_true, Bool.and_false, Bool.true_or, Bool.false_or, Bool.or_true, Bool.or_false, Bool.and_self, decide_true, decide_false]
    rw [x_rng1 (by decide)]
    rfl
  · try simp -implicitDefEqProofs only [Sim.wipeE, Sim.sM_pass, Sim.sM_seq, Sim.sM_asg, Sim.sM_ret, Sim.sM_expr, Sim.sM_if, Sim.sM_par, Sim.sM_asgT, Sim.sM_set, Sim.ret_bind, Sim.bind_assoc, Sim.x_var0, Sim.x_varS, Sim.x_C, Sim.x_op, Sim.x_un, Sim.x_A, Sim.x_nil, Sim.x_cons, Sim.x_call, Sim.x_and, Sim.x_or, Sim.x_not, Sim.x_if, Sim.x_tV, Sim.x_tCmp, Sim.x_tTru, Sim.x_tNot, Sim.x_tAnd, Sim.x_tOr, Sim.x_asB, Sim.x_sl, Sim.x_oNone, Sim.x_oSome, Sim.x_asI, Sim.x_trN, Sim.x_trB, Sim.x_trI, Sim.x_trL, Sim.x_trR, Sim.x_trT, Sim.x_add, Sim.x_sub, Sim.x_neg, Sim.x_lt, Sim.x_le, Sim.x_gt, Sim.x_ge, Sim.x_abs, Sim.x_max2, Sim.x_min2, Sim.x_intI, Sim.x_intB, Sim.x_eqI, Sim.x_neI, Sim.x_eqS, Sim.x_neS, Sim.x_lst, Sim.x_tup, Sim.x_lenL, Sim.x_lenT, Sim.x_lenR, Sim.x_tupleL, Sim.x_listL, Sim.x_listT, Sim.x_slL, Sim.x_slR, Sim.x_slT, Sim.callM, Sim.arrOf, List.filterMap_cons, List.filterMap_nil, List.getElem?_cons_zero, List.getElem?_cons_succ, List.cons_append, List.nil_append, List.append_nil, List.length_cons, List.length_nil, and_self, if_true, List.set_cons_zero, List.set_cons_succ, Bool.false_eq_true, if_false, Nat.reduceAdd, Nat.reduceSub, List.map_cons, List.map_nil, List.replicate_succ, List.replicate_zero, Bool.not_true, Bool.not_false, Sim.x_sized, Nat.reduceLeDiff, Nat.zero_add, Bool.true_and, Bool.false_and, Bool.and_true, Bool.and_false, Bool.true_or, Bool.false_or, Bool.or_true, Bool.or_false, Bool.and_self, decide_true, decide_false]
  obtain ⟨row, rfl, hrl, hr4⟩ := hv
  try simp -implicitDefEqProofs only [Sim.sM_pass, Sim.sM_seq, Sim.sM_asg, Sim.sM_ret, Sim.sM_expr, Sim.sM_if, Sim.sM_par, Sim.sM_asgT, Sim.sM_set, Sim.ret_bind, Sim.bind_assoc, Sim.x_var0, Sim.x_varS, Sim.x_C, Sim.x_op, Sim.x_un, Sim.x_A, Sim.x_nil, Sim.x_cons, Sim.x_call, Sim.x_and, Sim.x_or, Sim.x_not, Sim.x_if, Sim.x_tV, Sim.x_tCmp, Sim.x_tTru, Sim.x_tNot, Sim.x_tAnd, Sim.x_tOr, Sim.x_asB, Sim.x_sl, Sim.x_oNone, Sim.x_oSome, Sim.x_asI, Sim.x_trN, Sim.x_trB, Sim.x_trI, Sim.x_trL, Sim.x_trR, Sim.x_trT, Sim.x_add, Sim.x_sub, Sim.x_neg, Sim.x_lt, Sim.x_le, Sim.x_gt, Sim.x_ge, Sim.x_abs, Sim.x_max2, Sim.x_min2, Sim.x_intI, Sim.x_intB, Sim.x_eqI, Sim.x_neI, Sim.x_eqS, Sim.x_neS, Sim.x_lst, Sim.x_tup, Sim.x_lenL, Sim.x_lenT, Sim.x_lenR, Sim.x_tupleL, Sim.x_listL, Sim.x_listT, Sim.x_slL, Sim.x_slR, Sim.x_slT, Sim.callM, Sim.arrOf, List.filterMap_cons, List.filterMap_nil, List.getElem?_cons_zero, List.getElem?_cons_succ, List.cons_append, List.nil_append, List.append_nil, List.length_cons, List.length_nil, and_self, if_true, List.set_cons_zero, List.set_cons_succ, Bool.false_eq_true, if_false, Nat.reduceAdd, Nat.reduceSub, List.map_cons, List.map_nil, List.replicate_succ, List.replicate_zero, Bool.not_true, Bool.not_false, Sim.x_sized, Nat.reduceLeDiff, Nat.zero_add, Bool.true_and, Bool.false_and, Bool.and_true, Bool.and_false, Bool.true_or, Bool.false_or, Bool.or_true, Bool.or_false, Bool.and_self, decide_true, decide_false]
  refine T.one (a := .cl base.length) (I' := Vt cells k base B (40 - 12) [.lst (([] : List (List Int)).map tI)]) (fun st hst => ⟨st ++ [.lst []], of_at ?_, hst.app _⟩) ?_
  · have := hst.len
    simp only [gLstM, List.length_nil, Nat.zero_le, if_true, this, List.length_append]
    simp
  try simp -implicitDefEqProofs only [Sim.sM_pass, Sim.sM_seq, Sim.sM_asg, Sim.sM_ret, Sim.sM_expr, Sim.sM_if, Sim.sM_par, Sim.sM_asgT, Sim.sM_set, Sim.ret_bind, Sim.bind_assoc, Sim.x_var0, Sim.x_varS, Sim.x_C, Sim.x_op, Sim.x_un, Sim.x_A, Sim.x_nil, Sim.x_cons, Sim.x_call, Sim.x_and, Sim.x_or, Sim.x_not, Sim.x_if, Sim.x_tV, Sim.x_tCmp, Sim.x_tTru, Sim.x_tNot, Sim.x_tAnd, Sim.x_tOr, Sim.x_asB, Sim.x_sl, Sim.x_oNone, Sim.x_oSome, Sim.x_asI, Sim.x_trN, Sim.x_trB, Sim.x_trI, Sim.x_trL, Sim.x_trR, Sim.x_trT, Sim.x_add, Sim.x_sub, Sim.x_neg, Sim.x_lt, Sim.x_le, Sim.x_gt, Sim.x_ge, Sim.x_abs, Sim.x_max2, Sim.x_min2, Sim.x_intI, Sim.x_intB, Sim.x_eqI, Sim.x_neI, Sim.x_eqS, Sim.x_neS, Sim.x_lst, Sim.x_tup, Sim.x_lenL, Sim.x_lenT, Sim.x_lenR, Sim.x_tupleL, Sim.x_listL, Sim.x_listT, Sim.x_slL, Sim.x_slR, Sim.x_slT, Sim.callM, Sim.arrOf, List.filterMap_cons, List.filterMap_nil, List.getElem?_cons_zero, List.getElem?_cons_succ, List.cons_append, List.nil_append, List.append_nil, List.length_cons, List.length_nil, and_self, if_true, List.set_cons_zero, List.set_cons_succ, Bool.false_eq_true, if_false, Nat.reduceAdd, Nat.reduceSub, List.map_cons, List.map_nil, List.replicate_succ, List.replicate_zero, Bool.not_true, Bool.not_false, Sim.x_sized, Nat.reduceLeDiff, Nat.zero_add, Bool.true_and, Bool.false_and, Bool.and_true, Bool.and_false, Bool.true_or, Bool.false_or, Bool.or_true, Bool.or_false, Bool.and_self, decide_true, decide_false]
  rw [sM_for, x_iRng1]
  try simp -implicitDefEqProofs only [Sim.sM_pass, Sim.sM_seq, Sim.sM_asg, Sim.sM_ret, Sim.sM_expr, Sim.sM_if, Sim.sM_par, Sim.sM_asgT, Sim.sM_set, Sim.ret_bind, Sim.bind_assoc, Sim.x_var0, Sim.x_varS, Sim.x_C, Sim.x_op, Sim.x_un, Sim.x_A, Sim.x_nil, Sim.x_cons, Sim.x_call, Sim.x_and, Sim.x_or, Sim.x_not, Sim.x_if, Sim.x_tV, Sim.x_tCmp, Sim.x_tTru, Sim.x_tNot, Sim.x_tAnd, Sim.x_tOr, Sim.x_asB, Sim.x_sl, Sim.x_oNone, Sim.x_oSome, Sim.x_asI, Sim.x_trN, Sim.x_trB, Sim.x_trI, Sim.x_trL, Sim.x_trR, Sim.x_trT, Sim.x_add, Sim.x_sub, Sim.x_neg, Sim.x_lt, Sim.x_le, Sim.x_gt, Sim.x_ge, Sim.x_abs, Sim.x_max2, Sim.x_min2, Sim.x_intI, Sim.x_intB, Sim.x_eqI, Sim.x_neI, Sim.x_eqS, Sim.x_neS, Sim.x_lst, Sim.x_tup, Sim.x_lenL, Sim.x_lenT, Sim.x_lenR, Sim.x_tupleL, Sim.x_listL, Sim.x_listT, Sim.x_slL, Sim.x_slR, Sim.x_slT, Sim.callM, Sim.arrOf, List.filterMap_cons, List.filterMap_nil, List.getElem?_cons_zero, List.getElem?_cons_succ, List.cons_append, List.nil_append, List.append_nil, List.length_cons, List.length_nil, and_self, if_true, List.set_cons_zero, List.set_cons_succ, Bool.false_eq_true, if_false, Nat.reduceAdd, Nat.reduceSub, List.map_cons, List.map_nil, List.replicate_succ, List.replicate_zero, Bool.not_true, Bool.not_false, Sim.x_sized, Nat.reduceLeDiff, Nat.zero_add, Bool.true_and, Bool.false_and, Bool.and_true, Bool.and_false, Bool.true_or, Bool.false_or, Bool.or_true, Bool.or_false, Bool.and_self, decide_true, decide_false]
  refine T.rn hk hB (r_draw (many := 3) (by decide) (by decide)) fun v ⟨d, e, d0, d1⟩ => ?_
  subst e
  try simp -implicitDefEqProofs only [Sim.sM_pass, Sim.sM_seq, Sim.sM_asg, Sim.sM_ret, Sim.sM_expr, Sim.sM_if, Sim.sM_par, Sim.sM_asgT, Sim.sM_set, Sim.ret_bind, Sim.bind_assoc, Sim.x_var0, Sim.x_varS, Sim.x_C, Sim.x_op, Sim.x_un, Sim.x_A, Sim.x_nil, Sim.x_cons, Sim.x_call, Sim.x_and, Sim.x_or, Sim.x_not, Sim.x_if, Sim.x_tV, Sim.x_tCmp, Sim.x_tTru, Sim.x_tNot, Sim.x_tAnd, Sim.x_tOr, Sim.x_asB, Sim.x_sl, Sim.x_oNone, Sim.x_oSome, Sim.x_asI, Sim.x_trN, Sim.x_trB, Sim.x_trI, Sim.x_trL, Sim.x_trR, Sim.x_trT, Sim.x_add, Sim.x_sub, Sim.x_neg, Sim.x_lt, Sim.x_le, Sim.x_gt, Sim.x_ge, Sim.x_abs, Sim.x_max2, Sim.x_min2, Sim.x_intI, Sim.x_intB, Sim.x_eqI, Sim.x_neI, Sim.x_eqS, Sim.x_neS, Sim.x_lst, Sim.x_tup, Sim.x_lenL, Sim.x_lenT, Sim.x_lenR, Sim.x_tupleL, Sim.x_listL, Sim.x_listT, Sim.x_slL, Sim.x_slR, Sim.x_slT, Sim.callM, Sim.arrOf, List.filterMap_cons, List.filterMap_nil, List.getElem?_cons_zero, List.getElem?_cons_succ, List.cons_append, List.nil_append, List.append_nil, List.length_cons, List.length_nil, and_self, if_true, List.set_cons_zero, List.set_cons_succ, Bool.false_eq_true, if_false, Nat.reduceAdd, Nat.reduceSub, List.map_cons, List.map_nil, List.replicate_succ, List.replicate_zero, Bool.not_true, Bool.not_false, Sim.x_sized, Nat.reduceLeDiff, Nat.zero_add, Bool.true_and, Bool.false_and, Bool.and_true, Bool.and_false, Bool.true_or, Bool.false_or, Bool.or_true, Bool.or_false, Bool.and_self, decide_true, decide_false]
  rw [x_rng1 (by omega)]
  try simp -implicitDefEqProofs only [Sim.sM_pass, Sim.sM_seq, Sim.sM_asg, Sim.sM_ret, Sim.sM_expr, Sim.sM_if, Sim.sM_par, Sim.sM_asgT, Sim.sM_set, Sim.ret_bind, Sim.bind_assoc, Sim.x_var0, Sim.x_varS, Sim.x_C, Sim.x_op, Sim.x_un, Sim.x_A, Sim.x_nil, Sim.x_cons, Sim.x_call, Sim.x_and, Sim.x_or, Sim.x_not, Sim.x_if, Sim.x_tV, Sim.x_tCmp, Sim.x_tTru, Sim.x_tNot, Sim.x_tAnd, Sim.x_tOr, Sim.x_asB, Sim.x_sl, Sim.x_oNone, Sim.x_oSome, Sim.x_asI, Sim.x_trN, Sim.x_trB, Sim.x_trI, Sim.x_trL, Sim.x_trR, Sim.x_trT, Sim.x_add, Sim.x_sub, Sim.x_neg, Sim.x_lt, Sim.x_le, Sim.x_gt, Sim.x_ge, Sim.x_abs, Sim.x_max2, Sim.x_min2, Sim.x_intI, Sim.x_intB, Sim.x_eqI, Sim.x_neI, Sim.x_eqS, Sim.x_neS, Sim.x_lst, Sim.x_tup, Sim.x_lenL, Sim.x_lenT, Sim.x_lenR, Sim.x_tupleL, Sim.x_listL, Sim.x_listT, Sim.x_slL, Sim.x_slR, Sim.x_slT, Sim.callM, Sim.arrOf, List.filterMap_cons, List.filterMap_nil, List.getElem?_cons_zero, List.getElem?_cons_succ, List.cons_append, List.nil_append, List.append_nil, List.length_cons, List.length_nil, and_self, if_true, List.set_cons_zero, List.set_cons_succ, Bool.false_eq_true, if_false, Nat.reduceAdd, Nat.reduceSub, List.map_cons, List.map_nil, List.replicate_succ, List.replicate_zero, Bool.not_true, Bool.not_false, Sim.x_sized, Nat.reduceLeDiff, Nat.zero_add, Bool.true_and, Bool.false_and, Bool.and_true, Bool.and_false, Bool.true_or, Bool.false_or, Bool.or_true, Bool.or_false, Bool.and_self, decide_true, decide_false]
  refine T.bind (T.forR (X := List (List Int)) (n := (1 + d).toNat) (item := fun i => .int (0 + (i : Nat))) (x0 := [])
    (E := fun i ws ev => (∃ o4 o5 o6 o7 o8, ev = [some (.cl k), some (.int letters), some (lI row), some (.cl base.length), o4, o5, o6, o7, o8]) ∧ (∀ w ∈ ws, Wd4 w) ∧ ws.Nodup ∧ ws.length ≤ i ∧ (0 < i → 1 ≤ ws.length))
    (S := fun i ws st => Vt cells k base B (27 - 9 * i) [.lst (ws.map tI)] st) (R := fun _ _ => False)
    (by omega) ⟨⟨_, _, _, _, _, rfl⟩, (fun w hw => by cases hw), List.nodup_nil, Nat.le_refl _, fun h => absurd h (Nat.lt_irrefl _)⟩ (fun i x st _ _ => rfl)
    fun i ws ev hi ⟨⟨o4, o5, o6, o7, o8, he⟩, h4, hn, hlen, _⟩ => ⟨_, x_put1, ?_⟩) fun r => ?_
  · subst he
    refine (body_word (N := 27 - 9 * i) hk hB (by omega) hrl (fun i hi => by have := hr4 i hi; omega) h4 hn (by omega)).imp (fun _ h => h) fun r st h => ?_
    obtain ⟨ws', ⟨p4, p5, p6, p7, p8, rfl⟩, hv, a1, a2, a3, a4⟩ := h
    exact ⟨ws', ⟨⟨_, _, _, _, _, rfl⟩, a1, a2, by omega, fun _ => a4⟩, by rw [show 27 - 9 * (i + 1) = 27 - 9 * i - 9 by omega]; exact hv⟩
  · cases r with
    | inr v => exact fun st h => h.elim
    | inl ev =>
      refine T.ex fun ws => T.pre fun ⟨⟨o4, o5, o6, o7, o8, he⟩, h4, hn, hlen, hpos⟩ => ?_
      subst he
      try simp -implicitDefEqProofs only [Sim.sM_pass, Sim.sM_seq, Sim.sM_asg, Sim.sM_ret, Sim.sM_expr, Sim.sM_if, Sim.sM_par, Sim.sM_asgT, Sim.sM_set, Sim.ret_bind, Sim.bind_assoc, Sim.x_var0, Sim.x_varS, Sim.x_C, Sim.x_op, Sim.x_un, Sim.x_A, Sim.x_nil, Sim.x_cons, Sim.x_call, Sim.x_and, Sim.x_or, Sim.x_not, Sim.x_if, Sim.x_tV, Sim.x_tCmp, Sim.x_tTru, Sim.x_tNot, Sim.x_tAnd, Sim.x_tOr, Sim.x_asB, Sim.x_sl, Sim.x_oNone, Sim.x_oSome, Sim.x_asI, Sim.x_trN, Sim.x_trB, Sim.x_trI, Sim.x_trL, Sim.x_trR, Sim.x_trT, Sim.x_add, Sim.x_sub, Sim.x_neg, Sim.x_lt, Sim.x_le, Sim.x_gt, Sim.x_ge, Sim.x_abs, Sim.x_max2, Sim.x_min2, Sim.x_intI, Sim.x_intB, Sim.x_eqI, Sim.x_neI, Sim.x_eqS, Sim.x_neS, Sim.x_lst, Sim.x_tup, Sim.x_lenL, Sim.x_lenT, Sim.x_lenR, Sim.x_tupleL, Sim.x_listL, Sim.x_listT, Sim.x_slL, Sim.x_slR, Sim.x_slT, Sim.callM, Sim.arrOf, List.filterMap_cons, List.filterMap_nil, List.getElem?_cons_zero, List.getElem?_cons_succ, List.cons_append, List.nil_append, List.append_nil, List.length_cons, List.length_nil, and_self, if_true, List.set_cons_zero, List.set_cons_succ, Bool.false_eq_true, if_false, Nat.reduceAdd, Nat.reduceSub, List.map_cons, List.map_nil, List.replicate_succ, List.replicate_zero, Bool.not_true, Bool.not_false, Sim.x_sized, Nat.reduceLeDiff, Nat.zero_add, Bool.true_and, Bool.false_and, Bool.and_true, Bool.and_false, Bool.true_or, Bool.false_or, Bool.or_true, Bool.or_false, Bool.and_self, decide_true, decide_false]
      refine T.ret fun st hst => ⟨_, hst.less (Nat.zero_le _), _, rfl, lW ws, .inr ⟨0, ws.map tI, rfl, rfl, ?_, rfl⟩, ws, rfl, ?_⟩
      · have := low_lW ws (n := 0)
        simpa only [D.low] using this
      · exact ⟨⟨hpos (by omega), by omega⟩, hn, fun w hw => (h4 w hw).1, fun w hw => (h4 w hw).2.1, fun w hw => (h4 w hw).2.2⟩
end
noncomputable def law_s0 : MS := (sAsg 1 (eCall 1 0 1 [] [0] m__law_pen (aCons (eVar 0) aNil) aNil))
noncomputable def law_s1 : MS := (sAsg 2 (eCall 2 0 2 [] [0, 1] m__law_pick (aCons (eVar 1) (aCons (eA gLst (aCons (eC (.int 1)) (aCons (eC (.int 2)) (aCons (eC (.int 2)) (aCons (eC (.int 3)) (aCons (eC (.int 4)) aNil)))))) aNil)) aNil))
noncomputable def law_s2 : MS := (sAsg 3 (eCall 2 0 2 [] [0, 1] m__law_drawn (aCons (eVar 1) (aCons (eVar 2) aNil)) aNil))
noncomputable def law_s3 : MS := (sAsg 4 (compG exitAll (iSeq (eVar 3)) (.nm 5) tYesM (eA gListM (aCons (eVar 5) aNil)) [5]))
noncomputable def law_s4 : MS := (sAsgT (.tp [(.nm 6), (.nm 7), (.nm 8)]) (eA gTup (aCons (eCall 1 0 1 [] [0] m__law_bar (aCons (eVar 4) aNil) aNil) (aCons (eA gTup aNil) (aCons (eA gTup aNil) aNil)))))
noncomputable def law_s5b : MS := (sExpr (eMtL gAppend (eVar 5) (aCons (eC (.int 0)) aNil)))
noncomputable def law_s5 : MS := (sFor (iSeq (eVar 4)) (.nm 5) law_s5b)
noncomputable def law_s6 : MS := (Sim.sIf (Sim.tNot (tTru (eCall 2 0 2 [] [0, 1] m__law_bar_right (aCons (eVar 6) (aCons (eVar 3) aNil)) aNil))) (sRet (eC (.bl false))) sPass)
noncomputable def law_s7b : MS := (sSeq (sAsg 10 (eCall 4 0 4 [] [0, 1, 2, 3] m__law_next (aCons (eVar 1) (aCons (eVar 3) (aCons (eVar 8) (aCons (eVar 2) aNil)))) aNil)) (sSeq (sAsg 11 (eA gList (aCons (eVar 7) aNil))) (sSeq (sAsg 12 (eCall 2 0 2 [] [0, 1] m__law_far (aCons (eVar 3) (aCons (eOp gAdd (eVar 7) (eA gTup (aCons (eVar 10) aNil))) aNil)) aNil)) (sSeq (Sim.sIf (Sim.tOr (Sim.tNot (tTru (eCall 2 0 2 [] [0, 1] m__law_plain (aCons (eCall 3 0 3 [] [0, 1, 2] m_far (aCons (eVar 6) (aCons (eVar 8) (aCons (eVar 10) aNil))) aNil) (aCons (eVar 12) aNil)) aNil))) (Sim.tNot (tTru (eCall 2 0 2 [] [0, 1] m__law_plain (aCons (eCall 3 0 3 [] [0, 1, 2] m_far (aCons (eVar 6) (aCons (eVar 11) (aCons (eVar 10) aNil))) aNil) (aCons (eVar 12) aNil)) aNil)))) (sRet (eC (.bl false))) sPass) (sSeq (Sim.sIf (Sim.tCmp gNe (eVar 11) (eA gList (aCons (eVar 7) aNil))) (sRet (eC (.bl false))) sPass) (sSeq (sAsgT (.tp [(.nm 7), (.nm 8)]) (eA gTup (aCons (eOp gAdd (eVar 7) (eA gTup (aCons (eVar 10) aNil))) (aCons (eVar 12) aNil)))) (sSeq (sAsg 13 (eA gAny (aCons (eComp (iSeq (eVar 3)) (.nm 5) tYesM (eOp gEq (eSl (eVar 7) (oSome (eUn gNeg (eA gLen (aCons (eVar 5) aNil)))) oNone) (eVar 5)) [5]) aNil))) (Sim.sIf (Sim.tOr (Sim.tNot (tTru (eCall 2 0 2 [] [0, 1] m__law_truth (aCons (eCall 2 0 2 [] [0, 1] m_is_broken (aCons (eVar 6) (aCons (eVar 8) aNil)) aNil) (aCons (eVar 13) aNil)) aNil))) (Sim.tNot (tTru (eCall 2 0 2 [] [0, 1] m__law_truth (aCons (eCall 0 2 2 [] [0, 1] m_is_broken aNil (aCons (eVar 6) (aCons (eVar 7) aNil))) (aCons (eVar 13) aNil)) aNil)))) (sRet (eC (.bl false))) sPass))))))))
noncomputable def law_s7 : MS := (sFor (iRng1 (aCons (eC (.int 60)) aNil)) (.nm 9) law_s7b)
noncomputable def law_s8 : MS := (sAsgT (.tp [(.nm 14), (.nm 10)]) (eA gTup (aCons (eSl (eOp gMulS (eVar 7) (eC (.int 17))) (oSome (eUn gNeg (eC (.int 1000)))) oNone) (aCons (eCall 2 0 2 [] [0, 1] m__law_draw (aCons (eVar 1) (aCons (eC (.int 4)) aNil)) aNil) aNil))))
noncomputable def law_s9 : MS := (sAsg 13 (eA gAny (aCons (eComp (iSeq (eVar 3)) (.nm 5) tYesM (eOp gEq (eSl (eVar 14) (oSome (eUn gNeg (eA gLen (aCons (eVar 5) aNil)))) oNone) (eVar 5)) [5]) aNil)))
noncomputable def law_s10 : MS := (Sim.sIf (Sim.tOr (Sim.tNot (tTru (eCall 2 0 2 [] [0, 1] m__law_truth (aCons (eCall 2 0 2 [] [0, 1] m_is_broken (aCons (eVar 6) (aCons (eVar 14) aNil)) aNil) (aCons (eVar 13) aNil)) aNil))) (Sim.tNot (tTru (eCall 2 0 2 [] [0, 1] m__law_truth (aCons (eCall 2 0 2 [] [0, 1] m_is_broken (aCons (eVar 6) (aCons (eA gLst aNil) aNil)) aNil) (aCons (eC (.bl false)) aNil)) aNil)))) (sRet (eC (.bl false))) sPass)
noncomputable def law_s11 : MS := (sRet (eCall 2 0 2 [] [0, 1] m__law_plain (aCons (eCall 0 3 3 [] [0, 1, 2] m_far aNil (aCons (eVar 6) (aCons (eVar 14) (aCons (eVar 10) aNil)))) (aCons (eCall 2 0 2 [] [0, 1] m__law_far (aCons (eVar 3) (aCons (eOp gAdd (eVar 14) (eA gTup (aCons (eVar 10) aNil))) aNil)) aNil) aNil)) aNil))
theorem law_sparts : d_law = (sSeq law_s0 (sSeq law_s1 (sSeq law_s2 (sSeq law_s3 (sSeq law_s4 (sSeq law_s5 (sSeq law_s6 (sSeq law_s7 (sSeq law_s8 (sSeq law_s9 (sSeq law_s10 law_s11))))))))))) := rfl

theorem m_pen (ns : List Int) (h : ns.length ≤ 63) : m__law_pen [.rl (ns.map D.int)] [] = .ok (.cl 0) [ves (ns.take 63) 0 0] := by
  have hc : Sim.cutD (ns.map D.int) none (some 63) = (ns.take 63).map D.int := cut_take 63
  have hb : sM d__law_pen [some (.rl (ns.map D.int))] [] = .ok (.inr (.cl 0)) [ves (ns.take 63) 0 0] := by
    unfold d__law_pen
    try simp -implicitDefEqProofs only [Sim.sM_pass, Sim.sM_seq, Sim.sM_asg, Sim.sM_ret, Sim.sM_expr, Sim.sM_if, Sim.sM_par, Sim.sM_asgT, Sim.sM_set, Sim.ret_bind, Sim.bind_assoc, Sim.x_var0, Sim.x_varS, Sim.x_C, Sim.x_op, Sim.x_un, Sim.x_A, Sim.x_nil, Sim.x_cons, Sim.x_call, Sim.x_and, Sim.x_or, Sim.x_not, Sim.x_if, Sim.x_tV, Sim.x_tCmp, Sim.x_tTru, Sim.x_tNot, Sim.x_tAnd, Sim.x_tOr, Sim.x_asB, Sim.x_sl, Sim.x_oNone, Sim.x_oSome, Sim.x_asI, Sim.x_trN, Sim.x_trB, Sim.x_trI, Sim.x_trL, Sim.x_trR, Sim.x_trT, Sim.x_add, Sim.x_sub, Sim.x_neg, Sim.x_lt, Sim.x_le, Sim.x_gt, Sim.x_ge, Sim.x_abs, Sim.x_max2, Sim.x_min2, Sim.x_intI, Sim.x_intB, Sim.x_eqI, Sim.x_neI, Sim.x_eqS, Sim.x_neS, Sim.x_lst, Sim.x_tup, Sim.x_lenL, Sim.x_lenT, Sim.x_lenR, Sim.x_tupleL, Sim.x_listL, Sim.x_listT, Sim.x_slL, Sim.x_slR, Sim.x_slT, Sim.callM, Sim.arrOf, List.filterMap_cons, List.filterMap_nil, List.getElem?_cons_zero, List.getElem?_cons_succ, List.cons_append, List.nil_append, List.append_nil, List.length_cons, List.length_nil, and_self, if_true, List.set_cons_zero, List.set_cons_succ, Bool.false_eq_true, if_false, Nat.reduceAdd, Nat.reduceSub, List.map_cons, List.map_nil, List.replicate_succ, List.replicate_zero, Bool.not_true, Bool.not_false, Sim.x_sized, Nat.reduceLeDiff, Nat.zero_add, Bool.true_and, Bool.false_and, Bool.and_true, Bool.and_false, Bool.true_or, Bool.false_or, Bool.or_true, Bool.or_false, Bool.and_self, decide_true, decide_false]
    rw [hc]
    try simp -implicitDefEqProofs only [Sim.sM_pass, Sim.sM_seq, Sim.sM_asg, Sim.sM_ret, Sim.sM_expr, Sim.sM_if, Sim.sM_par, Sim.sM_asgT, Sim.sM_set, Sim.ret_bind, Sim.bind_assoc, Sim.x_var0, Sim.x_varS, Sim.x_C, Sim.x_op, Sim.x_un, Sim.x_A, Sim.x_nil, Sim.x_cons, Sim.x_call, Sim.x_and, Sim.x_or, Sim.x_not, Sim.x_if, Sim.x_tV, Sim.x_tCmp, Sim.x_tTru, Sim.x_tNot, Sim.x_tAnd, Sim.x_tOr, Sim.x_asB, Sim.x_sl, Sim.x_oNone, Sim.x_oSome, Sim.x_asI, Sim.x_trN, Sim.x_trB, Sim.x_trI, Sim.x_trL, Sim.x_trR, Sim.x_trT, Sim.x_add, Sim.x_sub, Sim.x_neg, Sim.x_lt, Sim.x_le, Sim.x_gt, Sim.x_ge, Sim.x_abs, Sim.x_max2, Sim.x_min2, Sim.x_intI, Sim.x_intB, Sim.x_eqI, Sim.x_neI, Sim.x_eqS, Sim.x_neS, Sim.x_lst, Sim.x_tup, Sim.x_lenL, Sim.x_lenT, Sim.x_lenR, Sim.x_tupleL, Sim.x_listL, Sim.x_listT, Sim.x_slL, Sim.x_slR, Sim.x_slT, Sim.callM, Sim.arrOf, List.filterMap_cons, List.filterMap_nil, List.getElem?_cons_zero, List.getElem?_cons_succ, List.cons_append, List.nil_append, List.append_nil, List.length_cons, List.length_nil, and_self, if_true, List.set_cons_zero, List.set_cons_succ, Bool.false_eq_true, if_false, Nat.reduceAdd, Nat.reduceSub, List.map_cons, List.map_nil, List.replicate_succ, List.replicate_zero, Bool.not_true, Bool.not_false, Sim.x_sized, Nat.reduceLeDiff, Nat.zero_add, Bool.true_and, Bool.false_and, Bool.and_true, Bool.and_false, Bool.true_or, Bool.false_or, Bool.or_true, Bool.or_false, Bool.and_self, decide_true, decide_false]
    rfl
  show mFunWith (exitK 1) 1 1 d__law_pen [.rl (ns.map D.int)] [] = _
  rw [fun_okW hb]
  show exitK 1 [] (.cl 0) _ = _
  unfold exitK
  rw [if_pos ⟨by simp [D.low], fun j hj c e => by
    have hj0 : j = 0 := by
      have : j < 1 := hj
      omega
    subst hj0
    cases e
    exact .inr ves_low⟩]
  rfl
/-- lists in cells from n on -/
def heldPs : Nat → List (List Int) → WP
  | _, [] => []
  | n, w :: r => (.cl n, w) :: heldPs (n + 1) r
theorem heldPs_snd : ∀ (n : Nat) (ws : List (List Int)), (heldPs n ws).map (·.2) = ws
  | _, [] => rfl
  | n, w :: r => by rw [heldPs, List.map_cons, heldPs_snd (n + 1) r]
theorem heldPs_len : ∀ (n : Nat) (ws : List (List Int)), (heldPs n ws).length = ws.length
  | _, [] => rfl
  | n, w :: r => by rw [heldPs, List.length_cons, heldPs_len (n + 1) r, List.length_cons]
theorem heldPs_get : ∀ (n : Nat) (ws : List (List Int)) (i : Nat), (heldPs n ws)[i]? = ws[i]?.map fun w => (.cl (n + i), w)
  | _, [], _ => rfl
  | n, w :: r, 0 => rfl
  | n, w :: r, i + 1 => by
    rw [heldPs, List.getElem?_cons_succ, List.getElem?_cons_succ, heldPs_get (n + 1) r i]
    congr 1
    funext w
    congr 2; omega
theorem compN_held {t : Tgt} {m : ME} {ev : Ev} {v : D} {st : Store} {ws : List (List Int)} (hv : seqD v = some (ws.map tI)) : ∀ (rest done : List (List Int)) (f : Nat) (acc : List D) (ext : List Cell),
    ws = done ++ rest → rest.length < f → acc.length + rest.length ≤ 1000 →
      (∀ w ∈ rest, ∃ ev1, t.put (tI w) ev = some ev1 ∧ ∀ S : Store, m ev1 S = .ok (.cl S.length) (S ++ [.lst (w.map D.int)])) →
      compN (.seq v) t tYesM m st.length ev f done.length (st ++ .lst acc :: ext) = some (st ++ .lst (acc ++ (heldPs (st.length + 1 + ext.length) rest).map (·.1)) :: (ext ++ rest.map fun w => .lst (w.map D.int)))
  | [], done, f, acc, ext, hx, hf, hz, _ => by
    obtain ⟨f, rfl⟩ : ∃ j, f = j + 1 := ⟨f - 1, by simp at hf; omega⟩
    have e : (ws.map tI)[done.length]? = none := by rw [hx]; simp
    simp only [compN, item_seqT (seq_some hv _), e, heldPs, List.map_nil, List.append_nil]
  | w :: rest, done, f, acc, ext, hx, hf, hz, h => by
    obtain ⟨f, rfl⟩ : ∃ j, f = j + 1 := ⟨f - 1, by simp at hf; omega⟩
    have e : (ws.map tI)[done.length]? = some (tI w) := by rw [hx]; simp
    obtain ⟨ev1, h1, h2⟩ := h w List.mem_cons_self
    have g : (st ++ Cell.lst acc :: ext ++ [Cell.lst (w.map D.int)])[st.length]? = some (.lst acc) := by simp
    have hS : (st ++ Cell.lst acc :: ext).length = st.length + 1 + ext.length := by simp; omega
    have hpush : pushC st.length (.cl (st ++ Cell.lst acc :: ext).length) (st ++ Cell.lst acc :: ext ++ [Cell.lst (w.map D.int)]) = some ((), st ++ .lst (acc ++ [.cl (st.length + 1 + ext.length)]) :: (ext ++ [Cell.lst (w.map D.int)])) := by
      simp only [pushC, g, hS]
      rw [if_pos (by simp at hz; omega), List.append_assoc, List.set_append_right _ _ (Nat.le_refl _)]
      simp
    have ih := compN_held (t := t) (m := m) (ev := ev) (v := v) (st := st) hv rest (done ++ [w]) f (acc ++ [.cl (st.length + 1 + ext.length)]) (ext ++ [Cell.lst (w.map D.int)]) (by rw [hx]; simp) (by simp at hf; omega) (by simp at hz ⊢; omega) fun x hx => h x (List.mem_cons_of_mem _ hx)
    have hl : (done ++ [w]).length = done.length + 1 := by simp
    rw [hl] at ih
    simp only [compN, item_seqT (seq_some hv _), e, h1, tYesM, h2, hpush, ih]
    have el : st.length + 1 + (ext ++ [Cell.lst (w.map D.int)]).length = st.length + 1 + ext.length + 1 := by simp; omega
    rw [el]
    simp only [heldPs, List.map_cons, List.append_assoc, List.singleton_append]
theorem iSeqM {m : ME} {ev : Ev} {v : D} {xs : List D} {st : Store} (hm : m ev = M.ret v) (h : seqV st v = some xs) : iSeq m ev st = .ok (.seq v) st := by
  rw [x_iSeq, hm, ret_bind, h]
section
variable {ns : List Int} {ws : List (List Int)} {s c : D} {letters : Int}
/-- the slots ahead of the turns -/
abbrev ev0 (s : D) (letters : Int) (ws : List (List Int)) (o5 : Option D) (said how : List Int) (o9 o10 o11 o12 o13 : Option D) : Ev :=
  [some s, some (.cl 0), some (.int letters), some (lW ws), some (.cl 1), o5, some (barD ws), some (tI said), some (tI how), o9, o10, o11, o12, o13, none]
theorem t_turn {cells : List Int} {said how : List Int} {o5 o9 o10 o11 o12 o13 : Option D} (g : Good ws) (hl : 1 ≤ letters ∧ letters ≤ 4) (hs : said.length < 60) (h4 : ∀ i ∈ said, 0 ≤ i ∧ i ≤ 3) (hh : how = farF ws said) :
    Rn cells 0 (sM law_s7b (ev0 s letters ws o5 said how o9 o10 o11 o12 o13)) 2 fun r => ∃ l o9 o10 o11 o12 o13, (0 ≤ l ∧ l ≤ 3) ∧ r = .inl (ev0 s letters ws o5 (said ++ [l]) (farF ws (said ++ [l])) o9 o10 o11 o12 o13) := by
  have few := g.few
  subst hh
  have hfl := farF_len g.six said
  have hf4 : ∀ i ∈ farF ws said, 0 ≤ i ∧ i ≤ 3 := fun i hi => h4 i (farF_mem hi)
  unfold law_s7b
  try simp -implicitDefEqProofs only [Sim.sM_pass, Sim.sM_seq, Sim.sM_asg, Sim.sM_ret, Sim.sM_expr, Sim.sM_if, Sim.sM_par, Sim.sM_asgT, Sim.sM_set, Sim.ret_bind, Sim.bind_assoc, Sim.x_var0, Sim.x_varS, Sim.x_C, Sim.x_op, Sim.x_un, Sim.x_A, Sim.x_nil, Sim.x_cons, Sim.x_call, Sim.x_and, Sim.x_or, Sim.x_not, Sim.x_if, Sim.x_tV, Sim.x_tCmp, Sim.x_tTru, Sim.x_tNot, Sim.x_tAnd, Sim.x_tOr, Sim.x_asB, Sim.x_sl, Sim.x_oNone, Sim.x_oSome, Sim.x_asI, Sim.x_trN, Sim.x_trB, Sim.x_trI, Sim.x_trL, Sim.x_trR, Sim.x_trT, Sim.x_add, Sim.x_sub, Sim.x_neg, Sim.x_lt, Sim.x_le, Sim.x_gt, Sim.x_ge, Sim.x_abs, Sim.x_max2, Sim.x_min2, Sim.x_intI, Sim.x_intB, Sim.x_eqI, Sim.x_neI, Sim.x_eqS, Sim.x_neS, Sim.x_lst, Sim.x_tup, Sim.x_lenL, Sim.x_lenT, Sim.x_lenR, Sim.x_tupleL, Sim.x_listL, Sim.x_listT, Sim.x_slL, Sim.x_slR, Sim.x_slT, Sim.callM, Sim.arrOf, List.filterMap_cons, List.filterMap_nil, List.getElem?_cons_zero, List.getElem?_cons_succ, List.cons_append, List.nil_append, List.append_nil, List.length_cons, List.length_nil, and_self, if_true, List.set_cons_zero, List.set_cons_succ, Bool.false_eq_true, if_false, Nat.reduceAdd, Nat.reduceSub, List.map_cons, List.map_nil, List.replicate_succ, List.replicate_zero, Bool.not_true, Bool.not_false, Sim.x_sized, Nat.reduceLeDiff, Nat.zero_add, Bool.true_and, Bool.false_and, Bool.and_true, Bool.and_false, Bool.true_or, Bool.false_or, Bool.or_true, Bool.or_false, Bool.and_self, decide_true, decide_false]
  refine Rn.step (r_next g hl) fun v ⟨l, e, l0⟩ => ?_
  subst e
  try simp -implicitDefEqProofs only [Sim.sM_pass, Sim.sM_seq, Sim.sM_asg, Sim.sM_ret, Sim.sM_expr, Sim.sM_if, Sim.sM_par, Sim.sM_asgT, Sim.sM_set, Sim.ret_bind, Sim.bind_assoc, Sim.x_var0, Sim.x_varS, Sim.x_C, Sim.x_op, Sim.x_un, Sim.x_A, Sim.x_nil, Sim.x_cons, Sim.x_call, Sim.x_and, Sim.x_or, Sim.x_not, Sim.x_if, Sim.x_tV, Sim.x_tCmp, Sim.x_tTru, Sim.x_tNot, Sim.x_tAnd, Sim.x_tOr, Sim.x_asB, Sim.x_sl, Sim.x_oNone, Sim.x_oSome, Sim.x_asI, Sim.x_trN, Sim.x_trB, Sim.x_trI, Sim.x_trL, Sim.x_trR, Sim.x_trT, Sim.x_add, Sim.x_sub, Sim.x_neg, Sim.x_lt, Sim.x_le, Sim.x_gt, Sim.x_ge, Sim.x_abs, Sim.x_max2, Sim.x_min2, Sim.x_intI, Sim.x_intB, Sim.x_eqI, Sim.x_neI, Sim.x_eqS, Sim.x_neS, Sim.x_lst, Sim.x_tup, Sim.x_lenL, Sim.x_lenT, Sim.x_lenR, Sim.x_tupleL, Sim.x_listL, Sim.x_listT, Sim.x_slL, Sim.x_slR, Sim.x_slT, Sim.callM, Sim.arrOf, List.filterMap_cons, List.filterMap_nil, List.getElem?_cons_zero, List.getElem?_cons_succ, List.cons_append, List.nil_append, List.append_nil, List.length_cons, List.length_nil, and_self, if_true, List.set_cons_zero, List.set_cons_succ, Bool.false_eq_true, if_false, Nat.reduceAdd, Nat.reduceSub, List.map_cons, List.map_nil, List.replicate_succ, List.replicate_zero, Bool.not_true, Bool.not_false, Sim.x_sized, Nat.reduceLeDiff, Nat.zero_add, Bool.true_and, Bool.false_and, Bool.and_true, Bool.and_false, Bool.true_or, Bool.false_or, Bool.or_true, Bool.or_false, Bool.and_self, decide_true, decide_false]
  have hs4 : ∀ i ∈ said ++ [l], 0 ≤ i ∧ i ≤ 3 := fun i hi => (List.mem_append.mp hi).elim (h4 i) fun h => by rw [List.mem_singleton.mp h]; exact l0
  have e1 : said.map D.int ++ [D.int l] = (said ++ [l]).map D.int := by rw [List.map_append]; rfl
  rw [x_addT (by simp; omega), e1]
  have hsl : (said ++ [l]).length ≤ 1000 := by rw [List.length_append, List.length_singleton]; omega
  have hfl2 := farF_len g.six (said ++ [l])
  have hf42 : ∀ i ∈ farF ws (said ++ [l]), 0 ≤ i ∧ i ≤ 3 := fun i hi => hs4 i (farF_mem hi)
  have q1 : m_far [barD ws, tI (farF ws said), .int l] = M.ret (tI (farF ws (said ++ [l]))) := by rw [e_far g (d := tI (farF ws said)) (y := farF ws said) rfl (low_tI _) (by omega) hf4 l0, farF_step]
  have q2 : m_far [barD ws, lI said, .int l] = M.ret (tI (farF ws (said ++ [l]))) := e_far g rfl (low_lI _) (by omega) h4 l0
  have q3 : m__law_far [lW ws, tI (said ++ [l])] = M.ret (tI (farF ws (said ++ [l]))) := e_law_far few.2 g.six (by omega)
  have q4 : m__law_plain [tI (farF ws (said ++ [l])), tI (farF ws (said ++ [l]))] = M.ret (.bl true) := e_plain (by omega)
  have q5 : M.of (gNe (lI said) (lI said)) = M.ret (.bl false) := by rw [x_neLI]; simp
  have q6 : m_is_broken [barD ws, tI (farF ws (said ++ [l]))] = M.ret (.bl (breaks ws (said ++ [l]))) := by rw [e_is_broken g (y := farF ws (said ++ [l])) rfl (low_tI _) (by omega) hf42, breaks_farF g.ne]
  have q7 : m_is_broken [barD ws, tI (said ++ [l])] = M.ret (.bl (breaks ws (said ++ [l]))) := e_is_broken g rfl (low_tI _) hsl hs4
  try simp -implicitDefEqProofs only [q1, q2, q3, q4, q5, Tgt.put, Tgt.puts, Sim.sM_pass, Sim.sM_seq, Sim.sM_asg, Sim.sM_ret, Sim.sM_expr, Sim.sM_if, Sim.sM_par, Sim.sM_asgT, Sim.sM_set, Sim.ret_bind, Sim.bind_assoc, Sim.x_var0, Sim.x_varS, Sim.x_C, Sim.x_op, Sim.x_un, Sim.x_A, Sim.x_nil, Sim.x_cons, Sim.x_call, Sim.x_and, Sim.x_or, Sim.x_not, Sim.x_if, Sim.x_tV, Sim.x_tCmp, Sim.x_tTru, Sim.x_tNot, Sim.x_tAnd, Sim.x_tOr, Sim.x_asB, Sim.x_sl, Sim.x_oNone, Sim.x_oSome, Sim.x_asI, Sim.x_trN, Sim.x_trB, Sim.x_trI, Sim.x_trL, Sim.x_trR, Sim.x_trT, Sim.x_add, Sim.x_sub, Sim.x_neg, Sim.x_lt, Sim.x_le, Sim.x_gt, Sim.x_ge, Sim.x_abs, Sim.x_max2, Sim.x_min2, Sim.x_intI, Sim.x_intB, Sim.x_eqI, Sim.x_neI, Sim.x_eqS, Sim.x_neS, Sim.x_lst, Sim.x_tup, Sim.x_lenL, Sim.x_lenT, Sim.x_lenR, Sim.x_tupleL, Sim.x_listL, Sim.x_listT, Sim.x_slL, Sim.x_slR, Sim.x_slT, Sim.callM, Sim.arrOf, List.filterMap_cons, List.filterMap_nil, List.getElem?_cons_zero, List.getElem?_cons_succ, List.cons_append, List.nil_append, List.append_nil, List.length_cons, List.length_nil, and_self, if_true, List.set_cons_zero, List.set_cons_succ, Bool.false_eq_true, if_false, Nat.reduceAdd, Nat.reduceSub, List.map_cons, List.map_nil, List.replicate_succ, List.replicate_zero, Bool.not_true, Bool.not_false, Sim.x_sized, Nat.reduceLeDiff, Nat.zero_add, Bool.true_and, Bool.false_and, Bool.and_true, Bool.and_false, Bool.true_or, Bool.false_or, Bool.or_true, Bool.or_false, Bool.and_self, decide_true, decide_false]
  rw [x_addT (by simp; omega), e1]
  try simp -implicitDefEqProofs only [q1, q2, q3, q4, q5, Tgt.put, Tgt.puts, Sim.sM_pass, Sim.sM_seq, Sim.sM_asg, Sim.sM_ret, Sim.sM_expr, Sim.sM_if, Sim.sM_par, Sim.sM_asgT, Sim.sM_set, Sim.ret_bind, Sim.bind_assoc, Sim.x_var0, Sim.x_varS, Sim.x_C, Sim.x_op, Sim.x_un, Sim.x_A, Sim.x_nil, Sim.x_cons, Sim.x_call, Sim.x_and, Sim.x_or, Sim.x_not, Sim.x_if, Sim.x_tV, Sim.x_tCmp, Sim.x_tTru, Sim.x_tNot, Sim.x_tAnd, Sim.x_tOr, Sim.x_asB, Sim.x_sl, Sim.x_oNone, Sim.x_oSome, Sim.x_asI, Sim.x_trN, Sim.x_trB, Sim.x_trI, Sim.x_trL, Sim.x_trR, Sim.x_trT, Sim.x_add, Sim.x_sub, Sim.x_neg, Sim.x_lt, Sim.x_le, Sim.x_gt, Sim.x_ge, Sim.x_abs, Sim.x_max2, Sim.x_min2, Sim.x_intI, Sim.x_intB, Sim.x_eqI, Sim.x_neI, Sim.x_eqS, Sim.x_neS, Sim.x_lst, Sim.x_tup, Sim.x_lenL, Sim.x_lenT, Sim.x_lenR, Sim.x_tupleL, Sim.x_listL, Sim.x_listT, Sim.x_slL, Sim.x_slR, Sim.x_slT, Sim.callM, Sim.arrOf, List.filterMap_cons, List.filterMap_nil, List.getElem?_cons_zero, List.getElem?_cons_succ, List.cons_append, List.nil_append, List.append_nil, List.length_cons, List.length_nil, and_self, if_true, List.set_cons_zero, List.set_cons_succ, Bool.false_eq_true, if_false, Nat.reduceAdd, Nat.reduceSub, List.map_cons, List.map_nil, List.replicate_succ, List.replicate_zero, Bool.not_true, Bool.not_false, Sim.x_sized, Nat.reduceLeDiff, Nat.zero_add, Bool.true_and, Bool.false_and, Bool.and_true, Bool.and_false, Bool.true_or, Bool.false_or, Bool.or_true, Bool.or_false, Bool.and_self, decide_true, decide_false]
  rw [any_retB (wk_seq (v := lW ws) (g := tI) (xs := ws) (by try simp -implicitDefEqProofs only [Sim.sM_pass, Sim.sM_seq, Sim.sM_asg, Sim.sM_ret, Sim.sM_expr, Sim.sM_if, Sim.sM_par, Sim.sM_asgT, Sim.sM_set, Sim.ret_bind, Sim.bind_assoc, Sim.x_var0, Sim.x_varS, Sim.x_C, Sim.x_op, Sim.x_un, Sim.x_A, Sim.x_nil, Sim.x_cons, Sim.x_call, Sim.x_and, Sim.x_or, Sim.x_not, Sim.x_if, Sim.x_tV, Sim.x_tCmp, Sim.x_tTru, Sim.x_tNot, Sim.x_tAnd, Sim.x_tOr, Sim.x_asB, Sim.x_sl, Sim.x_oNone, Sim.x_oSome, Sim.x_asI, Sim.x_trN, Sim.x_trB, Sim.x_trI, Sim.x_trL, Sim.x_trR, Sim.x_trT, Sim.x_add, Sim.x_sub, Sim.x_neg, Sim.x_lt, Sim.x_le, Sim.x_gt, Sim.x_ge, Sim.x_abs, Sim.x_max2, Sim.x_min2, Sim.x_intI, Sim.x_intB, Sim.x_eqI, Sim.x_neI, Sim.x_eqS, Sim.x_neS, Sim.x_lst, Sim.x_tup, Sim.x_lenL, Sim.x_lenT, Sim.x_lenR, Sim.x_tupleL, Sim.x_listL, Sim.x_listT, Sim.x_slL, Sim.x_slR, Sim.x_slT, Sim.callM, Sim.arrOf, List.filterMap_cons, List.filterMap_nil, List.getElem?_cons_zero, List.getElem?_cons_succ, List.cons_append, List.nil_append, List.append_nil, List.length_cons, List.length_nil, and_self, if_true, List.set_cons_zero, List.set_cons_succ, Bool.false_eq_true, if_false, Nat.reduceAdd, Nat.reduceSub, List.map_cons, List.map_nil, List.replicate_succ, List.replicate_zero, Bool.not_true, Bool.not_false, Sim.x_sized, Nat.reduceLeDiff, Nat.zero_add, Bool.true_and, Bool.false_and, Bool.and_true, Bool.and_false, Bool.true_or, Bool.false_or, Bool.or_true, Bool.or_false, Bool.and_self, decide_true, decide_false]) rfl) (fun w => decide ((said ++ [l]).drop ((said ++ [l]).length - w.length) = w)) (by omega) fun w hw => ⟨_, x_put1, by
    try simp -implicitDefEqProofs only [Sim.wipeE, Sim.sM_pass, Sim.sM_seq, Sim.sM_asg, Sim.sM_ret, Sim.sM_expr, Sim.sM_if, Sim.sM_par, Sim.sM_asgT, Sim.sM_set, Sim.ret_bind, Sim.bind_assoc, Sim.x_var0, Sim.x_varS, Sim.x_C, Sim.x_op, Sim.x_un, Sim.x_A, Sim.x_nil, Sim.x_cons, Sim.x_call, Sim.x_and, Sim.x_or, Sim.x_not, Sim.x_if, Sim.x_tV, Sim.x_tCmp, Sim.x_tTru, Sim.x_tNot, Sim.x_tAnd, Sim.x_tOr, Sim.x_asB, Sim.x_sl, Sim.x_oNone, Sim.x_oSome, Sim.x_asI, Sim.x_trN, Sim.x_trB, Sim.x_trI, Sim.x_trL, Sim.x_trR, Sim.x_trT, Sim.x_add, Sim.x_sub, Sim.x_neg, Sim.x_lt, Sim.x_le, Sim.x_gt, Sim.x_ge, Sim.x_abs, Sim.x_max2, Sim.x_min2, Sim.x_intI, Sim.x_intB, Sim.x_eqI, Sim.x_neI, Sim.x_eqS, Sim.x_neS, Sim.x_lst, Sim.x_tup, Sim.x_lenL, Sim.x_lenT, Sim.x_lenR, Sim.x_tupleL, Sim.x_listL, Sim.x_listT, Sim.x_slL, Sim.x_slR, Sim.x_slT, Sim.callM, Sim.arrOf, List.filterMap_cons, List.filterMap_nil, List.getElem?_cons_zero, List.getElem?_cons_succ, List.cons_append, List.nil_append, List.append_nil, List.length_cons, List.length_nil, and_self, if_true, List.set_cons_zero, List.set_cons_succ, Bool.false_eq_true, if_false, Nat.reduceAdd, Nat.reduceSub, List.map_cons, List.map_nil, List.replicate_succ, List.replicate_zero, Bool.not_true, Bool.not_false, Sim.x_sized, Nat.reduceLeDiff, Nat.zero_add, Bool.true_and, Bool.false_and, Bool.and_true, Bool.and_false, Bool.true_or, Bool.false_or, Bool.or_true, Bool.or_false, Bool.and_self, decide_true, decide_false]
    have hp : 0 < w.length := List.length_pos_iff.mpr (g.ne w hw)
    rw [List.length_map, cut_last _ hp]
    exact x_eqTI _ _⟩]
  have q8 : (ws.any fun w => decide ((said ++ [l]).drop ((said ++ [l]).length - w.length) = w)) = breaks ws (said ++ [l]) := rfl
  rw [q8]
  try simp -implicitDefEqProofs only [q6, q7, e_truth, Sim.sM_pass, Sim.sM_seq, Sim.sM_asg, Sim.sM_ret, Sim.sM_expr, Sim.sM_if, Sim.sM_par, Sim.sM_asgT, Sim.sM_set, Sim.ret_bind, Sim.bind_assoc, Sim.x_var0, Sim.x_varS, Sim.x_C, Sim.x_op, Sim.x_un, Sim.x_A, Sim.x_nil, Sim.x_cons, Sim.x_call, Sim.x_and, Sim.x_or, Sim.x_not, Sim.x_if, Sim.x_tV, Sim.x_tCmp, Sim.x_tTru, Sim.x_tNot, Sim.x_tAnd, Sim.x_tOr, Sim.x_asB, Sim.x_sl, Sim.x_oNone, Sim.x_oSome, Sim.x_asI, Sim.x_trN, Sim.x_trB, Sim.x_trI, Sim.x_trL, Sim.x_trR, Sim.x_trT, Sim.x_add, Sim.x_sub, Sim.x_neg, Sim.x_lt, Sim.x_le, Sim.x_gt, Sim.x_ge, Sim.x_abs, Sim.x_max2, Sim.x_min2, Sim.x_intI, Sim.x_intB, Sim.x_eqI, Sim.x_neI, Sim.x_eqS, Sim.x_neS, Sim.x_lst, Sim.x_tup, Sim.x_lenL, Sim.x_lenT, Sim.x_lenR, Sim.x_tupleL, Sim.x_listL, Sim.x_listT, Sim.x_slL, Sim.x_slR, Sim.x_slT, Sim.callM, Sim.arrOf, List.filterMap_cons, List.filterMap_nil, List.getElem?_cons_zero, List.getElem?_cons_succ, List.cons_append, List.nil_append, List.append_nil, List.length_cons, List.length_nil, and_self, if_true, List.set_cons_zero, List.set_cons_succ, Bool.false_eq_true, if_false, Nat.reduceAdd, Nat.reduceSub, List.map_cons, List.map_nil, List.replicate_succ, List.replicate_zero, Bool.not_true, Bool.not_false, Sim.x_sized, Nat.reduceLeDiff, Nat.zero_add, Bool.true_and, Bool.false_and, Bool.and_true, Bool.and_false, Bool.true_or, Bool.false_or, Bool.or_true, Bool.or_false, Bool.and_self, decide_true, decide_false]
  exact Rn.ret ⟨l, _, _, _, _, _, l0, rfl⟩
theorem law_true : ∀ ns : List Int, ns.length ≤ 63 → ∃ st', m_law [.rl (ns.map D.int)] [] = .ok (.bl true) st' := by
  intro ns hns
  refine law_end ?_
  generalize hsc : D.rl (ns.map D.int) = s
  show T _ (sM d_law [some s, none, none, none, none, none, none, none, none, none, none, none, none, none, none]) _
  rw [law_sparts]
  have hk : 0 < ([ves (ns.take 63) 0 0] : Store).length := by simp
  have hB : (1000000 : Int) ≤ 1000000 := Int.le_refl _
  -- the pen
  refine T.seq (P := fun ev st => ev = [some s, some (.cl 0), none, none, none, none, none, none, none, none, none, none, none, none, none] ∧ Vt (ns.take 63) 0 [ves (ns.take 63) 0 0] 1000000 1000000 [] st) ?_ fun ev => T.pre fun he => ?_
  · unfold law_s0
    try simp -implicitDefEqProofs only [Sim.sM_pass, Sim.sM_seq, Sim.sM_asg, Sim.sM_ret, Sim.sM_expr, Sim.sM_if, Sim.sM_par, Sim.sM_asgT, Sim.sM_set, Sim.ret_bind, Sim.bind_assoc, Sim.x_var0, Sim.x_varS, Sim.x_C, Sim.x_op, Sim.x_un, Sim.x_A, Sim.x_nil, Sim.x_cons, Sim.x_call, Sim.x_and, Sim.x_or, Sim.x_not, Sim.x_if, Sim.x_tV, Sim.x_tCmp, Sim.x_tTru, Sim.x_tNot, Sim.x_tAnd, Sim.x_tOr, Sim.x_asB, Sim.x_sl, Sim.x_oNone, Sim.x_oSome, Sim.x_asI, Sim.x_trN, Sim.x_trB, Sim.x_trI, Sim.x_trL, Sim.x_trR, Sim.x_trT, Sim.x_add, Sim.x_sub, Sim.x_neg, Sim.x_lt, Sim.x_le, Sim.x_gt, Sim.x_ge, Sim.x_abs, Sim.x_max2, Sim.x_min2, Sim.x_intI, Sim.x_intB, Sim.x_eqI, Sim.x_neI, Sim.x_eqS, Sim.x_neS, Sim.x_lst, Sim.x_tup, Sim.x_lenL, Sim.x_lenT, Sim.x_lenR, Sim.x_tupleL, Sim.x_listL, Sim.x_listT, Sim.x_slL, Sim.x_slR, Sim.x_slT, Sim.callM, Sim.arrOf, List.filterMap_cons, List.filterMap_nil, List.getElem?_cons_zero, List.getElem?_cons_succ, List.cons_append, List.nil_append, List.append_nil, List.length_cons, List.length_nil, and_self, if_true, List.set_cons_zero, List.set_cons_succ, Bool.false_eq_true, if_false, Nat.reduceAdd, Nat.reduceSub, List.map_cons, List.map_nil, List.replicate_succ, List.replicate_zero, Bool.not_true, Bool.not_false, Sim.x_sized, Nat.reduceLeDiff, Nat.zero_add, Bool.true_and, Bool.false_and, Bool.and_true, Bool.and_false, Bool.true_or, Bool.false_or, Bool.or_true, Bool.or_false, Bool.and_self, decide_true, decide_false]
    subst hsc
    refine T.one (a := .cl 0) (I' := Vt (ns.take 63) 0 [ves (ns.take 63) 0 0] 1000000 1000000 []) (fun st hst => ⟨_, by rw [hst]; exact m_pen ns hns, 0, 0, rfl, by decide, by decide, by decide⟩) ?_
    exact T.ret fun st hst => ⟨_, rfl, rfl, hst⟩
  subst he
  -- letters
  refine T.seq (P := fun ev st => ∃ letters : Int, (1 ≤ letters ∧ letters ≤ 4) ∧ ev = [some s, some (.cl 0), some (.int letters), none, none, none, none, none, none, none, none, none, none, none, none] ∧ Vt (ns.take 63) 0 [ves (ns.take 63) 0 0] 1000000 999999 [] st) ?_ fun ev => T.ex fun letters => T.pre fun hl => T.pre fun he => ?_
  · unfold law_s1
    try simp -implicitDefEqProofs only [Sim.sM_pass, Sim.sM_seq, Sim.sM_asg, Sim.sM_ret, Sim.sM_expr, Sim.sM_if, Sim.sM_par, Sim.sM_asgT, Sim.sM_set, Sim.ret_bind, Sim.bind_assoc, Sim.x_var0, Sim.x_varS, Sim.x_C, Sim.x_op, Sim.x_un, Sim.x_A, Sim.x_nil, Sim.x_cons, Sim.x_call, Sim.x_and, Sim.x_or, Sim.x_not, Sim.x_if, Sim.x_tV, Sim.x_tCmp, Sim.x_tTru, Sim.x_tNot, Sim.x_tAnd, Sim.x_tOr, Sim.x_asB, Sim.x_sl, Sim.x_oNone, Sim.x_oSome, Sim.x_asI, Sim.x_trN, Sim.x_trB, Sim.x_trI, Sim.x_trL, Sim.x_trR, Sim.x_trT, Sim.x_add, Sim.x_sub, Sim.x_neg, Sim.x_lt, Sim.x_le, Sim.x_gt, Sim.x_ge, Sim.x_abs, Sim.x_max2, Sim.x_min2, Sim.x_intI, Sim.x_intB, Sim.x_eqI, Sim.x_neI, Sim.x_eqS, Sim.x_neS, Sim.x_lst, Sim.x_tup, Sim.x_lenL, Sim.x_lenT, Sim.x_lenR, Sim.x_tupleL, Sim.x_listL, Sim.x_listT, Sim.x_slL, Sim.x_slR, Sim.x_slT, Sim.callM, Sim.arrOf, List.filterMap_cons, List.filterMap_nil, List.getElem?_cons_zero, List.getElem?_cons_succ, List.cons_append, List.nil_append, List.append_nil, List.length_cons, List.length_nil, and_self, if_true, List.set_cons_zero, List.set_cons_succ, Bool.false_eq_true, if_false, Nat.reduceAdd, Nat.reduceSub, List.map_cons, List.map_nil, List.replicate_succ, List.replicate_zero, Bool.not_true, Bool.not_false, Sim.x_sized, Nat.reduceLeDiff, Nat.zero_add, Bool.true_and, Bool.false_and, Bool.and_true, Bool.and_false, Bool.true_or, Bool.false_or, Bool.or_true, Bool.or_false, Bool.and_self, decide_true, decide_false]
    refine T.rn hk hB (r_pick (by decide) (by simp) (by simp)) fun v hv => ?_
    obtain ⟨l, rfl, h1, h2⟩ : ∃ l, v = .int l ∧ 1 ≤ l ∧ l ≤ 4 := by
      simp only [List.mem_cons, List.not_mem_nil, or_false] at hv
      rcases hv with rfl | rfl | rfl | rfl | rfl <;> exact ⟨_, rfl, by decide, by decide⟩
    exact T.ret fun st hst => ⟨_, rfl, l, ⟨h1, h2⟩, rfl, hst⟩
  subst he
  -- words
  refine T.seq (P := fun ev st => ∃ ws, Good ws ∧ ev = [some s, some (.cl 0), some (.int letters), some (lW ws), none, none, none, none, none, none, none, none, none, none, none] ∧ Vt (ns.take 63) 0 [ves (ns.take 63) 0 0] 1000000 900000 [] st) ?_ fun ev => T.ex fun ws => T.pre fun g => T.pre fun he => ?_
  · unfold law_s2
    try simp -implicitDefEqProofs only [Sim.sM_pass, Sim.sM_seq, Sim.sM_asg, Sim.sM_ret, Sim.sM_expr, Sim.sM_if, Sim.sM_par, Sim.sM_asgT, Sim.sM_set, Sim.ret_bind, Sim.bind_assoc, Sim.x_var0, Sim.x_varS, Sim.x_C, Sim.x_op, Sim.x_un, Sim.x_A, Sim.x_nil, Sim.x_cons, Sim.x_call, Sim.x_and, Sim.x_or, Sim.x_not, Sim.x_if, Sim.x_tV, Sim.x_tCmp, Sim.x_tTru, Sim.x_tNot, Sim.x_tAnd, Sim.x_tOr, Sim.x_asB, Sim.x_sl, Sim.x_oNone, Sim.x_oSome, Sim.x_asI, Sim.x_trN, Sim.x_trB, Sim.x_trI, Sim.x_trL, Sim.x_trR, Sim.x_trT, Sim.x_add, Sim.x_sub, Sim.x_neg, Sim.x_lt, Sim.x_le, Sim.x_gt, Sim.x_ge, Sim.x_abs, Sim.x_max2, Sim.x_min2, Sim.x_intI, Sim.x_intB, Sim.x_eqI, Sim.x_neI, Sim.x_eqS, Sim.x_neS, Sim.x_lst, Sim.x_tup, Sim.x_lenL, Sim.x_lenT, Sim.x_lenR, Sim.x_tupleL, Sim.x_listL, Sim.x_listT, Sim.x_slL, Sim.x_slR, Sim.x_slT, Sim.callM, Sim.arrOf, List.filterMap_cons, List.filterMap_nil, List.getElem?_cons_zero, List.getElem?_cons_succ, List.cons_append, List.nil_append, List.append_nil, List.length_cons, List.length_nil, and_self, if_true, List.set_cons_zero, List.set_cons_succ, Bool.false_eq_true, if_false, Nat.reduceAdd, Nat.reduceSub, List.map_cons, List.map_nil, List.replicate_succ, List.replicate_zero, Bool.not_true, Bool.not_false, Sim.x_sized, Nat.reduceLeDiff, Nat.zero_add, Bool.true_and, Bool.false_and, Bool.and_true, Bool.and_false, Bool.true_or, Bool.false_or, Bool.or_true, Bool.or_false, Bool.and_self, decide_true, decide_false]
    refine T.rn hk hB (r_drawn hl) fun v ⟨ws, e, g⟩ => ?_
    subst e
    exact T.ret fun st hst => ⟨_, rfl, ws, g, rfl, hst.less (by decide)⟩
  subst he
  have few := g.few
  -- held
  refine T.seq (P := fun ev st => (∃ o5, ev = [some s, some (.cl 0), some (.int letters), some (lW ws), some (.cl 1), o5, none, none, none, none, none, none, none, none, none]) ∧ Vt (ns.take 63) 0 [ves (ns.take 63) 0 0] 1000000 900000 (.lst ((heldPs 2 ws).map (·.1)) :: ws.map fun w => .lst (w.map D.int)) st) ?_ fun ev => T.pre fun ⟨o5, he⟩ => ?_
  · unfold law_s3
    try simp -implicitDefEqProofs only [Sim.sM_pass, Sim.sM_seq, Sim.sM_asg, Sim.sM_ret, Sim.sM_expr, Sim.sM_if, Sim.sM_par, Sim.sM_asgT, Sim.sM_set, Sim.ret_bind, Sim.bind_assoc, Sim.x_var0, Sim.x_varS, Sim.x_C, Sim.x_op, Sim.x_un, Sim.x_A, Sim.x_nil, Sim.x_cons, Sim.x_call, Sim.x_and, Sim.x_or, Sim.x_not, Sim.x_if, Sim.x_tV, Sim.x_tCmp, Sim.x_tTru, Sim.x_tNot, Sim.x_tAnd, Sim.x_tOr, Sim.x_asB, Sim.x_sl, Sim.x_oNone, Sim.x_oSome, Sim.x_asI, Sim.x_trN, Sim.x_trB, Sim.x_trI, Sim.x_trL, Sim.x_trR, Sim.x_trT, Sim.x_add, Sim.x_sub, Sim.x_neg, Sim.x_lt, Sim.x_le, Sim.x_gt, Sim.x_ge, Sim.x_abs, Sim.x_max2, Sim.x_min2, Sim.x_intI, Sim.x_intB, Sim.x_eqI, Sim.x_neI, Sim.x_eqS, Sim.x_neS, Sim.x_lst, Sim.x_tup, Sim.x_lenL, Sim.x_lenT, Sim.x_lenR, Sim.x_tupleL, Sim.x_listL, Sim.x_listT, Sim.x_slL, Sim.x_slR, Sim.x_slT, Sim.callM, Sim.arrOf, List.filterMap_cons, List.filterMap_nil, List.getElem?_cons_zero, List.getElem?_cons_succ, List.cons_append, List.nil_append, List.append_nil, List.length_cons, List.length_nil, and_self, if_true, List.set_cons_zero, List.set_cons_succ, Bool.false_eq_true, if_false, Nat.reduceAdd, Nat.reduceSub, List.map_cons, List.map_nil, List.replicate_succ, List.replicate_zero, Bool.not_true, Bool.not_false, Sim.x_sized, Nat.reduceLeDiff, Nat.zero_add, Bool.true_and, Bool.false_and, Bool.and_true, Bool.and_false, Bool.true_or, Bool.false_or, Bool.or_true, Bool.or_false, Bool.and_self, decide_true, decide_false]
    refine T.one (a := .cl 1) (I' := Vt (ns.take 63) 0 [ves (ns.take 63) 0 0] 1000000 900000 (.lst ((heldPs 2 ws).map (·.1)) :: ws.map fun w => .lst (w.map D.int))) (fun st hst => ⟨st ++ .lst ((heldPs 2 ws).map (·.1)) :: ws.map fun w => .lst (w.map D.int), ?_, hst.app _⟩) (T.ret fun st hst => ⟨_, rfl, ⟨_, rfl⟩, hst⟩)
    have hlen : st.length = 1 := hst.len
    show ((iSeq (eVar 3)) _).bind _ st = _
    rw [bind_ok (iSeqM (v := lW ws) (xs := ws.map tI) (by try simp -implicitDefEqProofs only [Sim.sM_pass, Sim.sM_seq, Sim.sM_asg, Sim.sM_ret, Sim.sM_expr, Sim.sM_if, Sim.sM_par, Sim.sM_asgT, Sim.sM_set, Sim.ret_bind, Sim.bind_assoc, Sim.x_var0, Sim.x_varS, Sim.x_C, Sim.x_op, Sim.x_un, Sim.x_A, Sim.x_nil, Sim.x_cons, Sim.x_call, Sim.x_and, Sim.x_or, Sim.x_not, Sim.x_if, Sim.x_tV, Sim.x_tCmp, Sim.x_tTru, Sim.x_tNot, Sim.x_tAnd, Sim.x_tOr, Sim.x_asB, Sim.x_sl, Sim.x_oNone, Sim.x_oSome, Sim.x_asI, Sim.x_trN, Sim.x_trB, Sim.x_trI, Sim.x_trL, Sim.x_trR, Sim.x_trT, Sim.x_add, Sim.x_sub, Sim.x_neg, Sim.x_lt, Sim.x_le, Sim.x_gt, Sim.x_ge, Sim.x_abs, Sim.x_max2, Sim.x_min2, Sim.x_intI, Sim.x_intB, Sim.x_eqI, Sim.x_neI, Sim.x_eqS, Sim.x_neS, Sim.x_lst, Sim.x_tup, Sim.x_lenL, Sim.x_lenT, Sim.x_lenR, Sim.x_tupleL, Sim.x_listL, Sim.x_listT, Sim.x_slL, Sim.x_slR, Sim.x_slT, Sim.callM, Sim.arrOf, List.filterMap_cons, List.filterMap_nil, List.getElem?_cons_zero, List.getElem?_cons_succ, List.cons_append, List.nil_append, List.append_nil, List.length_cons, List.length_nil, and_self, if_true, List.set_cons_zero, List.set_cons_succ, Bool.false_eq_true, if_false, Nat.reduceAdd, Nat.reduceSub, List.map_cons, List.map_nil, List.replicate_succ, List.replicate_zero, Bool.not_true, Bool.not_false, Sim.x_sized, Nat.reduceLeDiff, Nat.zero_add, Bool.true_and, Bool.false_and, Bool.and_true, Bool.and_false, Bool.true_or, Bool.false_or, Bool.or_true, Bool.or_false, Bool.and_self, decide_true, decide_false]) rfl)]
    have q := compN_held (t := .nm 5) (m := eA gListM (aCons (eVar 5) aNil)) (ev := wipeE [some s, some (.cl 0), some (.int letters), some (lW ws), none, none, none, none, none, none, none, none, none, none, none] [5]) (v := lW ws) (st := st) (ws := ws) rfl ws [] FU [] [] rfl (FU_gt (by omega)) (by simp; omega) fun w hw => ⟨_, x_put1, fun S => by
      try simp -implicitDefEqProofs only [Sim.wipeE, Sim.sM_pass, Sim.sM_seq, Sim.sM_asg, Sim.sM_ret, Sim.sM_expr, Sim.sM_if, Sim.sM_par, Sim.sM_asgT, Sim.sM_set, Sim.ret_bind, Sim.bind_assoc, Sim.x_var0, Sim.x_varS, Sim.x_C, Sim.x_op, Sim.x_un, Sim.x_A, Sim.x_nil, Sim.x_cons, Sim.x_call, Sim.x_and, Sim.x_or, Sim.x_not, Sim.x_if, Sim.x_tV, Sim.x_tCmp, Sim.x_tTru, Sim.x_tNot, Sim.x_tAnd, Sim.x_tOr, Sim.x_asB, Sim.x_sl, Sim.x_oNone, Sim.x_oSome, Sim.x_asI, Sim.x_trN, Sim.x_trB, Sim.x_trI, Sim.x_trL, Sim.x_trR, Sim.x_trT, Sim.x_add, Sim.x_sub, Sim.x_neg, Sim.x_lt, Sim.x_le, Sim.x_gt, Sim.x_ge, Sim.x_abs, Sim.x_max2, Sim.x_min2, Sim.x_intI, Sim.x_intB, Sim.x_eqI, Sim.x_neI, Sim.x_eqS, Sim.x_neS, Sim.x_lst, Sim.x_tup, Sim.x_lenL, Sim.x_lenT, Sim.x_lenR, Sim.x_tupleL, Sim.x_listL, Sim.x_listT, Sim.x_slL, Sim.x_slR, Sim.x_slT, Sim.callM, Sim.arrOf, List.filterMap_cons, List.filterMap_nil, List.getElem?_cons_zero, List.getElem?_cons_succ, List.cons_append, List.nil_append, List.append_nil, List.length_cons, List.length_nil, and_self, if_true, List.set_cons_zero, List.set_cons_succ, Bool.false_eq_true, if_false, Nat.reduceAdd, Nat.reduceSub, List.map_cons, List.map_nil, List.replicate_succ, List.replicate_zero, Bool.not_true, Bool.not_false, Sim.x_sized, Nat.reduceLeDiff, Nat.zero_add, Bool.true_and, Bool.false_and, Bool.and_true, Bool.and_false, Bool.true_or, Bool.false_or, Bool.or_true, Bool.or_false, Bool.and_self, decide_true, decide_false]
      exact of_at (by simp only [gListM]; rfl)⟩
    simp only [List.nil_append, List.length_nil, Nat.add_zero, hlen] at q ⊢
    rw [q]
    rfl
  subst he
  -- the bar
  refine T.seq (P := fun ev st => (∃ o5, ev = [some s, some (.cl 0), some (.int letters), some (lW ws), some (.cl 1), o5, some (barD ws), some (tI []), some (tI []), none, none, none, none, none, none]) ∧ Vt (ns.take 63) 0 [ves (ns.take 63) 0 0] 1000000 900000 (.lst ((heldPs 2 ws).map (·.1)) :: ws.map fun w => .lst (w.map D.int)) st) ?_ fun ev => T.pre fun ⟨o5, he⟩ => ?_
  · unfold law_s4
    try simp -implicitDefEqProofs only [Sim.sM_pass, Sim.sM_seq, Sim.sM_asg, Sim.sM_ret, Sim.sM_expr, Sim.sM_if, Sim.sM_par, Sim.sM_asgT, Sim.sM_set, Sim.ret_bind, Sim.bind_assoc, Sim.x_var0, Sim.x_varS, Sim.x_C, Sim.x_op, Sim.x_un, Sim.x_A, Sim.x_nil, Sim.x_cons, Sim.x_call, Sim.x_and, Sim.x_or, Sim.x_not, Sim.x_if, Sim.x_tV, Sim.x_tCmp, Sim.x_tTru, Sim.x_tNot, Sim.x_tAnd, Sim.x_tOr, Sim.x_asB, Sim.x_sl, Sim.x_oNone, Sim.x_oSome, Sim.x_asI, Sim.x_trN, Sim.x_trB, Sim.x_trI, Sim.x_trL, Sim.x_trR, Sim.x_trT, Sim.x_add, Sim.x_sub, Sim.x_neg, Sim.x_lt, Sim.x_le, Sim.x_gt, Sim.x_ge, Sim.x_abs, Sim.x_max2, Sim.x_min2, Sim.x_intI, Sim.x_intB, Sim.x_eqI, Sim.x_neI, Sim.x_eqS, Sim.x_neS, Sim.x_lst, Sim.x_tup, Sim.x_lenL, Sim.x_lenT, Sim.x_lenR, Sim.x_tupleL, Sim.x_listL, Sim.x_listT, Sim.x_slL, Sim.x_slR, Sim.x_slT, Sim.callM, Sim.arrOf, List.filterMap_cons, List.filterMap_nil, List.getElem?_cons_zero, List.getElem?_cons_succ, List.cons_append, List.nil_append, List.append_nil, List.length_cons, List.length_nil, and_self, if_true, List.set_cons_zero, List.set_cons_succ, Bool.false_eq_true, if_false, Nat.reduceAdd, Nat.reduceSub, List.map_cons, List.map_nil, List.replicate_succ, List.replicate_zero, Bool.not_true, Bool.not_false, Sim.x_sized, Nat.reduceLeDiff, Nat.zero_add, Bool.true_and, Bool.false_and, Bool.and_true, Bool.and_false, Bool.true_or, Bool.false_or, Bool.or_true, Bool.or_false, Bool.and_self, decide_true, decide_false]
    refine T.one (a := barD ws) (I' := Vt (ns.take 63) 0 [ves (ns.take 63) 0 0] 1000000 900000 (.lst ((heldPs 2 ws).map (·.1)) :: ws.map fun w => .lst (w.map D.int))) (fun st hst => ⟨st, ?_, hst⟩) ?_
    · have g0 := hst.get 0
      have hl2 := hst.len
      have hg : ∀ j, st[2 + j]? = (ws.map fun w => Cell.lst (w.map D.int))[j]? := fun j => by
        have := hst.get (1 + j)
        rw [show [ves (ns.take 63) 0 0].length + (1 + j) = 2 + j by simp; omega] at this
        rw [this, show 1 + j = j + 1 by omega]; rfl
      have q := at_law_bar (st := st) (d := .cl 1) (ps := heldPs 2 ws) (by
        have g0' : st[1]? = some (.lst ((heldPs 2 ws).map (·.1))) := g0
        simp only [seqV, listV, g0']; rfl) (fun p hp => by
        obtain ⟨i, hi⟩ := List.getElem?_of_mem hp
        rw [heldPs_get] at hi
        obtain ⟨w, hw, rfl⟩ := Option.map_eq_some_iff.mp hi
        have e := hg i
        rw [List.getElem?_map, hw] at e
        have hil := (List.getElem?_eq_some_iff.mp hw).1
        have e' : st[2 + i]? = some (.lst (w.map D.int)) := e
        refine ⟨by simp only [seqV, listV, e']; rfl, ?_⟩
        simp only [D.low, decide_eq_true_eq]
        rw [hl2]; simp; omega) (by rw [heldPs_snd]; exact g)
      rw [heldPs_snd] at q
      exact q
    · try simp -implicitDefEqProofs only [Tgt.put, Tgt.puts, Sim.sM_pass, Sim.sM_seq, Sim.sM_asg, Sim.sM_ret, Sim.sM_expr, Sim.sM_if, Sim.sM_par, Sim.sM_asgT, Sim.sM_set, Sim.ret_bind, Sim.bind_assoc, Sim.x_var0, Sim.x_varS, Sim.x_C, Sim.x_op, Sim.x_un, Sim.x_A, Sim.x_nil, Sim.x_cons, Sim.x_call, Sim.x_and, Sim.x_or, Sim.x_not, Sim.x_if, Sim.x_tV, Sim.x_tCmp, Sim.x_tTru, Sim.x_tNot, Sim.x_tAnd, Sim.x_tOr, Sim.x_asB, Sim.x_sl, Sim.x_oNone, Sim.x_oSome, Sim.x_asI, Sim.x_trN, Sim.x_trB, Sim.x_trI, Sim.x_trL, Sim.x_trR, Sim.x_trT, Sim.x_add, Sim.x_sub, Sim.x_neg, Sim.x_lt, Sim.x_le, Sim.x_gt, Sim.x_ge, Sim.x_abs, Sim.x_max2, Sim.x_min2, Sim.x_intI, Sim.x_intB, Sim.x_eqI, Sim.x_neI, Sim.x_eqS, Sim.x_neS, Sim.x_lst, Sim.x_tup, Sim.x_lenL, Sim.x_lenT, Sim.x_lenR, Sim.x_tupleL, Sim.x_listL, Sim.x_listT, Sim.x_slL, Sim.x_slR, Sim.x_slT, Sim.callM, Sim.arrOf, List.filterMap_cons, List.filterMap_nil, List.getElem?_cons_zero, List.getElem?_cons_succ, List.cons_append, List.nil_append, List.append_nil, List.length_cons, List.length_nil, and_self, if_true, List.set_cons_zero, List.set_cons_succ, Bool.false_eq_true, if_false, Nat.reduceAdd, Nat.reduceSub, List.map_cons, List.map_nil, List.replicate_succ, List.replicate_zero, Bool.not_true, Bool.not_false, Sim.x_sized, Nat.reduceLeDiff, Nat.zero_add, Bool.true_and, Bool.false_and, Bool.and_true, Bool.and_false, Bool.true_or, Bool.false_or, Bool.or_true, Bool.or_false, Bool.and_self, decide_true, decide_false]
      exact T.ret fun st hst => ⟨_, rfl, ⟨_, rfl⟩, hst⟩
  subst he
  -- what was passed is changed
  refine T.seq (P := fun ev st => (∃ o5, ev = [some s, some (.cl 0), some (.int letters), some (lW ws), some (.cl 1), o5, some (barD ws), some (tI []), some (tI []), none, none, none, none, none, none]) ∧ ∃ ext, Vt (ns.take 63) 0 [ves (ns.take 63) 0 0] 1000000 900000 ext st) ?_ fun ev => T.pre fun ⟨o5, he⟩ => T.ex fun ext => ?_
  · unfold law_s5
    refine (T.for (X := List Cell) (src := .seq (.cl 1)) (n := ws.length) (item := fun i => .cl (2 + i)) (x0 := ws.map fun w => .lst (w.map D.int))
      (E := fun i x ev => (∃ o5, ev = [some s, some (.cl 0), some (.int letters), some (lW ws), some (.cl 1), o5, some (barD ws), some (tI []), some (tI []), none, none, none, none, none, none]) ∧ x.length = ws.length ∧ ∀ c ∈ x, ∃ ys, c = .lst ys ∧ ys.length ≤ 6 + i)
      (S := fun i x st => Vt (ns.take 63) 0 [ves (ns.take 63) 0 0] 1000000 900000 (.lst ((heldPs 2 ws).map (·.1)) :: x) st) (R := fun _ _ => False) (fun st hst => ?_) (by omega) ⟨⟨_, rfl⟩, by simp, fun c hc => ?_⟩ (fun i x st hi hst => ?_) (fun i x ev hi ⟨⟨o5, he⟩, hx, hc⟩ => ⟨_, x_put1, ?_⟩)).imp (fun _ h => h) fun r st hr => ?_
    · have g0 := hst.get 0
      have g0' : st[1]? = some (.lst ((heldPs 2 ws).map (·.1))) := g0
      exact iSeqM (v := .cl 1) (xs := (heldPs 2 ws).map (·.1)) (by try simp -implicitDefEqProofs only [Sim.sM_pass, Sim.sM_seq, Sim.sM_asg, Sim.sM_ret, Sim.sM_expr, Sim.sM_if, Sim.sM_par, Sim.sM_asgT, Sim.sM_set, Sim.ret_bind, Sim.bind_assoc, Sim.x_var0, Sim.x_varS, Sim.x_C, Sim.x_op, Sim.x_un, Sim.x_A, Sim.x_nil, Sim.x_cons, Sim.x_call, Sim.x_and, Sim.x_or, Sim.x_not, Sim.x_if, Sim.x_tV, Sim.x_tCmp, Sim.x_tTru, Sim.x_tNot, Sim.x_tAnd, Sim.x_tOr, Sim.x_asB, Sim.x_sl, Sim.x_oNone, Sim.x_oSome, Sim.x_asI, Sim.x_trN, Sim.x_trB, Sim.x_trI, Sim.x_trL, Sim.x_trR, Sim.x_trT, Sim.x_add, Sim.x_sub, Sim.x_neg, Sim.x_lt, Sim.x_le, Sim.x_gt, Sim.x_ge, Sim.x_abs, Sim.x_max2, Sim.x_min2, Sim.x_intI, Sim.x_intB, Sim.x_eqI, Sim.x_neI, Sim.x_eqS, Sim.x_neS, Sim.x_lst, Sim.x_tup, Sim.x_lenL, Sim.x_lenT, Sim.x_lenR, Sim.x_tupleL, Sim.x_listL, Sim.x_listT, Sim.x_slL, Sim.x_slR, Sim.x_slT, Sim.callM, Sim.arrOf, List.filterMap_cons, List.filterMap_nil, List.getElem?_cons_zero, List.getElem?_cons_succ, List.cons_append, List.nil_append, List.append_nil, List.length_cons, List.length_nil, and_self, if_true, List.set_cons_zero, List.set_cons_succ, Bool.false_eq_true, if_false, Nat.reduceAdd, Nat.reduceSub, List.map_cons, List.map_nil, List.replicate_succ, List.replicate_zero, Bool.not_true, Bool.not_false, Sim.x_sized, Nat.reduceLeDiff, Nat.zero_add, Bool.true_and, Bool.false_and, Bool.and_true, Bool.and_false, Bool.true_or, Bool.false_or, Bool.or_true, Bool.or_false, Bool.and_self, decide_true, decide_false]) (by simp only [seqV, listV, g0']; rfl)
    · obtain ⟨w, hw, rfl⟩ := List.mem_map.mp hc
      exact ⟨_, rfl, by rw [List.length_map]; exact g.six w hw⟩
    · have g0 := hst.get 0
      have g0' : st[1]? = some (.lst ((heldPs 2 ws).map (·.1))) := g0
      rw [item_seqT (xs := (heldPs 2 ws).map (·.1)) (by simp only [seqV, listV, g0']; rfl), List.getElem?_map, heldPs_get]
      congr 1
      by_cases h : i < ws.length
      · rw [if_pos h, List.getElem?_eq_getElem h]; rfl
      · rw [if_neg h, List.getElem?_eq_none (by omega)]; rfl
    · subst he
      unfold law_s5b
      try simp -implicitDefEqProofs only [x_eMtL, Sim.sM_pass, Sim.sM_seq, Sim.sM_asg, Sim.sM_ret, Sim.sM_expr, Sim.sM_if, Sim.sM_par, Sim.sM_asgT, Sim.sM_set, Sim.ret_bind, Sim.bind_assoc, Sim.x_var0, Sim.x_varS, Sim.x_C, Sim.x_op, Sim.x_un, Sim.x_A, Sim.x_nil, Sim.x_cons, Sim.x_call, Sim.x_and, Sim.x_or, Sim.x_not, Sim.x_if, Sim.x_tV, Sim.x_tCmp, Sim.x_tTru, Sim.x_tNot, Sim.x_tAnd, Sim.x_tOr, Sim.x_asB, Sim.x_sl, Sim.x_oNone, Sim.x_oSome, Sim.x_asI, Sim.x_trN, Sim.x_trB, Sim.x_trI, Sim.x_trL, Sim.x_trR, Sim.x_trT, Sim.x_add, Sim.x_sub, Sim.x_neg, Sim.x_lt, Sim.x_le, Sim.x_gt, Sim.x_ge, Sim.x_abs, Sim.x_max2, Sim.x_min2, Sim.x_intI, Sim.x_intB, Sim.x_eqI, Sim.x_neI, Sim.x_eqS, Sim.x_neS, Sim.x_lst, Sim.x_tup, Sim.x_lenL, Sim.x_lenT, Sim.x_lenR, Sim.x_tupleL, Sim.x_listL, Sim.x_listT, Sim.x_slL, Sim.x_slR, Sim.x_slT, Sim.callM, Sim.arrOf, List.filterMap_cons, List.filterMap_nil, List.getElem?_cons_zero, List.getElem?_cons_succ, List.cons_append, List.nil_append, List.append_nil, List.length_cons, List.length_nil, and_self, if_true, List.set_cons_zero, List.set_cons_succ, Bool.false_eq_true, if_false, Nat.reduceAdd, Nat.reduceSub, List.map_cons, List.map_nil, List.replicate_succ, List.replicate_zero, Bool.not_true, Bool.not_false, Sim.x_sized, Nat.reduceLeDiff, Nat.zero_add, Bool.true_and, Bool.false_and, Bool.and_true, Bool.and_false, Bool.true_or, Bool.false_or, Bool.or_true, Bool.or_false, Bool.and_self, decide_true, decide_false]
      obtain ⟨ys, hy1, hy2⟩ := hc x[i] (List.getElem_mem (by omega))
      have gi : ∀ st, Vt (ns.take 63) 0 [ves (ns.take 63) 0 0] 1000000 900000 (.lst ((heldPs 2 ws).map (·.1)) :: x) st → st[2 + i]? = some (.lst ys) := fun st hst => by
        have := hst.get (1 + i)
        rw [show [ves (ns.take 63) 0 0].length + (1 + i) = 2 + i by simp; omega] at this
        rw [this, show 1 + i = i + 1 by omega, List.getElem?_cons_succ, List.getElem?_eq_getElem (by omega), hy1]
      refine T.one (a := D.non) (I' := Vt (ns.take 63) 0 [ves (ns.take 63) 0 0] 1000000 900000 (.lst ((heldPs 2 ws).map (·.1)) :: x.set i (.lst (ys ++ [.int 0])))) (fun st hst => ⟨st.set (2 + i) (.lst (ys ++ [.int 0])), ?_, ?_⟩) (T.ret fun st hst => ⟨x.set i (.lst (ys ++ [.int 0])), ⟨⟨_, rfl⟩, by rw [List.length_set]; exact hx, fun c hcm => ?_⟩, hst⟩)
      · have e1 : (listV st (.cl (2 + i))).isSome = true := by simp only [listV, gi st hst, Option.isSome_some]
        show (if (listV st (.cl (2 + i))).isSome = true then _ else _) = _
        rw [if_pos e1]
        refine of_at ?_
        simp only [gAppend, pushC, gi st hst]
        rw [if_pos (by omega)]
        rfl
      · have := hst.set (1 + i) (.lst (ys ++ [.int 0]))
        rw [show [ves (ns.take 63) 0 0].length + (1 + i) = 2 + i by simp; omega, show 1 + i = i + 1 by omega, List.set_cons_succ] at this
        exact this
      · rcases List.mem_or_eq_of_mem_set hcm with h | h
        · obtain ⟨zs, h1, h2⟩ := hc c h
          exact ⟨zs, h1, by omega⟩
        · exact ⟨_, h, by rw [List.length_append, List.length_singleton]; omega⟩
    · cases r with
      | inr v => exact hr.elim
      | inl ev =>
        obtain ⟨x, ⟨⟨o5, he⟩, _⟩, hst⟩ := hr
        exact ⟨ev, rfl, ⟨o5, he⟩, _, hst⟩
  subst he
  -- the bar's words
  have h6 : sM law_s6 (ev0 s letters ws o5 [] [] none none none none none) = M.ret (.inl (ev0 s letters ws o5 [] [] none none none none none)) := by
    unfold law_s6
    try simp -implicitDefEqProofs only [e_bar_right g, Sim.sM_pass, Sim.sM_seq, Sim.sM_asg, Sim.sM_ret, Sim.sM_expr, Sim.sM_if, Sim.sM_par, Sim.sM_asgT, Sim.sM_set, Sim.ret_bind, Sim.bind_assoc, Sim.x_var0, Sim.x_varS, Sim.x_C, Sim.x_op, Sim.x_un, Sim.x_A, Sim.x_nil, Sim.x_cons, Sim.x_call, Sim.x_and, Sim.x_or, Sim.x_not, Sim.x_if, Sim.x_tV, Sim.x_tCmp, Sim.x_tTru, Sim.x_tNot, Sim.x_tAnd, Sim.x_tOr, Sim.x_asB, Sim.x_sl, Sim.x_oNone, Sim.x_oSome, Sim.x_asI, Sim.x_trN, Sim.x_trB, Sim.x_trI, Sim.x_trL, Sim.x_trR, Sim.x_trT, Sim.x_add, Sim.x_sub, Sim.x_neg, Sim.x_lt, Sim.x_le, Sim.x_gt, Sim.x_ge, Sim.x_abs, Sim.x_max2, Sim.x_min2, Sim.x_intI, Sim.x_intB, Sim.x_eqI, Sim.x_neI, Sim.x_eqS, Sim.x_neS, Sim.x_lst, Sim.x_tup, Sim.x_lenL, Sim.x_lenT, Sim.x_lenR, Sim.x_tupleL, Sim.x_listL, Sim.x_listT, Sim.x_slL, Sim.x_slR, Sim.x_slT, Sim.callM, Sim.arrOf, List.filterMap_cons, List.filterMap_nil, List.getElem?_cons_zero, List.getElem?_cons_succ, List.cons_append, List.nil_append, List.append_nil, List.length_cons, List.length_nil, and_self, if_true, List.set_cons_zero, List.set_cons_succ, Bool.false_eq_true, if_false, Nat.reduceAdd, Nat.reduceSub, List.map_cons, List.map_nil, List.replicate_succ, List.replicate_zero, Bool.not_true, Bool.not_false, Sim.x_sized, Nat.reduceLeDiff, Nat.zero_add, Bool.true_and, Bool.false_and, Bool.and_true, Bool.and_false, Bool.true_or, Bool.false_or, Bool.or_true, Bool.or_false, Bool.and_self, decide_true, decide_false]
  refine T.seqP h6 ?_
  -- the turns
  refine T.seq (P := fun ev st => ∃ said : List Int, said.length = 60 ∧ (∀ i ∈ said, 0 ≤ i ∧ i ≤ 3) ∧ (∃ o5 o9 o10 o11 o12 o13, ev = ev0 s letters ws o5 said (farF ws said) o9 o10 o11 o12 o13) ∧ Vt (ns.take 63) 0 [ves (ns.take 63) 0 0] 1000000 800000 ext st) ?_ fun ev => T.ex fun said => T.pre fun hsl => T.pre fun hs4 => T.pre fun ⟨o5, o9, o10, o11, o12, o13, he⟩ => ?_
  · unfold law_s7
    have hf := Rn.for (cells := ns.take 63) (k := 0) (mi := iRng1 (aCons (eC (.int 60)) aNil)) (t := .nm 9) (body := law_s7b) (lo := 0) (n := 60) (c := 2) (ev := ev0 s letters ws o5 [] [] none none none none none) (R := fun _ => False)
      (I := fun i ev => ∃ said : List Int, said.length = i ∧ (∀ i ∈ said, 0 ≤ i ∧ i ≤ 3) ∧ ∃ o5 o9 o10 o11 o12 o13, ev = ev0 s letters ws o5 said (farF ws said) o9 o10 o11 o12 o13)
      (fun st => by rw [x_iRng1]; try simp -implicitDefEqProofs only [Sim.sM_pass, Sim.sM_seq, Sim.sM_asg, Sim.sM_ret, Sim.sM_expr, Sim.sM_if, Sim.sM_par, Sim.sM_asgT, Sim.sM_set, Sim.ret_bind, Sim.bind_assoc, Sim.x_var0, Sim.x_varS, Sim.x_C, Sim.x_op, Sim.x_un, Sim.x_A, Sim.x_nil, Sim.x_cons, Sim.x_call, Sim.x_and, Sim.x_or, Sim.x_not, Sim.x_if, Sim.x_tV, Sim.x_tCmp, Sim.x_tTru, Sim.x_tNot, Sim.x_tAnd, Sim.x_tOr, Sim.x_asB, Sim.x_sl, Sim.x_oNone, Sim.x_oSome, Sim.x_asI, Sim.x_trN, Sim.x_trB, Sim.x_trI, Sim.x_trL, Sim.x_trR, Sim.x_trT, Sim.x_add, Sim.x_sub, Sim.x_neg, Sim.x_lt, Sim.x_le, Sim.x_gt, Sim.x_ge, Sim.x_abs, Sim.x_max2, Sim.x_min2, Sim.x_intI, Sim.x_intB, Sim.x_eqI, Sim.x_neI, Sim.x_eqS, Sim.x_neS, Sim.x_lst, Sim.x_tup, Sim.x_lenL, Sim.x_lenT, Sim.x_lenR, Sim.x_tupleL, Sim.x_listL, Sim.x_listT, Sim.x_slL, Sim.x_slR, Sim.x_slT, Sim.callM, Sim.arrOf, List.filterMap_cons, List.filterMap_nil, List.getElem?_cons_zero, List.getElem?_cons_succ, List.cons_append, List.nil_append, List.append_nil, List.length_cons, List.length_nil, and_self, if_true, List.set_cons_zero, List.set_cons_succ, Bool.false_eq_true, if_false, Nat.reduceAdd, Nat.reduceSub, List.map_cons, List.map_nil, List.replicate_succ, List.replicate_zero, Bool.not_true, Bool.not_false, Sim.x_sized, Nat.reduceLeDiff, Nat.zero_add, Bool.true_and, Bool.false_and, Bool.and_true, Bool.and_false, Bool.true_or, Bool.false_or, Bool.or_true, Bool.or_false, Bool.and_self, decide_true, decide_false]; rw [x_rng1 (by decide)]; rfl) (by decide) ⟨[], rfl, (fun i hi => by cases hi), _, _, _, _, _, _, rfl⟩ (fun i ev hi ⟨said, h1, h2, o5, o9, o10, o11, o12, o13, he⟩ => ⟨_, x_put1, by
        subst he
        refine (t_turn (s := s) (o9 := some (.int (0 + (i : Nat)))) g hl (by omega) h2 rfl).imp (Nat.le_refl _) fun r hr => ?_
        obtain ⟨l, o9, o10, o11, o12, o13, l0, rfl⟩ := hr
        exact ⟨said ++ [l], by rw [List.length_append, h1]; rfl, fun i hi => (List.mem_append.mp hi).elim (h2 i) fun h => by rw [List.mem_singleton.mp h]; exact l0, _, _, _, _, _, _, rfl⟩⟩)
    refine (Vt.rn hk hB hf (N := 900000) (by decide)).imp (fun _ h => h) fun r st ⟨hr, hst⟩ => ?_
    cases r with
    | inr v => exact hr.elim
    | inl ev =>
      obtain ⟨said, h1, h2, h3⟩ := hr
      exact ⟨ev, rfl, said, h1, h2, h3, hst.less (by decide)⟩
  subst he
  -- the long row
  obtain ⟨big, hbig⟩ : ∃ big, big = (List.replicate 17 said).flatten := ⟨_, rfl⟩
  have hfl : big.length = 1020 := by rw [hbig, List.length_flatten, List.map_replicate, hsl]; decide
  have hb4 : ∀ i ∈ big, 0 ≤ i ∧ i ≤ 3 := fun i hi => by
    rw [hbig] at hi
    obtain ⟨l, hl1, hl2⟩ := List.mem_flatten.mp hi
    rw [List.eq_of_mem_replicate hl1] at hl2
    exact hs4 i hl2
  have qm : M.of (gMulS (tI said) (.int 17)) = M.ret (tI big) := of_some fun st => by
    have hn : said.map D.int ≠ [] := fun e => by
      have := congrArg List.length e
      rw [List.length_map, hsl] at this; cases this
    simp only [gMulS, gMul, eitherG, gMulI, gI, gRep, ownV, Option.none_or]
    rw [if_pos ⟨hn, by decide, by decide, by rw [List.length_map, hsl]; decide⟩]
    have e : (List.replicate (17 : Int).toNat (said.map D.int)).flatten = big.map D.int := by
      rw [hbig, List.map_flatten, List.map_replicate]; rfl
    rw [e]; rfl
  obtain ⟨row, hrow⟩ : ∃ row, row = big.drop 20 := ⟨_, rfl⟩
  have hrl : row.length = 1000 := by rw [hrow, List.length_drop, hfl]
  have hr4 : ∀ i ∈ row, 0 ≤ i ∧ i ≤ 3 := fun i hi => by
    rw [hrow] at hi
    exact hb4 i (List.mem_of_mem_drop hi)
  have qc0 : Sim.cutD (big.map D.int) (some (-1000)) none = (big.drop (big.length - 1000)).map D.int := cut_last 1000 (by decide)
  have qc : Sim.cutD (big.map D.int) (some (-1000)) none = row.map D.int := by
    rw [hrow, qc0, hfl]
  unfold law_s8 law_s9 law_s10 law_s11
  try simp -implicitDefEqProofs only [qm, qc, Tgt.put, Tgt.puts, Sim.sM_pass, Sim.sM_seq, Sim.sM_asg, Sim.sM_ret, Sim.sM_expr, Sim.sM_if, Sim.sM_par, Sim.sM_asgT, Sim.sM_set, Sim.ret_bind, Sim.bind_assoc, Sim.x_var0, Sim.x_varS, Sim.x_C, Sim.x_op, Sim.x_un, Sim.x_A, Sim.x_nil, Sim.x_cons, Sim.x_call, Sim.x_and, Sim.x_or, Sim.x_not, Sim.x_if, Sim.x_tV, Sim.x_tCmp, Sim.x_tTru, Sim.x_tNot, Sim.x_tAnd, Sim.x_tOr, Sim.x_asB, Sim.x_sl, Sim.x_oNone, Sim.x_oSome, Sim.x_asI, Sim.x_trN, Sim.x_trB, Sim.x_trI, Sim.x_trL, Sim.x_trR, Sim.x_trT, Sim.x_add, Sim.x_sub, Sim.x_neg, Sim.x_lt, Sim.x_le, Sim.x_gt, Sim.x_ge, Sim.x_abs, Sim.x_max2, Sim.x_min2, Sim.x_intI, Sim.x_intB, Sim.x_eqI, Sim.x_neI, Sim.x_eqS, Sim.x_neS, Sim.x_lst, Sim.x_tup, Sim.x_lenL, Sim.x_lenT, Sim.x_lenR, Sim.x_tupleL, Sim.x_listL, Sim.x_listT, Sim.x_slL, Sim.x_slR, Sim.x_slT, Sim.callM, Sim.arrOf, List.filterMap_cons, List.filterMap_nil, List.getElem?_cons_zero, List.getElem?_cons_succ, List.cons_append, List.nil_append, List.append_nil, List.length_cons, List.length_nil, and_self, if_true, List.set_cons_zero, List.set_cons_succ, Bool.false_eq_true, if_false, Nat.reduceAdd, Nat.reduceSub, List.map_cons, List.map_nil, List.replicate_succ, List.replicate_zero, Bool.not_true, Bool.not_false, Sim.x_sized, Nat.reduceLeDiff, Nat.zero_add, Bool.true_and, Bool.false_and, Bool.and_true, Bool.and_false, Bool.true_or, Bool.false_or, Bool.or_true, Bool.or_false, Bool.and_self, decide_true, decide_false]
  refine T.rn hk hB (r_draw (by decide) (by decide)) fun v ⟨l, e, l0, l1⟩ => ?_
  subst e
  try simp -implicitDefEqProofs only [Tgt.put, Tgt.puts, Sim.sM_pass, Sim.sM_seq, Sim.sM_asg, Sim.sM_ret, Sim.sM_expr, Sim.sM_if, Sim.sM_par, Sim.sM_asgT, Sim.sM_set, Sim.ret_bind, Sim.bind_assoc, Sim.x_var0, Sim.x_varS, Sim.x_C, Sim.x_op, Sim.x_un, Sim.x_A, Sim.x_nil, Sim.x_cons, Sim.x_call, Sim.x_and, Sim.x_or, Sim.x_not, Sim.x_if, Sim.x_tV, Sim.x_tCmp, Sim.x_tTru, Sim.x_tNot, Sim.x_tAnd, Sim.x_tOr, Sim.x_asB, Sim.x_sl, Sim.x_oNone, Sim.x_oSome, Sim.x_asI, Sim.x_trN, Sim.x_trB, Sim.x_trI, Sim.x_trL, Sim.x_trR, Sim.x_trT, Sim.x_add, Sim.x_sub, Sim.x_neg, Sim.x_lt, Sim.x_le, Sim.x_gt, Sim.x_ge, Sim.x_abs, Sim.x_max2, Sim.x_min2, Sim.x_intI, Sim.x_intB, Sim.x_eqI, Sim.x_neI, Sim.x_eqS, Sim.x_neS, Sim.x_lst, Sim.x_tup, Sim.x_lenL, Sim.x_lenT, Sim.x_lenR, Sim.x_tupleL, Sim.x_listL, Sim.x_listT, Sim.x_slL, Sim.x_slR, Sim.x_slT, Sim.callM, Sim.arrOf, List.filterMap_cons, List.filterMap_nil, List.getElem?_cons_zero, List.getElem?_cons_succ, List.cons_append, List.nil_append, List.append_nil, List.length_cons, List.length_nil, and_self, if_true, List.set_cons_zero, List.set_cons_succ, Bool.false_eq_true, if_false, Nat.reduceAdd, Nat.reduceSub, List.map_cons, List.map_nil, List.replicate_succ, List.replicate_zero, Bool.not_true, Bool.not_false, Sim.x_sized, Nat.reduceLeDiff, Nat.zero_add, Bool.true_and, Bool.false_and, Bool.and_true, Bool.and_false, Bool.true_or, Bool.false_or, Bool.or_true, Bool.or_false, Bool.and_self, decide_true, decide_false]
  rw [any_retB (wk_seq (v := lW ws) (g := tI) (xs := ws) (by try simp -implicitDefEqProofs only [Sim.sM_pass, Sim.sM_seq, Sim.sM_asg, Sim.sM_ret, Sim.sM_expr, Sim.sM_if, Sim.sM_par, Sim.sM_asgT, Sim.sM_set, Sim.ret_bind, Sim.bind_assoc, Sim.x_var0, Sim.x_varS, Sim.x_C, Sim.x_op, Sim.x_un, Sim.x_A, Sim.x_nil, Sim.x_cons, Sim.x_call, Sim.x_and, Sim.x_or, Sim.x_not, Sim.x_if, Sim.x_tV, Sim.x_tCmp, Sim.x_tTru, Sim.x_tNot, Sim.x_tAnd, Sim.x_tOr, Sim.x_asB, Sim.x_sl, Sim.x_oNone, Sim.x_oSome, Sim.x_asI, Sim.x_trN, Sim.x_trB, Sim.x_trI, Sim.x_trL, Sim.x_trR, Sim.x_trT, Sim.x_add, Sim.x_sub, Sim.x_neg, Sim.x_lt, Sim.x_le, Sim.x_gt, Sim.x_ge, Sim.x_abs, Sim.x_max2, Sim.x_min2, Sim.x_intI, Sim.x_intB, Sim.x_eqI, Sim.x_neI, Sim.x_eqS, Sim.x_neS, Sim.x_lst, Sim.x_tup, Sim.x_lenL, Sim.x_lenT, Sim.x_lenR, Sim.x_tupleL, Sim.x_listL, Sim.x_listT, Sim.x_slL, Sim.x_slR, Sim.x_slT, Sim.callM, Sim.arrOf, List.filterMap_cons, List.filterMap_nil, List.getElem?_cons_zero, List.getElem?_cons_succ, List.cons_append, List.nil_append, List.append_nil, List.length_cons, List.length_nil, and_self, if_true, List.set_cons_zero, List.set_cons_succ, Bool.false_eq_true, if_false, Nat.reduceAdd, Nat.reduceSub, List.map_cons, List.map_nil, List.replicate_succ, List.replicate_zero, Bool.not_true, Bool.not_false, Sim.x_sized, Nat.reduceLeDiff, Nat.zero_add, Bool.true_and, Bool.false_and, Bool.and_true, Bool.and_false, Bool.true_or, Bool.false_or, Bool.or_true, Bool.or_false, Bool.and_self, decide_true, decide_false]) rfl) (fun w => decide (row.drop (row.length - w.length) = w)) (by omega) fun w hw => ⟨_, x_put1, by
    try simp -implicitDefEqProofs only [Sim.wipeE, Sim.sM_pass, Sim.sM_seq, Sim.sM_asg, Sim.sM_ret, Sim.sM_expr, Sim.sM_if, Sim.sM_par, Sim.sM_asgT, Sim.sM_set, Sim.ret_bind, Sim.bind_assoc, Sim.x_var0, Sim.x_varS, Sim.x_C, Sim.x_op, Sim.x_un, Sim.x_A, Sim.x_nil, Sim.x_cons, Sim.x_call, Sim.x_and, Sim.x_or, Sim.x_not, Sim.x_if, Sim.x_tV, Sim.x_tCmp, Sim.x_tTru, Sim.x_tNot, Sim.x_tAnd, Sim.x_tOr, Sim.x_asB, Sim.x_sl, Sim.x_oNone, Sim.x_oSome, Sim.x_asI, Sim.x_trN, Sim.x_trB, Sim.x_trI, Sim.x_trL, Sim.x_trR, Sim.x_trT, Sim.x_add, Sim.x_sub, Sim.x_neg, Sim.x_lt, Sim.x_le, Sim.x_gt, Sim.x_ge, Sim.x_abs, Sim.x_max2, Sim.x_min2, Sim.x_intI, Sim.x_intB, Sim.x_eqI, Sim.x_neI, Sim.x_eqS, Sim.x_neS, Sim.x_lst, Sim.x_tup, Sim.x_lenL, Sim.x_lenT, Sim.x_lenR, Sim.x_tupleL, Sim.x_listL, Sim.x_listT, Sim.x_slL, Sim.x_slR, Sim.x_slT, Sim.callM, Sim.arrOf, List.filterMap_cons, List.filterMap_nil, List.getElem?_cons_zero, List.getElem?_cons_succ, List.cons_append, List.nil_append, List.append_nil, List.length_cons, List.length_nil, and_self, if_true, List.set_cons_zero, List.set_cons_succ, Bool.false_eq_true, if_false, Nat.reduceAdd, Nat.reduceSub, List.map_cons, List.map_nil, List.replicate_succ, List.replicate_zero, Bool.not_true, Bool.not_false, Sim.x_sized, Nat.reduceLeDiff, Nat.zero_add, Bool.true_and, Bool.false_and, Bool.and_true, Bool.and_false, Bool.true_or, Bool.false_or, Bool.or_true, Bool.or_false, Bool.and_self, decide_true, decide_false]
    have hp : 0 < w.length := List.length_pos_iff.mpr (g.ne w hw)
    rw [List.length_map, cut_last _ hp]
    exact x_eqTI _ _⟩]
  have q8 : (ws.any fun w => decide (row.drop (row.length - w.length) = w)) = breaks ws row := rfl
  rw [q8]
  have q6 : m_is_broken [barD ws, tI row] = M.ret (.bl (breaks ws row)) := e_is_broken g rfl (low_tI _) (by omega) hr4
  have q7 : m_is_broken [barD ws, .lst []] = M.ret (.bl false) := by
    have := e_is_broken g (d := .lst []) (y := []) rfl rfl (by simp) (fun i hi => by cases hi)
    rw [breaks_nil g.ne] at this
    exact this
  try simp -implicitDefEqProofs only [q6, q7, e_truth, Sim.sM_pass, Sim.sM_seq, Sim.sM_asg, Sim.sM_ret, Sim.sM_expr, Sim.sM_if, Sim.sM_par, Sim.sM_asgT, Sim.sM_set, Sim.ret_bind, Sim.bind_assoc, Sim.x_var0, Sim.x_varS, Sim.x_C, Sim.x_op, Sim.x_un, Sim.x_A, Sim.x_nil, Sim.x_cons, Sim.x_call, Sim.x_and, Sim.x_or, Sim.x_not, Sim.x_if, Sim.x_tV, Sim.x_tCmp, Sim.x_tTru, Sim.x_tNot, Sim.x_tAnd, Sim.x_tOr, Sim.x_asB, Sim.x_sl, Sim.x_oNone, Sim.x_oSome, Sim.x_asI, Sim.x_trN, Sim.x_trB, Sim.x_trI, Sim.x_trL, Sim.x_trR, Sim.x_trT, Sim.x_add, Sim.x_sub, Sim.x_neg, Sim.x_lt, Sim.x_le, Sim.x_gt, Sim.x_ge, Sim.x_abs, Sim.x_max2, Sim.x_min2, Sim.x_intI, Sim.x_intB, Sim.x_eqI, Sim.x_neI, Sim.x_eqS, Sim.x_neS, Sim.x_lst, Sim.x_tup, Sim.x_lenL, Sim.x_lenT, Sim.x_lenR, Sim.x_tupleL, Sim.x_listL, Sim.x_listT, Sim.x_slL, Sim.x_slR, Sim.x_slT, Sim.callM, Sim.arrOf, List.filterMap_cons, List.filterMap_nil, List.getElem?_cons_zero, List.getElem?_cons_succ, List.cons_append, List.nil_append, List.append_nil, List.length_cons, List.length_nil, and_self, if_true, List.set_cons_zero, List.set_cons_succ, Bool.false_eq_true, if_false, Nat.reduceAdd, Nat.reduceSub, List.map_cons, List.map_nil, List.replicate_succ, List.replicate_zero, Bool.not_true, Bool.not_false, Sim.x_sized, Nat.reduceLeDiff, Nat.zero_add, Bool.true_and, Bool.false_and, Bool.and_true, Bool.and_false, Bool.true_or, Bool.false_or, Bool.or_true, Bool.or_false, Bool.and_self, decide_true, decide_false]
  have e1 : row.map D.int ++ [D.int l] = (row ++ [l]).map D.int := by rw [List.map_append]; rfl
  rw [e_far g (d := tI row) (y := row) rfl (low_tI _) (by omega) hr4 (by omega)]
  try simp -implicitDefEqProofs only [Sim.sM_pass, Sim.sM_seq, Sim.sM_asg, Sim.sM_ret, Sim.sM_expr, Sim.sM_if, Sim.sM_par, Sim.sM_asgT, Sim.sM_set, Sim.ret_bind, Sim.bind_assoc, Sim.x_var0, Sim.x_varS, Sim.x_C, Sim.x_op, Sim.x_un, Sim.x_A, Sim.x_nil, Sim.x_cons, Sim.x_call, Sim.x_and, Sim.x_or, Sim.x_not, Sim.x_if, Sim.x_tV, Sim.x_tCmp, Sim.x_tTru, Sim.x_tNot, Sim.x_tAnd, Sim.x_tOr, Sim.x_asB, Sim.x_sl, Sim.x_oNone, Sim.x_oSome, Sim.x_asI, Sim.x_trN, Sim.x_trB, Sim.x_trI, Sim.x_trL, Sim.x_trR, Sim.x_trT, Sim.x_add, Sim.x_sub, Sim.x_neg, Sim.x_lt, Sim.x_le, Sim.x_gt, Sim.x_ge, Sim.x_abs, Sim.x_max2, Sim.x_min2, Sim.x_intI, Sim.x_intB, Sim.x_eqI, Sim.x_neI, Sim.x_eqS, Sim.x_neS, Sim.x_lst, Sim.x_tup, Sim.x_lenL, Sim.x_lenT, Sim.x_lenR, Sim.x_tupleL, Sim.x_listL, Sim.x_listT, Sim.x_slL, Sim.x_slR, Sim.x_slT, Sim.callM, Sim.arrOf, List.filterMap_cons, List.filterMap_nil, List.getElem?_cons_zero, List.getElem?_cons_succ, List.cons_append, List.nil_append, List.append_nil, List.length_cons, List.length_nil, and_self, if_true, List.set_cons_zero, List.set_cons_succ, Bool.false_eq_true, if_false, Nat.reduceAdd, Nat.reduceSub, List.map_cons, List.map_nil, List.replicate_succ, List.replicate_zero, Bool.not_true, Bool.not_false, Sim.x_sized, Nat.reduceLeDiff, Nat.zero_add, Bool.true_and, Bool.false_and, Bool.and_true, Bool.and_false, Bool.true_or, Bool.false_or, Bool.or_true, Bool.or_false, Bool.and_self, decide_true, decide_false]
  rw [x_addT (by simp; omega), e1]
  try simp -implicitDefEqProofs only [Sim.sM_pass, Sim.sM_seq, Sim.sM_asg, Sim.sM_ret, Sim.sM_expr, Sim.sM_if, Sim.sM_par, Sim.sM_asgT, Sim.sM_set, Sim.ret_bind, Sim.bind_assoc, Sim.x_var0, Sim.x_varS, Sim.x_C, Sim.x_op, Sim.x_un, Sim.x_A, Sim.x_nil, Sim.x_cons, Sim.x_call, Sim.x_and, Sim.x_or, Sim.x_not, Sim.x_if, Sim.x_tV, Sim.x_tCmp, Sim.x_tTru, Sim.x_tNot, Sim.x_tAnd, Sim.x_tOr, Sim.x_asB, Sim.x_sl, Sim.x_oNone, Sim.x_oSome, Sim.x_asI, Sim.x_trN, Sim.x_trB, Sim.x_trI, Sim.x_trL, Sim.x_trR, Sim.x_trT, Sim.x_add, Sim.x_sub, Sim.x_neg, Sim.x_lt, Sim.x_le, Sim.x_gt, Sim.x_ge, Sim.x_abs, Sim.x_max2, Sim.x_min2, Sim.x_intI, Sim.x_intB, Sim.x_eqI, Sim.x_neI, Sim.x_eqS, Sim.x_neS, Sim.x_lst, Sim.x_tup, Sim.x_lenL, Sim.x_lenT, Sim.x_lenR, Sim.x_tupleL, Sim.x_listL, Sim.x_listT, Sim.x_slL, Sim.x_slR, Sim.x_slT, Sim.callM, Sim.arrOf, List.filterMap_cons, List.filterMap_nil, List.getElem?_cons_zero, List.getElem?_cons_succ, List.cons_append, List.nil_append, List.append_nil, List.length_cons, List.length_nil, and_self, if_true, List.set_cons_zero, List.set_cons_succ, Bool.false_eq_true, if_false, Nat.reduceAdd, Nat.reduceSub, List.map_cons, List.map_nil, List.replicate_succ, List.replicate_zero, Bool.not_true, Bool.not_false, Sim.x_sized, Nat.reduceLeDiff, Nat.zero_add, Bool.true_and, Bool.false_and, Bool.and_true, Bool.and_false, Bool.true_or, Bool.false_or, Bool.or_true, Bool.or_false, Bool.and_self, decide_true, decide_false]
  rw [e_law_far few.2 g.six (by rw [List.length_append, hrl]; simp)]
  try simp -implicitDefEqProofs only [Sim.sM_pass, Sim.sM_seq, Sim.sM_asg, Sim.sM_ret, Sim.sM_expr, Sim.sM_if, Sim.sM_par, Sim.sM_asgT, Sim.sM_set, Sim.ret_bind, Sim.bind_assoc, Sim.x_var0, Sim.x_varS, Sim.x_C, Sim.x_op, Sim.x_un, Sim.x_A, Sim.x_nil, Sim.x_cons, Sim.x_call, Sim.x_and, Sim.x_or, Sim.x_not, Sim.x_if, Sim.x_tV, Sim.x_tCmp, Sim.x_tTru, Sim.x_tNot, Sim.x_tAnd, Sim.x_tOr, Sim.x_asB, Sim.x_sl, Sim.x_oNone, Sim.x_oSome, Sim.x_asI, Sim.x_trN, Sim.x_trB, Sim.x_trI, Sim.x_trL, Sim.x_trR, Sim.x_trT, Sim.x_add, Sim.x_sub, Sim.x_neg, Sim.x_lt, Sim.x_le, Sim.x_gt, Sim.x_ge, Sim.x_abs, Sim.x_max2, Sim.x_min2, Sim.x_intI, Sim.x_intB, Sim.x_eqI, Sim.x_neI, Sim.x_eqS, Sim.x_neS, Sim.x_lst, Sim.x_tup, Sim.x_lenL, Sim.x_lenT, Sim.x_lenR, Sim.x_tupleL, Sim.x_listL, Sim.x_listT, Sim.x_slL, Sim.x_slR, Sim.x_slT, Sim.callM, Sim.arrOf, List.filterMap_cons, List.filterMap_nil, List.getElem?_cons_zero, List.getElem?_cons_succ, List.cons_append, List.nil_append, List.append_nil, List.length_cons, List.length_nil, and_self, if_true, List.set_cons_zero, List.set_cons_succ, Bool.false_eq_true, if_false, Nat.reduceAdd, Nat.reduceSub, List.map_cons, List.map_nil, List.replicate_succ, List.replicate_zero, Bool.not_true, Bool.not_false, Sim.x_sized, Nat.reduceLeDiff, Nat.zero_add, Bool.true_and, Bool.false_and, Bool.and_true, Bool.and_false, Bool.true_or, Bool.false_or, Bool.or_true, Bool.or_false, Bool.and_self, decide_true, decide_false]
  have hfr := farF_len g.six (row ++ [l])
  rw [e_plain (by omega)]
  try simp -implicitDefEqProofs only [Sim.sM_pass, Sim.sM_seq, Sim.sM_asg, Sim.sM_ret, Sim.sM_expr, Sim.sM_if, Sim.sM_par, Sim.sM_asgT, Sim.sM_set, Sim.ret_bind, Sim.bind_assoc, Sim.x_var0, Sim.x_varS, Sim.x_C, Sim.x_op, Sim.x_un, Sim.x_A, Sim.x_nil, Sim.x_cons, Sim.x_call, Sim.x_and, Sim.x_or, Sim.x_not, Sim.x_if, Sim.x_tV, Sim.x_tCmp, Sim.x_tTru, Sim.x_tNot, Sim.x_tAnd, Sim.x_tOr, Sim.x_asB, Sim.x_sl, Sim.x_oNone, Sim.x_oSome, Sim.x_asI, Sim.x_trN, Sim.x_trB, Sim.x_trI, Sim.x_trL, Sim.x_trR, Sim.x_trT, Sim.x_add, Sim.x_sub, Sim.x_neg, Sim.x_lt, Sim.x_le, Sim.x_gt, Sim.x_ge, Sim.x_abs, Sim.x_max2, Sim.x_min2, Sim.x_intI, Sim.x_intB, Sim.x_eqI, Sim.x_neI, Sim.x_eqS, Sim.x_neS, Sim.x_lst, Sim.x_tup, Sim.x_lenL, Sim.x_lenT, Sim.x_lenR, Sim.x_tupleL, Sim.x_listL, Sim.x_listT, Sim.x_slL, Sim.x_slR, Sim.x_slT, Sim.callM, Sim.arrOf, List.filterMap_cons, List.filterMap_nil, List.getElem?_cons_zero, List.getElem?_cons_succ, List.cons_append, List.nil_append, List.append_nil, List.length_cons, List.length_nil, and_self, if_true, List.set_cons_zero, List.set_cons_succ, Bool.false_eq_true, if_false, Nat.reduceAdd, Nat.reduceSub, List.map_cons, List.map_nil, List.replicate_succ, List.replicate_zero, Bool.not_true, Bool.not_false, Sim.x_sized, Nat.reduceLeDiff, Nat.zero_add, Bool.true_and, Bool.false_and, Bool.and_true, Bool.and_false, Bool.true_or, Bool.false_or, Bool.or_true, Bool.or_false, Bool.and_self, decide_true, decide_false]
  exact T.ret fun st hst => rfl
end
end K15
end

section
open PySem PySem.Spec PyProof.Rows L2 RZ Sim
namespace K15
/-- the facts of the top, as a hand at the end -/
def mkTX {K : PySem.W.Frag} {mg : Str → Option Value} {h : Heap} (X : K.In h) (G : h.Ns mainGlobals mg)
  {a_Bar : Addr}
  {f0 : Addr} {oc0 kV0 doc0 pm0 cd0 ct0 : Value} {od0 an0 : Option Addr} {sl0 : Array (Option Value)}
  {f1 : Addr} {oc1 kV1 doc1 pm1 cd1 ct1 : Value} {od1 an1 : Option Addr} {sl1 : Array (Option Value)}
  {f2 : Addr} {oc2 kV2 doc2 pm2 cd2 ct2 : Value} {od2 an2 : Option Addr} {sl2 : Array (Option Value)}
  {t2 : Addr}
  {f3 : Addr} {oc3 kV3 doc3 pm3 cd3 ct3 : Value} {od3 an3 : Option Addr} {sl3 : Array (Option Value)}
  {f4 : Addr} {oc4 kV4 doc4 pm4 cd4 ct4 : Value} {od4 an4 : Option Addr} {sl4 : Array (Option Value)}
  {t4 : Addr}
  {f5 : Addr} {oc5 kV5 doc5 pm5 cd5 ct5 : Value} {od5 an5 : Option Addr} {sl5 : Array (Option Value)}
  {t5 : Addr}
  {f6 : Addr} {oc6 kV6 doc6 pm6 cd6 ct6 : Value} {od6 an6 : Option Addr} {sl6 : Array (Option Value)}
  {f7 : Addr} {oc7 kV7 doc7 pm7 cd7 ct7 : Value} {od7 an7 : Option Addr} {sl7 : Array (Option Value)}
  {f8 : Addr} {oc8 kV8 doc8 pm8 cd8 ct8 : Value} {od8 an8 : Option Addr} {sl8 : Array (Option Value)}
  {f9 : Addr} {oc9 kV9 doc9 pm9 cd9 ct9 : Value} {od9 an9 : Option Addr} {sl9 : Array (Option Value)}
  {f10 : Addr} {oc10 kV10 doc10 pm10 cd10 ct10 : Value} {od10 an10 : Option Addr} {sl10 : Array (Option Value)}
  {f11 : Addr} {oc11 kV11 doc11 pm11 cd11 ct11 : Value} {od11 an11 : Option Addr} {sl11 : Array (Option Value)}
  {f12 : Addr} {oc12 kV12 doc12 pm12 cd12 ct12 : Value} {od12 an12 : Option Addr} {sl12 : Array (Option Value)}
  {f13 : Addr} {oc13 kV13 doc13 pm13 cd13 ct13 : Value} {od13 an13 : Option Addr} {sl13 : Array (Option Value)}
  {f14 : Addr} {oc14 kV14 doc14 pm14 cd14 ct14 : Value} {od14 an14 : Option Addr} {sl14 : Array (Option Value)}
  {f15 : Addr} {oc15 kV15 doc15 pm15 cd15 ct15 : Value} {od15 an15 : Option Addr} {sl15 : Array (Option Value)}
  {f16 : Addr} {oc16 kV16 doc16 pm16 cd16 ct16 : Value} {od16 an16 : Option Addr} {sl16 : Array (Option Value)}
  {f17 : Addr} {oc17 kV17 doc17 pm17 cd17 ct17 : Value} {od17 an17 : Option Addr} {sl17 : Array (Option Value)}
  {f18 : Addr} {oc18 kV18 doc18 pm18 cd18 ct18 : Value} {od18 an18 : Option Addr} {sl18 : Array (Option Value)}
  {f19 : Addr} {oc19 kV19 doc19 pm19 cd19 ct19 : Value} {od19 an19 : Option Addr} {sl19 : Array (Option Value)}
  {f20 : Addr} {oc20 kV20 doc20 pm20 cd20 ct20 : Value} {od20 an20 : Option Addr} {sl20 : Array (Option Value)}
  {f21 : Addr} {oc21 kV21 doc21 pm21 cd21 ct21 : Value} {od21 an21 : Option Addr} {sl21 : Array (Option Value)}
  {f22 : Addr} {oc22 kV22 doc22 pm22 cd22 ct22 : Value} {od22 an22 : Option Addr} {sl22 : Array (Option Value)}
  {f23 : Addr} {oc23 kV23 doc23 pm23 cd23 ct23 : Value} {od23 an23 : Option Addr} {sl23 : Array (Option Value)}
  {tk_MOST_LETTERS : Tok}
  {tk_MOST_WORDS : Tok}
  (n_Bar : PySem.W.nsIn K mainGlobals "Bar" = some (some (.ref a_Bar)))
  (n0 : PySem.W.nsIn K mainGlobals "is_integer" = some (some (.ref f0)))
  (l0 : K.lookup f0 = some ⟨oc0, od0, .func (PySem.W.fnOf "is_integer" "is_integer" (defArgs s_is_integer) (defBody s_is_integer) (defScope s_is_integer) .none kV0 doc0 pm0 an0 cd0 ct0), sl0⟩)
  (c0 : PySem.W.codeIn K cd0 "is_integer" = true)
  (k0 : PySem.W.keepIn K (.ref f0) = true)
  (n1 : PySem.W.nsIn K mainGlobals "is_within" = some (some (.ref f1)))
  (l1 : K.lookup f1 = some ⟨oc1, od1, .func (PySem.W.fnOf "is_within" "is_within" (defArgs s_is_within) (defBody s_is_within) (defScope s_is_within) .none kV1 doc1 pm1 an1 cd1 ct1), sl1⟩)
  (c1 : PySem.W.codeIn K cd1 "is_within" = true)
  (k1 : PySem.W.keepIn K (.ref f1) = true)
  (n2 : PySem.W.nsIn K mainGlobals "need_number" = some (some (.ref f2)))
  (l2 : K.lookup f2 = some ⟨oc2, od2, .func (PySem.W.fnOf "need_number" "need_number" (defArgs s_need_number) (defBody s_need_number) (defScope s_need_number) (.ref t2) kV2 doc2 pm2 an2 cd2 ct2), sl2⟩)
  (c2 : PySem.W.codeIn K cd2 "need_number" = true)
  (k2 : PySem.W.keepIn K (.ref f2) = true)
  (t2l : ∃ (od : Option Addr) (its : List Value) (n : Nat) (sl : Array (Option Value)), K.lookup t2 = some ⟨.type "tuple", od, .seq its.toArray n, sl⟩ ∧ Vals [.non, .non] its)
  (n3 : PySem.W.nsIn K mainGlobals "is_list" = some (some (.ref f3)))
  (l3 : K.lookup f3 = some ⟨oc3, od3, .func (PySem.W.fnOf "is_list" "is_list" (defArgs s_is_list) (defBody s_is_list) (defScope s_is_list) .none kV3 doc3 pm3 an3 cd3 ct3), sl3⟩)
  (c3 : PySem.W.codeIn K cd3 "is_list" = true)
  (k3 : PySem.W.keepIn K (.ref f3) = true)
  (n4 : PySem.W.nsIn K mainGlobals "is_text" = some (some (.ref f4)))
  (l4 : K.lookup f4 = some ⟨oc4, od4, .func (PySem.W.fnOf "is_text" "is_text" (defArgs s_is_text) (defBody s_is_text) (defScope s_is_text) (.ref t4) kV4 doc4 pm4 an4 cd4 ct4), sl4⟩)
  (c4 : PySem.W.codeIn K cd4 "is_text" = true)
  (k4 : PySem.W.keepIn K (.ref f4) = true)
  (t4l : ∃ (od : Option Addr) (its : List Value) (n : Nat) (sl : Array (Option Value)), K.lookup t4 = some ⟨.type "tuple", od, .seq its.toArray n, sl⟩ ∧ Vals [.int 1000] its)
  (n5 : PySem.W.nsIn K mainGlobals "need_text" = some (some (.ref f5)))
  (l5 : K.lookup f5 = some ⟨oc5, od5, .func (PySem.W.fnOf "need_text" "need_text" (defArgs s_need_text) (defBody s_need_text) (defScope s_need_text) (.ref t5) kV5 doc5 pm5 an5 cd5 ct5), sl5⟩)
  (c5 : PySem.W.codeIn K cd5 "need_text" = true)
  (k5 : PySem.W.keepIn K (.ref f5) = true)
  (t5l : ∃ (od : Option Addr) (its : List Value) (n : Nat) (sl : Array (Option Value)), K.lookup t5 = some ⟨.type "tuple", od, .seq its.toArray n, sl⟩ ∧ Vals [.str "text", .int 1000] its)
  (n6 : PySem.W.nsIn K mainGlobals "far_on" = some (some (.ref f6)))
  (l6 : K.lookup f6 = some ⟨oc6, od6, .func (PySem.W.fnOf "far_on" "far_on" (defArgs s_far_on) (defBody s_far_on) (defScope s_far_on) .none kV6 doc6 pm6 an6 cd6 ct6), sl6⟩)
  (c6 : PySem.W.codeIn K cd6 "far_on" = true)
  (k6 : PySem.W.keepIn K (.ref f6) = true)
  (n7 : PySem.W.nsIn K mainGlobals "need_bar" = some (some (.ref f7)))
  (l7 : K.lookup f7 = some ⟨oc7, od7, .func (PySem.W.fnOf "need_bar" "need_bar" (defArgs s_need_bar) (defBody s_need_bar) (defScope s_need_bar) .none kV7 doc7 pm7 an7 cd7 ct7), sl7⟩)
  (c7 : PySem.W.codeIn K cd7 "need_bar" = true)
  (k7 : PySem.W.keepIn K (.ref f7) = true)
  (n8 : PySem.W.nsIn K mainGlobals "far" = some (some (.ref f8)))
  (l8 : K.lookup f8 = some ⟨oc8, od8, .func (PySem.W.fnOf "far" "far" (defArgs s_far) (defBody s_far) (defScope s_far) .none kV8 doc8 pm8 an8 cd8 ct8), sl8⟩)
  (c8 : PySem.W.codeIn K cd8 "far" = true)
  (k8 : PySem.W.keepIn K (.ref f8) = true)
  (n9 : PySem.W.nsIn K mainGlobals "breaks_at" = some (some (.ref f9)))
  (l9 : K.lookup f9 = some ⟨oc9, od9, .func (PySem.W.fnOf "breaks_at" "breaks_at" (defArgs s_breaks_at) (defBody s_breaks_at) (defScope s_breaks_at) .none kV9 doc9 pm9 an9 cd9 ct9), sl9⟩)
  (c9 : PySem.W.codeIn K cd9 "breaks_at" = true)
  (k9 : PySem.W.keepIn K (.ref f9) = true)
  (n10 : PySem.W.nsIn K mainGlobals "is_broken" = some (some (.ref f10)))
  (l10 : K.lookup f10 = some ⟨oc10, od10, .func (PySem.W.fnOf "is_broken" "is_broken" (defArgs s_is_broken) (defBody s_is_broken) (defScope s_is_broken) .none kV10 doc10 pm10 an10 cd10 ct10), sl10⟩)
  (c10 : PySem.W.codeIn K cd10 "is_broken" = true)
  (k10 : PySem.W.keepIn K (.ref f10) = true)
  (n11 : PySem.W.nsIn K mainGlobals "_law_pen" = some (some (.ref f11)))
  (l11 : K.lookup f11 = some ⟨oc11, od11, .func (PySem.W.fnOf "_law_pen" "_law_pen" (defArgs s__law_pen) (defBody s__law_pen) (defScope s__law_pen) .none kV11 doc11 pm11 an11 cd11 ct11), sl11⟩)
  (c11 : PySem.W.codeIn K cd11 "_law_pen" = true)
  (k11 : PySem.W.keepIn K (.ref f11) = true)
  (n12 : PySem.W.nsIn K mainGlobals "_law_draw" = some (some (.ref f12)))
  (l12 : K.lookup f12 = some ⟨oc12, od12, .func (PySem.W.fnOf "_law_draw" "_law_draw" (defArgs s__law_draw) (defBody s__law_draw) (defScope s__law_draw) .none kV12 doc12 pm12 an12 cd12 ct12), sl12⟩)
  (c12 : PySem.W.codeIn K cd12 "_law_draw" = true)
  (k12 : PySem.W.keepIn K (.ref f12) = true)
  (n13 : PySem.W.nsIn K mainGlobals "_law_pick" = some (some (.ref f13)))
  (l13 : K.lookup f13 = some ⟨oc13, od13, .func (PySem.W.fnOf "_law_pick" "_law_pick" (defArgs s__law_pick) (defBody s__law_pick) (defScope s__law_pick) .none kV13 doc13 pm13 an13 cd13 ct13), sl13⟩)
  (c13 : PySem.W.codeIn K cd13 "_law_pick" = true)
  (k13 : PySem.W.keepIn K (.ref f13) = true)
  (n14 : PySem.W.findIn K (.ref a_Bar) "__init__" = some (some (.ref f14)))
  (i14 : PySem.W.isFn K (.ref f14) = true)
  (l14 : K.lookup f14 = some ⟨oc14, od14, .func (PySem.W.fnOf "__init__" "Bar.__init__" (defArgs s_Bar___init__) (defBody s_Bar___init__) (defScope s_Bar___init__) .none kV14 doc14 pm14 an14 cd14 ct14), sl14⟩)
  (c14 : PySem.W.codeIn K cd14 "Bar.__init__" = true)
  (k14 : PySem.W.keepIn K (.ref f14) = true)
  (n15 : PySem.W.nsIn K mainGlobals "_law_bar" = some (some (.ref f15)))
  (l15 : K.lookup f15 = some ⟨oc15, od15, .func (PySem.W.fnOf "_law_bar" "_law_bar" (defArgs s__law_bar) (defBody s__law_bar) (defScope s__law_bar) .none kV15 doc15 pm15 an15 cd15 ct15), sl15⟩)
  (c15 : PySem.W.codeIn K cd15 "_law_bar" = true)
  (k15 : PySem.W.keepIn K (.ref f15) = true)
  (n16 : PySem.W.nsIn K mainGlobals "_law_truth" = some (some (.ref f16)))
  (l16 : K.lookup f16 = some ⟨oc16, od16, .func (PySem.W.fnOf "_law_truth" "_law_truth" (defArgs s__law_truth) (defBody s__law_truth) (defScope s__law_truth) .none kV16 doc16 pm16 an16 cd16 ct16), sl16⟩)
  (c16 : PySem.W.codeIn K cd16 "_law_truth" = true)
  (k16 : PySem.W.keepIn K (.ref f16) = true)
  (n17 : PySem.W.nsIn K mainGlobals "_law_plain" = some (some (.ref f17)))
  (l17 : K.lookup f17 = some ⟨oc17, od17, .func (PySem.W.fnOf "_law_plain" "_law_plain" (defArgs s__law_plain) (defBody s__law_plain) (defScope s__law_plain) .none kV17 doc17 pm17 an17 cd17 ct17), sl17⟩)
  (c17 : PySem.W.codeIn K cd17 "_law_plain" = true)
  (k17 : PySem.W.keepIn K (.ref f17) = true)
  (n18 : PySem.W.nsIn K mainGlobals "_law_drawn" = some (some (.ref f18)))
  (l18 : K.lookup f18 = some ⟨oc18, od18, .func (PySem.W.fnOf "_law_drawn" "_law_drawn" (defArgs s__law_drawn) (defBody s__law_drawn) (defScope s__law_drawn) .none kV18 doc18 pm18 an18 cd18 ct18), sl18⟩)
  (c18 : PySem.W.codeIn K cd18 "_law_drawn" = true)
  (k18 : PySem.W.keepIn K (.ref f18) = true)
  (n19 : PySem.W.nsIn K mainGlobals "_law_far" = some (some (.ref f19)))
  (l19 : K.lookup f19 = some ⟨oc19, od19, .func (PySem.W.fnOf "_law_far" "_law_far" (defArgs s__law_far) (defBody s__law_far) (defScope s__law_far) .none kV19 doc19 pm19 an19 cd19 ct19), sl19⟩)
  (c19 : PySem.W.codeIn K cd19 "_law_far" = true)
  (k19 : PySem.W.keepIn K (.ref f19) = true)
  (n20 : PySem.W.nsIn K mainGlobals "_law_next" = some (some (.ref f20)))
  (l20 : K.lookup f20 = some ⟨oc20, od20, .func (PySem.W.fnOf "_law_next" "_law_next" (defArgs s__law_next) (defBody s__law_next) (defScope s__law_next) .none kV20 doc20 pm20 an20 cd20 ct20), sl20⟩)
  (c20 : PySem.W.codeIn K cd20 "_law_next" = true)
  (k20 : PySem.W.keepIn K (.ref f20) = true)
  (n21 : PySem.W.findIn K (.ref a_Bar) "__eq__" = some (some (.ref f21)))
  (i21 : PySem.W.isFn K (.ref f21) = true)
  (l21 : K.lookup f21 = some ⟨oc21, od21, .func (PySem.W.fnOf "__eq__" "Bar.__eq__" (defArgs s_Bar___eq__) (defBody s_Bar___eq__) (defScope s_Bar___eq__) .none kV21 doc21 pm21 an21 cd21 ct21), sl21⟩)
  (c21 : PySem.W.codeIn K cd21 "Bar.__eq__" = true)
  (k21 : PySem.W.keepIn K (.ref f21) = true)
  (n22 : PySem.W.nsIn K mainGlobals "_law_bar_right" = some (some (.ref f22)))
  (l22 : K.lookup f22 = some ⟨oc22, od22, .func (PySem.W.fnOf "_law_bar_right" "_law_bar_right" (defArgs s__law_bar_right) (defBody s__law_bar_right) (defScope s__law_bar_right) .none kV22 doc22 pm22 an22 cd22 ct22), sl22⟩)
  (c22 : PySem.W.codeIn K cd22 "_law_bar_right" = true)
  (k22 : PySem.W.keepIn K (.ref f22) = true)
  (n23 : PySem.W.nsIn K mainGlobals "law" = some (some (.ref f23)))
  (l23 : K.lookup f23 = some ⟨oc23, od23, .func (PySem.W.fnOf "law" "law" (defArgs s_law) (defBody s_law) (defScope s_law) .none kV23 doc23 pm23 an23 cd23 ct23), sl23⟩)
  (c23 : PySem.W.codeIn K cd23 "law" = true)
  (k23 : PySem.W.keepIn K (.ref f23) = true)
  (q_MOST_LETTERS : PySem.W.nsIn K mainGlobals "MOST_LETTERS" = some (some (.int 6 tk_MOST_LETTERS)))
  (q_MOST_WORDS : PySem.W.nsIn K mainGlobals "MOST_WORDS" = some (some (.int 3 tk_MOST_WORDS)))
  (z_abs : PySem.W.nsIn K mainGlobals "abs" = some none)
  (z_all : PySem.W.nsIn K mainGlobals "all" = some none)
  (z_any : PySem.W.nsIn K mainGlobals "any" = some none)
  (z_bool : PySem.W.nsIn K mainGlobals "bool" = some none)
  (z_int : PySem.W.nsIn K mainGlobals "int" = some none)
  (z_isinstance : PySem.W.nsIn K mainGlobals "isinstance" = some none)
  (z_len : PySem.W.nsIn K mainGlobals "len" = some none)
  (z_list : PySem.W.nsIn K mainGlobals "list" = some none)
  (z_max : PySem.W.nsIn K mainGlobals "max" = some none)
  (z_range : PySem.W.nsIn K mainGlobals "range" = some none)
  (z_set : PySem.W.nsIn K mainGlobals "set" = some none)
  (z_tuple : PySem.W.nsIn K mainGlobals "tuple" = some none)
  (z_zip : PySem.W.nsIn K mainGlobals "zip" = some none)
  (pg_Bar : PySem.W.plainGet K a_Bar Str.empty = true)
  (hd_Bar : PySem.W.hasDictIn K a_Bar = true)
  (po_Bar : PySem.W.plainOver K a_Bar = true)
  (sa_Bar : PySem.W.findIn K (.ref a_Bar) "__setattr__" = some (some (.builtin "object.__setattr__")))
  (ha_Bar : PySem.W.findIn K (.ref a_Bar) "__class__" = some (some (.builtin "object.__class__")))
  (hn_Bar : PySem.W.specialIn K (.builtin "object.__class__") "__get__" = some (some (.builtin "getset_descriptor.__get__")))
  (ht_Bar : PySem.W.takesIn K (.builtin "object.__class__") = some true)
  (hm_Bar : PySem.W.mroIn K a_Bar (.type "object") = some true)
  (no_Bar_words : PySem.W.findIn K (.ref a_Bar) "words" = some none)
  (mk_Bar : PySem.W.makesIn K a_Bar = true)
  (kc_Bar : PySem.W.keepIn K (.ref a_Bar) = true)
  (ne_Bar : PySem.W.findIn K (.ref a_Bar) "__ne__" = some (some (.builtin "object.__ne__")))
  (nf_Bar_0 : PySem.W.notFirst K a_Bar (.type "bool") = true)
  (nf_Bar_1 : PySem.W.notFirst K a_Bar (.type "int") = true)
  (nf_Bar_2 : PySem.W.notFirst K a_Bar (.type "str") = true)
  (nf_Bar_3 : PySem.W.notFirst K a_Bar (.type "list") = true)
  (nf_Bar_4 : PySem.W.notFirst K a_Bar (.type "tuple") = true)
  (nf_Bar_5 : PySem.W.notFirst K a_Bar (.type "dict") = true)
  (nf_Bar_6 : PySem.W.notFirst K a_Bar (.type "NoneType") = true)
  (ic_Bar : PySem.W.isClsIn K a_Bar = true)
  (ty_Bar : PySem.W.typeIn K (.ref a_Bar) = some (.type "type"))
  (sb_0 : PySem.W.subIn K (.type "bool") (.ref a_Bar) = some false)
  (sb_1 : PySem.W.subIn K (.type "int") (.ref a_Bar) = some false)
  (sb_2 : PySem.W.subIn K (.type "str") (.ref a_Bar) = some false)
  (sb_3 : PySem.W.subIn K (.type "list") (.ref a_Bar) = some false)
  (sb_4 : PySem.W.subIn K (.type "tuple") (.ref a_Bar) = some false)
  (sb_5 : PySem.W.subIn K (.type "dict") (.ref a_Bar) = some false)
  (sb_6 : PySem.W.subIn K (.type "NoneType") (.ref a_Bar) = some false)
  : TX K mg :=
  { a_Bar := a_Bar, m_Bar := PySem.W.mg_of X G n_Bar,
    f_is_integer := f0, fd_is_integer := _, F_is_integer := ⟨⟨oc0, od0, .none, kV0, doc0, pm0, an0, cd0, ct0, sl0, rfl, l0, c0, (.inl ⟨rfl, rfl⟩), .inl rfl⟩, k0⟩, m_is_integer := PySem.W.mg_of X G n0,
    f_is_within := f1, fd_is_within := _, F_is_within := ⟨⟨oc1, od1, .none, kV1, doc1, pm1, an1, cd1, ct1, sl1, rfl, l1, c1, (.inl ⟨rfl, rfl⟩), .inl rfl⟩, k1⟩, m_is_within := PySem.W.mg_of X G n1,
    f_need_number := f2, fd_need_number := _, F_need_number := ⟨⟨oc2, od2, (.ref t2), kV2, doc2, pm2, an2, cd2, ct2, sl2, rfl, l2, c2, (dfl_of t2l fun z => nomatch z), .inl rfl⟩, k2⟩, m_need_number := PySem.W.mg_of X G n2,
    f_is_list := f3, fd_is_list := _, F_is_list := ⟨⟨oc3, od3, .none, kV3, doc3, pm3, an3, cd3, ct3, sl3, rfl, l3, c3, (.inl ⟨rfl, rfl⟩), .inl rfl⟩, k3⟩, m_is_list := PySem.W.mg_of X G n3,
    f_is_text := f4, fd_is_text := _, F_is_text := ⟨⟨oc4, od4, (.ref t4), kV4, doc4, pm4, an4, cd4, ct4, sl4, rfl, l4, c4, (dfl_of t4l fun z => nomatch z), .inl rfl⟩, k4⟩, m_is_text := PySem.W.mg_of X G n4,
    f_need_text := f5, fd_need_text := _, F_need_text := ⟨⟨oc5, od5, (.ref t5), kV5, doc5, pm5, an5, cd5, ct5, sl5, rfl, l5, c5, (dfl_of t5l fun z => nomatch z), .inl rfl⟩, k5⟩, m_need_text := PySem.W.mg_of X G n5,
    f_far_on := f6, fd_far_on := _, F_far_on := ⟨⟨oc6, od6, .none, kV6, doc6, pm6, an6, cd6, ct6, sl6, rfl, l6, c6, (.inl ⟨rfl, rfl⟩), .inl rfl⟩, k6⟩, m_far_on := PySem.W.mg_of X G n6,
    f_need_bar := f7, fd_need_bar := _, F_need_bar := ⟨⟨oc7, od7, .none, kV7, doc7, pm7, an7, cd7, ct7, sl7, rfl, l7, c7, (.inl ⟨rfl, rfl⟩), .inl rfl⟩, k7⟩, m_need_bar := PySem.W.mg_of X G n7,
    f_far := f8, fd_far := _, F_far := ⟨⟨oc8, od8, .none, kV8, doc8, pm8, an8, cd8, ct8, sl8, rfl, l8, c8, (.inl ⟨rfl, rfl⟩), .inl rfl⟩, k8⟩, m_far := PySem.W.mg_of X G n8,
    f_breaks_at := f9, fd_breaks_at := _, F_breaks_at := ⟨⟨oc9, od9, .none, kV9, doc9, pm9, an9, cd9, ct9, sl9, rfl, l9, c9, (.inl ⟨rfl, rfl⟩), .inl rfl⟩, k9⟩, m_breaks_at := PySem.W.mg_of X G n9,
    f_is_broken := f10, fd_is_broken := _, F_is_broken := ⟨⟨oc10, od10, .none, kV10, doc10, pm10, an10, cd10, ct10, sl10, rfl, l10, c10, (.inl ⟨rfl, rfl⟩), .inl rfl⟩, k10⟩, m_is_broken := PySem.W.mg_of X G n10,
    f__law_pen := f11, fd__law_pen := _, F__law_pen := ⟨⟨oc11, od11, .none, kV11, doc11, pm11, an11, cd11, ct11, sl11, rfl, l11, c11, (.inl ⟨rfl, rfl⟩), .inl rfl⟩, k11⟩, m__law_pen := PySem.W.mg_of X G n11,
    f__law_draw := f12, fd__law_draw := _, F__law_draw := ⟨⟨oc12, od12, .none, kV12, doc12, pm12, an12, cd12, ct12, sl12, rfl, l12, c12, (.inl ⟨rfl, rfl⟩), .inl rfl⟩, k12⟩, m__law_draw := PySem.W.mg_of X G n12,
    f__law_pick := f13, fd__law_pick := _, F__law_pick := ⟨⟨oc13, od13, .none, kV13, doc13, pm13, an13, cd13, ct13, sl13, rfl, l13, c13, (.inl ⟨rfl, rfl⟩), .inl rfl⟩, k13⟩, m__law_pick := PySem.W.mg_of X G n13,
    f_Bar___init__ := f14, fd_Bar___init__ := _, F_Bar___init__ := ⟨⟨oc14, od14, .none, kV14, doc14, pm14, an14, cd14, ct14, sl14, rfl, l14, c14, (.inl ⟨rfl, rfl⟩), .inl rfl⟩, k14⟩,
    f__law_bar := f15, fd__law_bar := _, F__law_bar := ⟨⟨oc15, od15, .none, kV15, doc15, pm15, an15, cd15, ct15, sl15, rfl, l15, c15, (.inl ⟨rfl, rfl⟩), .inl rfl⟩, k15⟩, m__law_bar := PySem.W.mg_of X G n15,
    f__law_truth := f16, fd__law_truth := _, F__law_truth := ⟨⟨oc16, od16, .none, kV16, doc16, pm16, an16, cd16, ct16, sl16, rfl, l16, c16, (.inl ⟨rfl, rfl⟩), .inl rfl⟩, k16⟩, m__law_truth := PySem.W.mg_of X G n16,
    f__law_plain := f17, fd__law_plain := _, F__law_plain := ⟨⟨oc17, od17, .none, kV17, doc17, pm17, an17, cd17, ct17, sl17, rfl, l17, c17, (.inl ⟨rfl, rfl⟩), .inl rfl⟩, k17⟩, m__law_plain := PySem.W.mg_of X G n17,
    f__law_drawn := f18, fd__law_drawn := _, F__law_drawn := ⟨⟨oc18, od18, .none, kV18, doc18, pm18, an18, cd18, ct18, sl18, rfl, l18, c18, (.inl ⟨rfl, rfl⟩), .inl rfl⟩, k18⟩, m__law_drawn := PySem.W.mg_of X G n18,
    f__law_far := f19, fd__law_far := _, F__law_far := ⟨⟨oc19, od19, .none, kV19, doc19, pm19, an19, cd19, ct19, sl19, rfl, l19, c19, (.inl ⟨rfl, rfl⟩), .inl rfl⟩, k19⟩, m__law_far := PySem.W.mg_of X G n19,
    f__law_next := f20, fd__law_next := _, F__law_next := ⟨⟨oc20, od20, .none, kV20, doc20, pm20, an20, cd20, ct20, sl20, rfl, l20, c20, (.inl ⟨rfl, rfl⟩), .inl rfl⟩, k20⟩, m__law_next := PySem.W.mg_of X G n20,
    f_Bar___eq__ := f21, fd_Bar___eq__ := _, F_Bar___eq__ := ⟨⟨oc21, od21, .none, kV21, doc21, pm21, an21, cd21, ct21, sl21, rfl, l21, c21, (.inl ⟨rfl, rfl⟩), .inl rfl⟩, k21⟩,
    f__law_bar_right := f22, fd__law_bar_right := _, F__law_bar_right := ⟨⟨oc22, od22, .none, kV22, doc22, pm22, an22, cd22, ct22, sl22, rfl, l22, c22, (.inl ⟨rfl, rfl⟩), .inl rfl⟩, k22⟩, m__law_bar_right := PySem.W.mg_of X G n22,
    f_law := f23, fd_law := _, F_law := ⟨⟨oc23, od23, .none, kV23, doc23, pm23, an23, cd23, ct23, sl23, rfl, l23, c23, (.inl ⟨rfl, rfl⟩), .inl rfl⟩, k23⟩, m_law := PySem.W.mg_of X G n23,
    k_MOST_LETTERS := ⟨_, PySem.W.mg_of X G q_MOST_LETTERS⟩,
    k_MOST_WORDS := ⟨_, PySem.W.mg_of X G q_MOST_WORDS⟩,
    b_abs := PySem.W.mg_none_of X G z_abs,
    b_all := PySem.W.mg_none_of X G z_all,
    b_any := PySem.W.mg_none_of X G z_any,
    b_bool := PySem.W.mg_none_of X G z_bool,
    b_int := PySem.W.mg_none_of X G z_int,
    b_isinstance := PySem.W.mg_none_of X G z_isinstance,
    b_len := PySem.W.mg_none_of X G z_len,
    b_list := PySem.W.mg_none_of X G z_list,
    b_max := PySem.W.mg_none_of X G z_max,
    b_range := PySem.W.mg_none_of X G z_range,
    b_set := PySem.W.mg_none_of X G z_set,
    b_tuple := PySem.W.mg_none_of X G z_tuple,
    b_zip := PySem.W.mg_none_of X G z_zip,
    ins_Bar := ⟨⟨pg_Bar, hd_Bar, po_Bar, sa_Bar⟩, ha_Bar, hn_Bar, ht_Bar, hm_Bar⟩,
    no_Bar_words := no_Bar_words,
    mk_Bar := ⟨mk_Bar, n14, i14, kc_Bar⟩,
    eq_Bar := ⟨n21, i21, ne_Bar, po_Bar, by
      intro b hb t ht
      simp only [NF_Bar, List.mem_cons, List.not_mem_nil, or_false] at hb
      rcases hb with rfl | rfl | rfl | rfl | rfl | rfl | rfl | rfl
      · (cases ht; exact nf_Bar_0)
      · (cases ht; exact nf_Bar_1)
      · (cases ht; exact nf_Bar_2)
      · (cases ht; exact nf_Bar_3)
      · (cases ht; exact nf_Bar_4)
      · (cases ht; exact nf_Bar_5)
      · (cases ht; exact nf_Bar_6)
      · (cases ((PySem.W.mg_of X G n_Bar).symm.trans ht); unfold PySem.W.notFirst; simp)⟩,
    kt_0 := kit_own ic_Bar ty_Bar sb_0 (.inl rfl),
    kt_1 := kit_own ic_Bar ty_Bar sb_1 (.inl rfl),
    kt_2 := kit_own ic_Bar ty_Bar sb_2 (.inl rfl),
    kt_3 := kit_own ic_Bar ty_Bar sb_3 (.inl rfl),
    kt_4 := kit_own ic_Bar ty_Bar sb_4 (.inl rfl),
    kt_5 := kit_own ic_Bar ty_Bar sb_5 (.inl rfl),
    kt_6 := kit_own ic_Bar ty_Bar sb_6 (.inl rfl),
    kt_7 := kit_self }
theorem all_mk {P : Program} {w : World} {K : PySem.W.Frag} {mg : Str → Option Value} {h : Heap} {fa : Addr} (X : K.In h) (G : h.Ns mainGlobals mg) (hfa : mg "law" = some (.ref fa))
  {a_Bar : Addr}
  {f0 : Addr} {oc0 kV0 doc0 pm0 cd0 ct0 : Value} {od0 an0 : Option Addr} {sl0 : Array (Option Value)}
  {f1 : Addr} {oc1 kV1 doc1 pm1 cd1 ct1 : Value} {od1 an1 : Option Addr} {sl1 : Array (Option Value)}
  {f2 : Addr} {oc2 kV2 doc2 pm2 cd2 ct2 : Value} {od2 an2 : Option Addr} {sl2 : Array (Option Value)}
  {t2 : Addr}
  {f3 : Addr} {oc3 kV3 doc3 pm3 cd3 ct3 : Value} {od3 an3 : Option Addr} {sl3 : Array (Option Value)}
  {f4 : Addr} {oc4 kV4 doc4 pm4 cd4 ct4 : Value} {od4 an4 : Option Addr} {sl4 : Array (Option Value)}
  {t4 : Addr}
  {f5 : Addr} {oc5 kV5 doc5 pm5 cd5 ct5 : Value} {od5 an5 : Option Addr} {sl5 : Array (Option Value)}
  {t5 : Addr}
  {f6 : Addr} {oc6 kV6 doc6 pm6 cd6 ct6 : Value} {od6 an6 : Option Addr} {sl6 : Array (Option Value)}
  {f7 : Addr} {oc7 kV7 doc7 pm7 cd7 ct7 : Value} {od7 an7 : Option Addr} {sl7 : Array (Option Value)}
  {f8 : Addr} {oc8 kV8 doc8 pm8 cd8 ct8 : Value} {od8 an8 : Option Addr} {sl8 : Array (Option Value)}
  {f9 : Addr} {oc9 kV9 doc9 pm9 cd9 ct9 : Value} {od9 an9 : Option Addr} {sl9 : Array (Option Value)}
  {f10 : Addr} {oc10 kV10 doc10 pm10 cd10 ct10 : Value} {od10 an10 : Option Addr} {sl10 : Array (Option Value)}
  {f11 : Addr} {oc11 kV11 doc11 pm11 cd11 ct11 : Value} {od11 an11 : Option Addr} {sl11 : Array (Option Value)}
  {f12 : Addr} {oc12 kV12 doc12 pm12 cd12 ct12 : Value} {od12 an12 : Option Addr} {sl12 : Array (Option Value)}
  {f13 : Addr} {oc13 kV13 doc13 pm13 cd13 ct13 : Value} {od13 an13 : Option Addr} {sl13 : Array (Option Value)}
  {f14 : Addr} {oc14 kV14 doc14 pm14 cd14 ct14 : Value} {od14 an14 : Option Addr} {sl14 : Array (Option Value)}
  {f15 : Addr} {oc15 kV15 doc15 pm15 cd15 ct15 : Value} {od15 an15 : Option Addr} {sl15 : Array (Option Value)}
  {f16 : Addr} {oc16 kV16 doc16 pm16 cd16 ct16 : Value} {od16 an16 : Option Addr} {sl16 : Array (Option Value)}
  {f17 : Addr} {oc17 kV17 doc17 pm17 cd17 ct17 : Value} {od17 an17 : Option Addr} {sl17 : Array (Option Value)}
  {f18 : Addr} {oc18 kV18 doc18 pm18 cd18 ct18 : Value} {od18 an18 : Option Addr} {sl18 : Array (Option Value)}
  {f19 : Addr} {oc19 kV19 doc19 pm19 cd19 ct19 : Value} {od19 an19 : Option Addr} {sl19 : Array (Option Value)}
  {f20 : Addr} {oc20 kV20 doc20 pm20 cd20 ct20 : Value} {od20 an20 : Option Addr} {sl20 : Array (Option Value)}
  {f21 : Addr} {oc21 kV21 doc21 pm21 cd21 ct21 : Value} {od21 an21 : Option Addr} {sl21 : Array (Option Value)}
  {f22 : Addr} {oc22 kV22 doc22 pm22 cd22 ct22 : Value} {od22 an22 : Option Addr} {sl22 : Array (Option Value)}
  {f23 : Addr} {oc23 kV23 doc23 pm23 cd23 ct23 : Value} {od23 an23 : Option Addr} {sl23 : Array (Option Value)}
  {tk_MOST_LETTERS : Tok}
  {tk_MOST_WORDS : Tok}
  (n_Bar : PySem.W.nsIn K mainGlobals "Bar" = some (some (.ref a_Bar)))
  (n0 : PySem.W.nsIn K mainGlobals "is_integer" = some (some (.ref f0)))
  (l0 : K.lookup f0 = some ⟨oc0, od0, .func (PySem.W.fnOf "is_integer" "is_integer" (defArgs s_is_integer) (defBody s_is_integer) (defScope s_is_integer) .none kV0 doc0 pm0 an0 cd0 ct0), sl0⟩)
  (c0 : PySem.W.codeIn K cd0 "is_integer" = true)
  (k0 : PySem.W.keepIn K (.ref f0) = true)
  (n1 : PySem.W.nsIn K mainGlobals "is_within" = some (some (.ref f1)))
  (l1 : K.lookup f1 = some ⟨oc1, od1, .func (PySem.W.fnOf "is_within" "is_within" (defArgs s_is_within) (defBody s_is_within) (defScope s_is_within) .none kV1 doc1 pm1 an1 cd1 ct1), sl1⟩)
  (c1 : PySem.W.codeIn K cd1 "is_within" = true)
  (k1 : PySem.W.keepIn K (.ref f1) = true)
  (n2 : PySem.W.nsIn K mainGlobals "need_number" = some (some (.ref f2)))
  (l2 : K.lookup f2 = some ⟨oc2, od2, .func (PySem.W.fnOf "need_number" "need_number" (defArgs s_need_number) (defBody s_need_number) (defScope s_need_number) (.ref t2) kV2 doc2 pm2 an2 cd2 ct2), sl2⟩)
  (c2 : PySem.W.codeIn K cd2 "need_number" = true)
  (k2 : PySem.W.keepIn K (.ref f2) = true)
  (t2l : ∃ (od : Option Addr) (its : List Value) (n : Nat) (sl : Array (Option Value)), K.lookup t2 = some ⟨.type "tuple", od, .seq its.toArray n, sl⟩ ∧ Vals [.non, .non] its)
  (n3 : PySem.W.nsIn K mainGlobals "is_list" = some (some (.ref f3)))
  (l3 : K.lookup f3 = some ⟨oc3, od3, .func (PySem.W.fnOf "is_list" "is_list" (defArgs s_is_list) (defBody s_is_list) (defScope s_is_list) .none kV3 doc3 pm3 an3 cd3 ct3), sl3⟩)
  (c3 : PySem.W.codeIn K cd3 "is_list" = true)
  (k3 : PySem.W.keepIn K (.ref f3) = true)
  (n4 : PySem.W.nsIn K mainGlobals "is_text" = some (some (.ref f4)))
  (l4 : K.lookup f4 = some ⟨oc4, od4, .func (PySem.W.fnOf "is_text" "is_text" (defArgs s_is_text) (defBody s_is_text) (defScope s_is_text) (.ref t4) kV4 doc4 pm4 an4 cd4 ct4), sl4⟩)
  (c4 : PySem.W.codeIn K cd4 "is_text" = true)
  (k4 : PySem.W.keepIn K (.ref f4) = true)
  (t4l : ∃ (od : Option Addr) (its : List Value) (n : Nat) (sl : Array (Option Value)), K.lookup t4 = some ⟨.type "tuple", od, .seq its.toArray n, sl⟩ ∧ Vals [.int 1000] its)
  (n5 : PySem.W.nsIn K mainGlobals "need_text" = some (some (.ref f5)))
  (l5 : K.lookup f5 = some ⟨oc5, od5, .func (PySem.W.fnOf "need_text" "need_text" (defArgs s_need_text) (defBody s_need_text) (defScope s_need_text) (.ref t5) kV5 doc5 pm5 an5 cd5 ct5), sl5⟩)
  (c5 : PySem.W.codeIn K cd5 "need_text" = true)
  (k5 : PySem.W.keepIn K (.ref f5) = true)
  (t5l : ∃ (od : Option Addr) (its : List Value) (n : Nat) (sl : Array (Option Value)), K.lookup t5 = some ⟨.type "tuple", od, .seq its.toArray n, sl⟩ ∧ Vals [.str "text", .int 1000] its)
  (n6 : PySem.W.nsIn K mainGlobals "far_on" = some (some (.ref f6)))
  (l6 : K.lookup f6 = some ⟨oc6, od6, .func (PySem.W.fnOf "far_on" "far_on" (defArgs s_far_on) (defBody s_far_on) (defScope s_far_on) .none kV6 doc6 pm6 an6 cd6 ct6), sl6⟩)
  (c6 : PySem.W.codeIn K cd6 "far_on" = true)
  (k6 : PySem.W.keepIn K (.ref f6) = true)
  (n7 : PySem.W.nsIn K mainGlobals "need_bar" = some (some (.ref f7)))
  (l7 : K.lookup f7 = some ⟨oc7, od7, .func (PySem.W.fnOf "need_bar" "need_bar" (defArgs s_need_bar) (defBody s_need_bar) (defScope s_need_bar) .none kV7 doc7 pm7 an7 cd7 ct7), sl7⟩)
  (c7 : PySem.W.codeIn K cd7 "need_bar" = true)
  (k7 : PySem.W.keepIn K (.ref f7) = true)
  (n8 : PySem.W.nsIn K mainGlobals "far" = some (some (.ref f8)))
  (l8 : K.lookup f8 = some ⟨oc8, od8, .func (PySem.W.fnOf "far" "far" (defArgs s_far) (defBody s_far) (defScope s_far) .none kV8 doc8 pm8 an8 cd8 ct8), sl8⟩)
  (c8 : PySem.W.codeIn K cd8 "far" = true)
  (k8 : PySem.W.keepIn K (.ref f8) = true)
  (n9 : PySem.W.nsIn K mainGlobals "breaks_at" = some (some (.ref f9)))
  (l9 : K.lookup f9 = some ⟨oc9, od9, .func (PySem.W.fnOf "breaks_at" "breaks_at" (defArgs s_breaks_at) (defBody s_breaks_at) (defScope s_breaks_at) .none kV9 doc9 pm9 an9 cd9 ct9), sl9⟩)
  (c9 : PySem.W.codeIn K cd9 "breaks_at" = true)
  (k9 : PySem.W.keepIn K (.ref f9) = true)
  (n10 : PySem.W.nsIn K mainGlobals "is_broken" = some (some (.ref f10)))
  (l10 : K.lookup f10 = some ⟨oc10, od10, .func (PySem.W.fnOf "is_broken" "is_broken" (defArgs s_is_broken) (defBody s_is_broken) (defScope s_is_broken) .none kV10 doc10 pm10 an10 cd10 ct10), sl10⟩)
  (c10 : PySem.W.codeIn K cd10 "is_broken" = true)
  (k10 : PySem.W.keepIn K (.ref f10) = true)
  (n11 : PySem.W.nsIn K mainGlobals "_law_pen" = some (some (.ref f11)))
  (l11 : K.lookup f11 = some ⟨oc11, od11, .func (PySem.W.fnOf "_law_pen" "_law_pen" (defArgs s__law_pen) (defBody s__law_pen) (defScope s__law_pen) .none kV11 doc11 pm11 an11 cd11 ct11), sl11⟩)
  (c11 : PySem.W.codeIn K cd11 "_law_pen" = true)
  (k11 : PySem.W.keepIn K (.ref f11) = true)
  (n12 : PySem.W.nsIn K mainGlobals "_law_draw" = some (some (.ref f12)))
  (l12 : K.lookup f12 = some ⟨oc12, od12, .func (PySem.W.fnOf "_law_draw" "_law_draw" (defArgs s__law_draw) (defBody s__law_draw) (defScope s__law_draw) .none kV12 doc12 pm12 an12 cd12 ct12), sl12⟩)
  (c12 : PySem.W.codeIn K cd12 "_law_draw" = true)
  (k12 : PySem.W.keepIn K (.ref f12) = true)
  (n13 : PySem.W.nsIn K mainGlobals "_law_pick" = some (some (.ref f13)))
  (l13 : K.lookup f13 = some ⟨oc13, od13, .func (PySem.W.fnOf "_law_pick" "_law_pick" (defArgs s__law_pick) (defBody s__law_pick) (defScope s__law_pick) .none kV13 doc13 pm13 an13 cd13 ct13), sl13⟩)
  (c13 : PySem.W.codeIn K cd13 "_law_pick" = true)
  (k13 : PySem.W.keepIn K (.ref f13) = true)
  (n14 : PySem.W.findIn K (.ref a_Bar) "__init__" = some (some (.ref f14)))
  (i14 : PySem.W.isFn K (.ref f14) = true)
  (l14 : K.lookup f14 = some ⟨oc14, od14, .func (PySem.W.fnOf "__init__" "Bar.__init__" (defArgs s_Bar___init__) (defBody s_Bar___init__) (defScope s_Bar___init__) .none kV14 doc14 pm14 an14 cd14 ct14), sl14⟩)
  (c14 : PySem.W.codeIn K cd14 "Bar.__init__" = true)
  (k14 : PySem.W.keepIn K (.ref f14) = true)
  (n15 : PySem.W.nsIn K mainGlobals "_law_bar" = some (some (.ref f15)))
  (l15 : K.lookup f15 = some ⟨oc15, od15, .func (PySem.W.fnOf "_law_bar" "_law_bar" (defArgs s__law_bar) (defBody s__law_bar) (defScope s__law_bar) .none kV15 doc15 pm15 an15 cd15 ct15), sl15⟩)
  (c15 : PySem.W.codeIn K cd15 "_law_bar" = true)
  (k15 : PySem.W.keepIn K (.ref f15) = true)
  (n16 : PySem.W.nsIn K mainGlobals "_law_truth" = some (some (.ref f16)))
  (l16 : K.lookup f16 = some ⟨oc16, od16, .func (PySem.W.fnOf "_law_truth" "_law_truth" (defArgs s__law_truth) (defBody s__law_truth) (defScope s__law_truth) .none kV16 doc16 pm16 an16 cd16 ct16), sl16⟩)
  (c16 : PySem.W.codeIn K cd16 "_law_truth" = true)
  (k16 : PySem.W.keepIn K (.ref f16) = true)
  (n17 : PySem.W.nsIn K mainGlobals "_law_plain" = some (some (.ref f17)))
  (l17 : K.lookup f17 = some ⟨oc17, od17, .func (PySem.W.fnOf "_law_plain" "_law_plain" (defArgs s__law_plain) (defBody s__law_plain) (defScope s__law_plain) .none kV17 doc17 pm17 an17 cd17 ct17), sl17⟩)
  (c17 : PySem.W.codeIn K cd17 "_law_plain" = true)
  (k17 : PySem.W.keepIn K (.ref f17) = true)
  (n18 : PySem.W.nsIn K mainGlobals "_law_drawn" = some (some (.ref f18)))
  (l18 : K.lookup f18 = some ⟨oc18, od18, .func (PySem.W.fnOf "_law_drawn" "_law_drawn" (defArgs s__law_drawn) (defBody s__law_drawn) (defScope s__law_drawn) .none kV18 doc18 pm18 an18 cd18 ct18), sl18⟩)
  (c18 : PySem.W.codeIn K cd18 "_law_drawn" = true)
  (k18 : PySem.W.keepIn K (.ref f18) = true)
  (n19 : PySem.W.nsIn K mainGlobals "_law_far" = some (some (.ref f19)))
  (l19 : K.lookup f19 = some ⟨oc19, od19, .func (PySem.W.fnOf "_law_far" "_law_far" (defArgs s__law_far) (defBody s__law_far) (defScope s__law_far) .none kV19 doc19 pm19 an19 cd19 ct19), sl19⟩)
  (c19 : PySem.W.codeIn K cd19 "_law_far" = true)
  (k19 : PySem.W.keepIn K (.ref f19) = true)
  (n20 : PySem.W.nsIn K mainGlobals "_law_next" = some (some (.ref f20)))
  (l20 : K.lookup f20 = some ⟨oc20, od20, .func (PySem.W.fnOf "_law_next" "_law_next" (defArgs s__law_next) (defBody s__law_next) (defScope s__law_next) .none kV20 doc20 pm20 an20 cd20 ct20), sl20⟩)
  (c20 : PySem.W.codeIn K cd20 "_law_next" = true)
  (k20 : PySem.W.keepIn K (.ref f20) = true)
  (n21 : PySem.W.findIn K (.ref a_Bar) "__eq__" = some (some (.ref f21)))
  (i21 : PySem.W.isFn K (.ref f21) = true)
  (l21 : K.lookup f21 = some ⟨oc21, od21, .func (PySem.W.fnOf "__eq__" "Bar.__eq__" (defArgs s_Bar___eq__) (defBody s_Bar___eq__) (defScope s_Bar___eq__) .none kV21 doc21 pm21 an21 cd21 ct21), sl21⟩)
  (c21 : PySem.W.codeIn K cd21 "Bar.__eq__" = true)
  (k21 : PySem.W.keepIn K (.ref f21) = true)
  (n22 : PySem.W.nsIn K mainGlobals "_law_bar_right" = some (some (.ref f22)))
  (l22 : K.lookup f22 = some ⟨oc22, od22, .func (PySem.W.fnOf "_law_bar_right" "_law_bar_right" (defArgs s__law_bar_right) (defBody s__law_bar_right) (defScope s__law_bar_right) .none kV22 doc22 pm22 an22 cd22 ct22), sl22⟩)
  (c22 : PySem.W.codeIn K cd22 "_law_bar_right" = true)
  (k22 : PySem.W.keepIn K (.ref f22) = true)
  (n23 : PySem.W.nsIn K mainGlobals "law" = some (some (.ref f23)))
  (l23 : K.lookup f23 = some ⟨oc23, od23, .func (PySem.W.fnOf "law" "law" (defArgs s_law) (defBody s_law) (defScope s_law) .none kV23 doc23 pm23 an23 cd23 ct23), sl23⟩)
  (c23 : PySem.W.codeIn K cd23 "law" = true)
  (k23 : PySem.W.keepIn K (.ref f23) = true)
  (q_MOST_LETTERS : PySem.W.nsIn K mainGlobals "MOST_LETTERS" = some (some (.int 6 tk_MOST_LETTERS)))
  (q_MOST_WORDS : PySem.W.nsIn K mainGlobals "MOST_WORDS" = some (some (.int 3 tk_MOST_WORDS)))
  (z_abs : PySem.W.nsIn K mainGlobals "abs" = some none)
  (z_all : PySem.W.nsIn K mainGlobals "all" = some none)
  (z_any : PySem.W.nsIn K mainGlobals "any" = some none)
  (z_bool : PySem.W.nsIn K mainGlobals "bool" = some none)
  (z_int : PySem.W.nsIn K mainGlobals "int" = some none)
  (z_isinstance : PySem.W.nsIn K mainGlobals "isinstance" = some none)
  (z_len : PySem.W.nsIn K mainGlobals "len" = some none)
  (z_list : PySem.W.nsIn K mainGlobals "list" = some none)
  (z_max : PySem.W.nsIn K mainGlobals "max" = some none)
  (z_range : PySem.W.nsIn K mainGlobals "range" = some none)
  (z_set : PySem.W.nsIn K mainGlobals "set" = some none)
  (z_tuple : PySem.W.nsIn K mainGlobals "tuple" = some none)
  (z_zip : PySem.W.nsIn K mainGlobals "zip" = some none)
  (pg_Bar : PySem.W.plainGet K a_Bar Str.empty = true)
  (hd_Bar : PySem.W.hasDictIn K a_Bar = true)
  (po_Bar : PySem.W.plainOver K a_Bar = true)
  (sa_Bar : PySem.W.findIn K (.ref a_Bar) "__setattr__" = some (some (.builtin "object.__setattr__")))
  (ha_Bar : PySem.W.findIn K (.ref a_Bar) "__class__" = some (some (.builtin "object.__class__")))
  (hn_Bar : PySem.W.specialIn K (.builtin "object.__class__") "__get__" = some (some (.builtin "getset_descriptor.__get__")))
  (ht_Bar : PySem.W.takesIn K (.builtin "object.__class__") = some true)
  (hm_Bar : PySem.W.mroIn K a_Bar (.type "object") = some true)
  (no_Bar_words : PySem.W.findIn K (.ref a_Bar) "words" = some none)
  (mk_Bar : PySem.W.makesIn K a_Bar = true)
  (kc_Bar : PySem.W.keepIn K (.ref a_Bar) = true)
  (ne_Bar : PySem.W.findIn K (.ref a_Bar) "__ne__" = some (some (.builtin "object.__ne__")))
  (nf_Bar_0 : PySem.W.notFirst K a_Bar (.type "bool") = true)
  (nf_Bar_1 : PySem.W.notFirst K a_Bar (.type "int") = true)
  (nf_Bar_2 : PySem.W.notFirst K a_Bar (.type "str") = true)
  (nf_Bar_3 : PySem.W.notFirst K a_Bar (.type "list") = true)
  (nf_Bar_4 : PySem.W.notFirst K a_Bar (.type "tuple") = true)
  (nf_Bar_5 : PySem.W.notFirst K a_Bar (.type "dict") = true)
  (nf_Bar_6 : PySem.W.notFirst K a_Bar (.type "NoneType") = true)
  (ic_Bar : PySem.W.isClsIn K a_Bar = true)
  (ty_Bar : PySem.W.typeIn K (.ref a_Bar) = some (.type "type"))
  (sb_0 : PySem.W.subIn K (.type "bool") (.ref a_Bar) = some false)
  (sb_1 : PySem.W.subIn K (.type "int") (.ref a_Bar) = some false)
  (sb_2 : PySem.W.subIn K (.type "str") (.ref a_Bar) = some false)
  (sb_3 : PySem.W.subIn K (.type "list") (.ref a_Bar) = some false)
  (sb_4 : PySem.W.subIn K (.type "tuple") (.ref a_Bar) = some false)
  (sb_5 : PySem.W.subIn K (.type "dict") (.ref a_Bar) = some false)
  (sb_6 : PySem.W.subIn K (.type "NoneType") (.ref a_Bar) = some false)
  : ∃ fd : FuncData, (∀ (s : Shared) (v : Value), BindsTo s fd ⟨[v], []⟩ [("script", v)]) ∧ ∀ base : Heap, K.In base → base.Ns mainGlobals mg → FnG P w K mg base 8 fa fd ["script"] (spM ⟨K, mg⟩ 1 m_law) := by
  have T : TX K mg := mkTX X G n_Bar n0 l0 c0 k0 n1 l1 c1 k1 n2 l2 c2 k2 t2l n3 l3 c3 k3 n4 l4 c4 k4 t4l n5 l5 c5 k5 t5l n6 l6 c6 k6 n7 l7 c7 k7 n8 l8 c8 k8 n9 l9 c9 k9 n10 l10 c10 k10 n11 l11 c11 k11 n12 l12 c12 k12 n13 l13 c13 k13 n14 i14 l14 c14 k14 n15 l15 c15 k15 n16 l16 c16 k16 n17 l17 c17 k17 n18 l18 c18 k18 n19 l19 c19 k19 n20 l20 c20 k20 n21 i21 l21 c21 k21 n22 l22 c22 k22 n23 l23 c23 k23 q_MOST_LETTERS q_MOST_WORDS z_abs z_all z_any z_bool z_int z_isinstance z_len z_list z_max z_range z_set z_tuple z_zip pg_Bar hd_Bar po_Bar sa_Bar ha_Bar hn_Bar ht_Bar hm_Bar no_Bar_words mk_Bar kc_Bar ne_Bar nf_Bar_0 nf_Bar_1 nf_Bar_2 nf_Bar_3 nf_Bar_4 nf_Bar_5 nf_Bar_6 ic_Bar ty_Bar sb_0 sb_1 sb_2 sb_3 sb_4 sb_5 sb_6
  have e := hfa.symm.trans T.m_law
  injection e with e
  injection e with e
  subst e
  exact ⟨T.fd_law, fun s v => FunD.bindsA (ps := ["script"]) T.F_law (fun _ _ _ _ _ _ us hl => match us, hl with | [_], _ => rfl) s [v] rfl, fun base kb gb => g_law T⟩
end K15
open PySem PySem.W PyProof.Rows
theorem PySem.Challenge.cw_talkerfates_k15_how_far_into_bars_holds : PySem.Challenge.rw_talkerfates_k15_how_far_into_bars.Holds := by
  w_on; o_law; k_head; (case hw => w_witness2)
  k_fill
  refine Sim.walkG (l := PySem.Challenge.rw_talkerfates_k15_how_far_into_bars) (k := 8) (x := "script") (m := K15.m_law) rfl (by decide) rfl ⟨rfl, by decide, by decide⟩ (fun w h Y => PySem.W.kIn_of Y) ?F K15.law_true
  case F =>
    intro w mg fa h KX G hmg
    refine' K15.all_mk KX G hmg ?n_Bar ?n0 ?l0 ?c0 ?k0 ?n1 ?l1 ?c1 ?k1 ?n2 ?l2 ?c2 ?k2 ?t2l ?n3 ?l3 ?c3 ?k3 ?n4 ?l4 ?c4 ?k4 ?t4l ?n5 ?l5 ?c5 ?k5 ?t5l ?n6 ?l6 ?c6 ?k6 ?n7 ?l7 ?c7 ?k7 ?n8 ?l8 ?c8 ?k8 ?n9 ?l9 ?c9 ?k9 ?n10 ?l10 ?c10 ?k10 ?n11 ?l11 ?c11 ?k11 ?n12 ?l12 ?c12 ?k12 ?n13 ?l13 ?c13 ?k13 ?n14 ?i14 ?l14 ?c14 ?k14 ?n15 ?l15 ?c15 ?k15 ?n16 ?l16 ?c16 ?k16 ?n17 ?l17 ?c17 ?k17 ?n18 ?l18 ?c18 ?k18 ?n19 ?l19 ?c19 ?k19 ?n20 ?l20 ?c20 ?k20 ?n21 ?i21 ?l21 ?c21 ?k21 ?n22 ?l22 ?c22 ?k22 ?n23 ?l23 ?c23 ?k23 ?q_MOST_LETTERS ?q_MOST_WORDS ?z_abs ?z_all ?z_any ?z_bool ?z_int ?z_isinstance ?z_len ?z_list ?z_max ?z_range ?z_set ?z_tuple ?z_zip ?pg_Bar ?hd_Bar ?po_Bar ?sa_Bar ?ha_Bar ?hn_Bar ?ht_Bar ?hm_Bar ?no_Bar_words ?mk_Bar ?kc_Bar ?ne_Bar ?nf_Bar_0 ?nf_Bar_1 ?nf_Bar_2 ?nf_Bar_3 ?nf_Bar_4 ?nf_Bar_5 ?nf_Bar_6 ?ic_Bar ?ty_Bar ?sb_0 ?sb_1 ?sb_2 ?sb_3 ?sb_4 ?sb_5 ?sb_6
    (case n_Bar => k_is)
    (case n0 => k_is)
    (case l0 => k_is)
    (case c0 => k_is)
    (case k0 => k_is)
    (case n1 => k_is)
    (case l1 => k_is)
    (case c1 => k_is)
    (case k1 => k_is)
    (case n2 => k_is)
    (case l2 => k_is)
    (case c2 => k_is)
    (case k2 => k_is)
    (case t2l => exact ⟨_, _, _, _, by k_is, by repeat (first | exact .nil | refine .cons (by first | exact rfl | exact ⟨_, rfl⟩) ?_)⟩)
    (case n3 => k_is)
    (case l3 => k_is)
    (case c3 => k_is)
    (case k3 => k_is)
    (case n4 => k_is)
    (case l4 => k_is)
    (case c4 => k_is)
    (case k4 => k_is)
    (case t4l => exact ⟨_, _, _, _, by k_is, by repeat (first | exact .nil | refine .cons (by first | exact rfl | exact ⟨_, rfl⟩) ?_)⟩)
    (case n5 => k_is)
    (case l5 => k_is)
    (case c5 => k_is)
    (case k5 => k_is)
    (case t5l => exact ⟨_, _, _, _, by k_is, by repeat (first | exact .nil | refine .cons (by first | exact rfl | exact ⟨_, rfl⟩) ?_)⟩)
    (case n6 => k_is)
    (case l6 => k_is)
    (case c6 => k_is)
    (case k6 => k_is)
    (case n7 => k_is)
    (case l7 => k_is)
    (case c7 => k_is)
    (case k7 => k_is)
    (case n8 => k_is)
    (case l8 => k_is)
    (case c8 => k_is)
    (case k8 => k_is)
    (case n9 => k_is)
    (case l9 => k_is)
    (case c9 => k_is)
    (case k9 => k_is)
    (case n10 => k_is)
    (case l10 => k_is)
    (case c10 => k_is)
    (case k10 => k_is)
    (case n11 => k_is)
    (case l11 => k_is)
    (case c11 => k_is)
    (case k11 => k_is)
    (case n12 => k_is)
    (case l12 => k_is)
    (case c12 => k_is)
    (case k12 => k_is)
    (case n13 => k_is)
    (case l13 => k_is)
    (case c13 => k_is)
    (case k13 => k_is)
    (case n14 => k_is)
    (case i14 => k_is)
    (case l14 => k_is)
    (case c14 => k_is)
    (case k14 => k_is)
    (case n15 => k_is)
    (case l15 => k_is)
    (case c15 => k_is)
    (case k15 => k_is)
    (case n16 => k_is)
    (case l16 => k_is)
    (case c16 => k_is)
    (case k16 => k_is)
    (case n17 => k_is)
    (case l17 => k_is)
    (case c17 => k_is)
    (case k17 => k_is)
    (case n18 => k_is)
    (case l18 => k_is)
    (case c18 => k_is)
    (case k18 => k_is)
    (case n19 => k_is)
    (case l19 => k_is)
    (case c19 => k_is)
    (case k19 => k_is)
    (case n20 => k_is)
    (case l20 => k_is)
    (case c20 => k_is)
    (case k20 => k_is)
    (case n21 => k_is)
    (case i21 => k_is)
    (case l21 => k_is)
    (case c21 => k_is)
    (case k21 => k_is)
    (case n22 => k_is)
    (case l22 => k_is)
    (case c22 => k_is)
    (case k22 => k_is)
    (case n23 => k_is)
    (case l23 => k_is)
    (case c23 => k_is)
    (case k23 => k_is)
    (case q_MOST_LETTERS => k_is)
    (case q_MOST_WORDS => k_is)
    (case z_abs => k_is)
    (case z_all => k_is)
    (case z_any => k_is)
    (case z_bool => k_is)
    (case z_int => k_is)
    (case z_isinstance => k_is)
    (case z_len => k_is)
    (case z_list => k_is)
    (case z_max => k_is)
    (case z_range => k_is)
    (case z_set => k_is)
    (case z_tuple => k_is)
    (case z_zip => k_is)
    (case pg_Bar => k_is)
    (case hd_Bar => k_is)
    (case po_Bar => k_is)
    (case sa_Bar => k_is)
    (case ha_Bar => k_is)
    (case hn_Bar => k_is)
    (case ht_Bar => k_is)
    (case hm_Bar => k_is)
    (case no_Bar_words => k_is)
    (case mk_Bar => k_is)
    (case kc_Bar => k_is)
    (case ne_Bar => k_is)
    (case nf_Bar_0 => k_is)
    (case nf_Bar_1 => k_is)
    (case nf_Bar_2 => k_is)
    (case nf_Bar_3 => k_is)
    (case nf_Bar_4 => k_is)
    (case nf_Bar_5 => k_is)
    (case nf_Bar_6 => k_is)
    (case ic_Bar => k_is)
    (case ty_Bar => k_is)
    (case sb_0 => k_is)
    (case sb_1 => k_is)
    (case sb_2 => k_is)
    (case sb_3 => k_is)
    (case sb_4 => k_is)
    (case sb_5 => k_is)
    (case sb_6 => k_is)
#print axioms PySem.Challenge.cw_talkerfates_k15_how_far_into_bars_holds
end
