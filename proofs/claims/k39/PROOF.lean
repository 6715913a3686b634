import PyProof.Rows.All
import Wide.All
import OpenK.AllK
import Wide.FinOn
import HandS.ForMost
import HandS.ForExc
import HandS.IsInst
import HandS.Wide
import HandS.Deep
import HandS.DictComp
import HandS.Flow
import HandS.CallSlots
import HandS.ExcCtx
import HandS.Style
import HandS.SortInts
import HandS.More
import HandS.Defaults
import HandS.HeadHook2
import HandS.HeadEnd
import HandS.Head2
import HandS.WideBits
import PyProof.Rows.SortShellAny
import PyProof.EqAt
import PyProof.EqKinds
import PyProof.TupleCall
import HandS.Base
import HandS.Call
import HandS.List
import HandS.Dict
import HandS.Head0
import HandS.Head1
import HandS.HeadHook1
import HandS.Keys
import HandS.SetFor
import HandS.Strs
import PyProof.Rows.Digits
import PyProof.ReprRoads
import PyProof.ReprBulk
import HandS.HeadHook3
import HandS.ExcInit
import HandS.TryOnly
import HandS.Words
import HandS.ExcIs
import HandS.ExcValue
import Lean
import KE.KStateDown
import PySem.Challenge.RW_wornsigns_k39_whole_weights_and_counts
set_option Elab.async false
set_option linter.all false
set_option maxRecDepth 100000
/-! VCore: the value layer: what a reading of the hand layer does, told over plain data. -/
namespace VL
open PySem L2

abbrev St := L2.St
abbrev D := PyData
abbrev Fg := PySem.W.Frag

/-- every tracked object of the one is tracked in the other -/
def Ext (H H' : Hp) : Prop := ∀ a o, H a = some o → H' a = some o
theorem Ext.refl (H : Hp) : Ext H H := fun _ _ h => h
theorem Ext.trans {H H1 H2 : Hp} (a : Ext H H1) (b : Ext H1 H2) : Ext H H2 := fun x o h => b x o (a x o h)
theorem Ext.none_of {H H' : Hp} (e : Ext H H') {a : Addr} (h : H' a = none) : H a = none := by
  cases q : H a with
  | none => rfl
  | some o => rw [e a o q] at h; cases h
theorem Ext.new {H : Hp} {p : Addr} {o : HO} (h : H p = none) : Ext H (upd H p o) := fun a u e => by
  rw [upd_ne (ne_of_none e h)]; exact e
theorem Ext.rd {H H' : Hp} {a : Addr} {u : HO} (e : Ext H H') (h : Rd H a u) : Rd H' a u := by
  rcases h with h | ⟨o, h⟩
  · exact .inl (e a _ h)
  · exact .inr ⟨o, e a _ h⟩
theorem Ext.sqL {K : Fg} {H H' : Hp} {a : Addr} {xs : List V} (e : Ext H H') (h : SqL K H a xs) : SqL K H' a xs := by
  rcases h with h | h
  · exact .inl (e.rd h)
  · exact .inr h
theorem Ext.sqT {K : Fg} {H H' : Hp} {a : Addr} {xs : List V} (e : Ext H H') (h : SqT K H a xs) : SqT K H' a xs := by
  rcases h with h | h
  · exact .inl (e.rd h)
  · exact .inr h

/-- a key as data -/
def kD : Key → D
  | .inl i => .int i
  | .inr x => .str x

mutual
/-- the value v stands for the data d, all its objects in the (immutable) heap H -/
inductive Rep (K : Fg) (H : Hp) : V → D → Prop
  | non : Rep K H .non .none
  | bl (b : Bool) : Rep K H (.bl b) (.bool b)
  | int (i : Int) : Rep K H (.int i) (.int i)
  | str (x : Str) : Rep K H (.str x) (.str x)
  | lst {a : Addr} {xs : List V} {ds : List D} : H a = some (.lst xs) → Reps K H xs ds → Rep K H (.ref a) (.list ds)
  | tup {a : Addr} {xs : List V} {ds : List D} : H a = some (.tup xs) → Reps K H xs ds → Rep K H (.ref a) (.tuple ds)
  | dct {a : Addr} {kvs : List (Key × V)} {ps : List (D × D)} : Rd H a (.dK kvs) → RepKV K H kvs ps → Rep K H (.ref a) (.dict ps)
inductive Reps (K : Fg) (H : Hp) : List V → List D → Prop
  | nil : Reps K H [] []
  | cons {v : V} {vs : List V} {d : D} {ds : List D} : Rep K H v d → Reps K H vs ds → Reps K H (v :: vs) (d :: ds)
inductive RepKV (K : Fg) (H : Hp) : List (Key × V) → List (D × D) → Prop
  | nil : RepKV K H [] []
  | cons {k : Key} {v : V} {kvs : List (Key × V)} {d : D} {ps : List (D × D)} : Rep K H v d → RepKV K H kvs ps → RepKV K H ((k, v) :: kvs) ((kD k, d) :: ps)
end

section
variable {K : Fg} {H H' : Hp}
mutual
theorem Rep.mono (e : Ext H H') : ∀ {v : V} {d : D}, Rep K H v d → Rep K H' v d
  | _, _, .non => .non
  | _, _, .bl b => .bl b
  | _, _, .int i => .int i
  | _, _, .str x => .str x
  | _, _, .lst h r => .lst (e _ _ h) (Reps.mono e r)
  | _, _, .tup h r => .tup (e _ _ h) (Reps.mono e r)
  | _, _, .dct h r => .dct (e.rd h) (RepKV.mono e r)
theorem Reps.mono (e : Ext H H') : ∀ {vs : List V} {ds : List D}, Reps K H vs ds → Reps K H' vs ds
  | _, _, .nil => .nil
  | _, _, .cons h r => .cons (Rep.mono e h) (Reps.mono e r)
theorem RepKV.mono (e : Ext H H') : ∀ {kvs : List (Key × V)} {ps : List (D × D)}, RepKV K H kvs ps → RepKV K H' kvs ps
  | _, _, .nil => .nil
  | _, _, .cons h r => .cons (Rep.mono e h) (RepKV.mono e r)
end
theorem Reps.length : ∀ {vs : List V} {ds : List D}, Reps K H vs ds → vs.length = ds.length
  | _, _, .nil => rfl
  | _, _, .cons _ r => congrArg (· + 1) (Reps.length r)
theorem Reps.get : ∀ {vs : List V} {ds : List D} {i : Nat} {d : D}, Reps K H vs ds → ds[i]? = some d → ∃ v, vs[i]? = some v ∧ Rep K H v d
  | _, _, _, _, .nil, e => by simp at e
  | _, _, 0, _, .cons h _, e => by simp at e; subst e; exact ⟨_, rfl, h⟩
  | _, _, i + 1, d, .cons _ r, e => by
    obtain ⟨v, h1, h2⟩ := Reps.get (i := i) (d := d) r (by simpa using e)
    exact ⟨v, by simpa using h1, h2⟩
theorem Reps.get' : ∀ {vs : List V} {ds : List D} {i : Nat} {v : V}, Reps K H vs ds → vs[i]? = some v → ∃ d, ds[i]? = some d ∧ Rep K H v d
  | _, _, _, _, .nil, e => by simp at e
  | _, _, 0, _, .cons h _, e => by simp at e; subst e; exact ⟨_, rfl, h⟩
  | _, _, i + 1, d, .cons _ r, e => by
    obtain ⟨v, h1, h2⟩ := Reps.get' (i := i) (v := d) r (by simpa using e)
    exact ⟨v, by simpa using h1, h2⟩
theorem Reps.append : ∀ {vs ws : List V} {ds es : List D}, Reps K H vs ds → Reps K H ws es → Reps K H (vs ++ ws) (ds ++ es)
  | _, _, _, _, .nil, s => s
  | _, _, _, _, .cons h r, s => .cons h (Reps.append r s)
theorem Reps.one {v : V} {d : D} (h : Rep K H v d) : Reps K H [v] [d] := .cons h .nil
theorem Reps.take : ∀ {vs : List V} {ds : List D} (n : Nat), Reps K H vs ds → Reps K H (vs.take n) (ds.take n)
  | _, _, 0, _ => .nil
  | _, _, _ + 1, .nil => .nil
  | _, _, n + 1, .cons h r => .cons h (Reps.take n r)
theorem Reps.drop : ∀ {vs : List V} {ds : List D} (n : Nat), Reps K H vs ds → Reps K H (vs.drop n) (ds.drop n)
  | _, _, 0, r => r
  | _, _, _ + 1, .nil => .nil
  | _, _, n + 1, .cons _ r => Reps.drop n r
theorem Reps.reverse : ∀ {vs : List V} {ds : List D}, Reps K H vs ds → Reps K H vs.reverse ds.reverse
  | _, _, .nil => .nil
  | _, _, .cons h r => by
    rw [List.reverse_cons, List.reverse_cons]
    exact (Reps.reverse r).append (.one h)
theorem Reps.set {v : V} {d : D} (h : Rep K H v d) : ∀ {vs : List V} {ds : List D} (i : Nat), Reps K H vs ds → Reps K H (vs.set i v) (ds.set i d)
  | _, _, _, .nil => .nil
  | _, _, 0, .cons _ r => .cons h r
  | _, _, i + 1, .cons q r => .cons q (Reps.set h i r)
theorem Reps.eraseIdx : ∀ {vs : List V} {ds : List D} (i : Nat), Reps K H vs ds → Reps K H (vs.eraseIdx i) (ds.eraseIdx i)
  | _, _, _, .nil => .nil
  | _, _, 0, .cons _ r => r
  | _, _, i + 1, .cons q r => .cons q (Reps.eraseIdx i r)
theorem Reps.dropLast {vs : List V} {ds : List D} (r : Reps K H vs ds) : Reps K H vs.dropLast ds.dropLast := by
  rw [List.dropLast_eq_take, List.dropLast_eq_take, r.length]
  exact r.take _
theorem Reps.repl {vs : List V} {ds : List D} (r : Reps K H vs ds) : ∀ k : Nat, Reps K H (List.replicate k vs).flatten (List.replicate k ds).flatten
  | 0 => .nil
  | k + 1 => by
    rw [List.replicate_succ, List.replicate_succ, List.flatten_cons, List.flatten_cons]
    exact r.append (Reps.repl r k)
end

/-! ### slots -/
/-- a variable: no value; shared data; an owned list or dict, made in this def (ow) or handed in to be changed (io); an opaque thing -/
inductive Sl where
  | no
  | sh (d : D)
  | ow (d : D)
  | io (d : D)
  | op (t : Nat) (d : D)
  /-- two things handed in together (in a promise alone, no slot is one) -/
  | two (a b : Sl)
abbrev Ev := List Sl

/-- the cell at a, if there is one, exchanged -/
def swp (H : Hp) (a : Addr) (o : HO) : Hp := fun b => if b = a then (H a).map (fun _ => o) else H b
theorem swp_ne {H : Hp} {a b : Addr} {o : HO} (h : b ≠ a) : swp H a o b = H b := if_neg h
theorem swp_at {H : Hp} {a : Addr} {o u : HO} (h : H a = some u) : swp H a o a = some o := by
  unfold swp
  rw [if_pos rfl, h]; rfl
theorem swp_none {H : Hp} {a : Addr} {o : HO} (h : H a = none) : swp H a o a = none := by
  unfold swp
  rw [if_pos rfl, h]; rfl
theorem swp_upd {H : Hp} {a : Addr} {o u : HO} (h : H a = some u) : swp H a o = upd H a o := by
  funext b
  by_cases z : b = a
  · subst z; rw [swp_at h, upd_same]
  · rw [swp_ne z, upd_ne z]
theorem swp_some {H : Hp} {a b : Addr} {o v : HO} (h : swp H a o b = some v) : (b = a ∧ v = o ∧ ∃ u, H a = some u) ∨ (b ≠ a ∧ H b = some v) := by
  by_cases z : b = a
  · subst z
    unfold swp at h
    rw [if_pos rfl] at h
    cases e : H b with
    | none => rw [e] at h; cases h
    | some u => rw [e] at h; cases h; exact .inl ⟨rfl, rfl, u, rfl⟩
  · rw [swp_ne z] at h
    exact .inr ⟨z, h⟩
/-- a dict's cell, open and locked -/
def Dual (kvs : List (Key × V)) (u u' : HO) : Prop := (u = .dK kvs ∨ ∃ od, u = .frz od (.dK kvs)) ∧ (u' = .dK kvs ∨ ∃ od, u' = .frz od (.dK kvs))
section
variable {K : Fg} {Hi H : Hp} {a : Addr} {u u' : HO} {kvs : List (Key × V)}
theorem Rd.swp {b : Addr} {ks : List (Key × V)} (ha : Hi a = some u) (d : Dual kvs u u') (h : Rd Hi b (.dK ks)) : Rd (swp Hi a u') b (.dK ks) := by
  by_cases z : b = a
  · subst z
    have e : kvs = ks := by
      rcases h with h | ⟨o, h⟩ <;> rcases d.1 with d1 | ⟨od, d1⟩ <;> rw [ha, d1] at h <;> cases h <;> rfl
    subst e
    rcases d.2 with d2 | ⟨od, d2⟩
    · exact .inl (by rw [swp_at ha, d2])
    · exact .inr ⟨od, by rw [swp_at ha, d2]⟩
  · rcases h with h | ⟨o, h⟩
    · exact .inl (by rw [swp_ne z]; exact h)
    · exact .inr ⟨o, by rw [swp_ne z]; exact h⟩
theorem swp_lst {b : Addr} {xs : List V} (ha : Hi a = some u) (d : Dual kvs u u') (h : Hi b = some (.lst xs)) : swp Hi a u' b = some (.lst xs) := by
  have : b ≠ a := fun z => by
    subst z
    rcases d.1 with d1 | ⟨od, d1⟩ <;> rw [ha, d1] at h <;> cases h
  rw [swp_ne this]; exact h
theorem swp_tup {b : Addr} {xs : List V} (ha : Hi a = some u) (d : Dual kvs u u') (h : Hi b = some (.tup xs)) : swp Hi a u' b = some (.tup xs) := by
  have : b ≠ a := fun z => by
    subst z
    rcases d.1 with d1 | ⟨od, d1⟩ <;> rw [ha, d1] at h <;> cases h
  rw [swp_ne this]; exact h
mutual
theorem Rep.swp (ha : Hi a = some u) (e : Dual kvs u u') : ∀ {v : V} {d : D}, Rep K Hi v d → Rep K (swp Hi a u') v d
  | _, _, .non => .non
  | _, _, .bl b => .bl b
  | _, _, .int i => .int i
  | _, _, .str x => .str x
  | _, _, .lst h r => .lst (swp_lst ha e h) (Reps.swp ha e r)
  | _, _, .tup h r => .tup (swp_tup ha e h) (Reps.swp ha e r)
  | _, _, .dct h r => .dct (Rd.swp ha e h) (RepKV.swp ha e r)
theorem Reps.swp (ha : Hi a = some u) (e : Dual kvs u u') : ∀ {vs : List V} {ds : List D}, Reps K Hi vs ds → Reps K (swp Hi a u') vs ds
  | _, _, .nil => .nil
  | _, _, .cons h r => .cons (Rep.swp ha e h) (Reps.swp ha e r)
theorem RepKV.swp (ha : Hi a = some u) (e : Dual kvs u u') : ∀ {ks : List (Key × V)} {ps : List (D × D)}, RepKV K Hi ks ps → RepKV K (swp Hi a u') ks ps
  | _, _, .nil => .nil
  | _, _, .cons h r => .cons (Rep.swp ha e h) (RepKV.swp ha e r)
end
end
/-- the opaque things: what is true of the one at p, its cells fp -/
structure OpSem where
  ok : Nat → D → Hp → Hp → Addr → List Addr → Prop
  loc : ∀ {t d Hi Hi' H H' p fp}, ok t d Hi H p fp → Ext Hi Hi' → (∀ a ∈ fp, H' a = H a) → ok t d Hi' H' p fp
  trk : ∀ {t d Hi H p fp}, ok t d Hi H p fp → ∀ a ∈ fp, ∃ o, H a = some o
  /-- a dict's cell is locked, opened -/
  swp : ∀ {t d Hi H p fp a u u' kvs}, ok t d Hi H p fp → Hi a = some u → Dual kvs u u' → (∀ b ∈ fp, b ≠ a) → ok t d (swp Hi a u') (swp H a u') p fp
  /-- a thing made in this def has its kind + 10 -/
  hnd : ∀ {t d Hi H p fp}, ok t d Hi H p fp ↔ ok (t % 10) d Hi H p fp

/-- what is fixed through a law's run -/
structure Gb where
  K : Fg
  Op : OpSem
  ca : Str → Addr
/-- an exception: its class's name, the field 'index' of those that have one -/
structure Exn where
  name : Str
  idx : Option V
def Gb.xr (G : Gb) (x : Exn) (c : Value) (d : Option Addr) (Hi : Hp) : Prop :=
  c = .ref (G.ca x.name) ∧ match x.idx with
    | none => d = none
    | some v => ∃ dx, d = some dx ∧ Hi dx = some (.xd [(("index" : Str), v)])
theorem xr_none {G : Gb} {x : Exn} {c : Value} {d : Option Addr} {Hi Hi' : Hp} (h : x.idx = none) (hx : G.xr x c d Hi) : G.xr x c d Hi' := by
  obtain ⟨h1, h2⟩ := hx
  rw [h] at h2
  exact ⟨h1, by rw [h]; exact h2⟩
/-- what is fixed through a def's run: the tracked heap at its start, the immutable heap there, the cells of the things handed in to be changed -/
structure Cf where
  H0 : Hp
  I0 : Hp
  io : Addr → Prop
  iot : ∀ a, io a → H0 a ≠ none
  /-- where the opaque thing of a kind stands, if it was handed in -/
  pa : Nat → Option Addr

/-- the owned object at p: a list, a dict -/
inductive Own (K : Fg) (Hi H : Hp) : Addr → D → Prop
  | lst {p : Addr} {xs : List V} {ds : List D} : H p = some (.lst xs) → Reps K Hi xs ds → Own K Hi H p (.list ds)
  | dct {p : Addr} {kvs : List (Key × V)} {ps : List (D × D)} : H p = some (.dK kvs) → RepKV K Hi kvs ps → Own K Hi H p (.dict ps)
theorem Own.trk {K : Fg} {Hi H : Hp} {p : Addr} {d : D} (h : Own K Hi H p d) : ∃ o, H p = some o := by
  cases h with
  | lst h _ => exact ⟨_, h⟩
  | dct h _ => exact ⟨_, h⟩
theorem Own.to {K : Fg} {Hi Hi' H H' : Hp} {p : Addr} {d : D} (h : Own K Hi H p d) (e : Ext Hi Hi') (k : H' p = H p) : Own K Hi' H' p d := by
  cases h with
  | lst h r => exact .lst (by rw [k]; exact h) (r.mono e)
  | dct h r => exact .dct (by rw [k]; exact h) (r.mono e)
/-- an owned object, put into the immutable heap -/
theorem Own.rep {K : Fg} {Hi H : Hp} {p : Addr} {d : D} {o : HO} (h : Own K Hi H p d) (ho : H p = some o) (hn : Hi p = none) : Rep K (upd Hi p o) (.ref p) d := by
  cases h with
  | lst h r => rw [ho] at h; cases h; exact .lst upd_same (r.mono (Ext.new hn))
  | dct h r => rw [ho] at h; cases h; exact .dct (.inl upd_same) (r.mono (Ext.new hn))

/-- slot by slot: its value, its footprint -/
def SlOk (G : Gb) (C : Cf) (Hi H : Hp) (x : Option V) (fp : List Addr) : Sl → Prop
  | .no => fp = []
  | .sh d => fp = [] ∧ ∃ v, x = some v ∧ Rep G.K Hi v d
  | .ow d => ∃ p, fp = [p] ∧ x = some (.ref p) ∧ Own G.K Hi H p d ∧ C.H0 p = none
  | .io d => ∃ p, fp = [p] ∧ x = some (.ref p) ∧ Own G.K Hi H p d ∧ C.io p ∧ ∀ q, C.pa 100 = some q → p = q
  | .op t d => ∃ p, x = some (.ref p) ∧ G.Op.ok t d Hi H p fp ∧ (∀ a ∈ fp, C.H0 a = none ∨ (t < 10 ∧ C.io a)) ∧ ∀ q, t < 10 → C.pa t = some q → p = q
  | .two _ _ => False

/-- the state: σ, H as the hand layer has them; Hi the immutable part; Γ the plain environment; fp the footprints -/
structure Core (G : Gb) (C : Cf) (Hi : Hp) (σ : St) (H : Hp) (Γ : Ev) (fp : Nat → List Addr) : Prop where
  frame : ∀ a o, C.H0 a = some o → ¬ C.io a → H a = some o
  live : ∀ a, C.H0 a ≠ none → H a ≠ none
  imm : Ext Hi H
  base : Ext C.I0 Hi
  ov : ∀ a o, Hi a = some o → C.I0 a = some o ∨ C.H0 a = none
  len : Γ.length = σ.length
  sl : ∀ i s, Γ[i]? = some s → ∃ x, σ[i]? = some x ∧ SlOk G C Hi H x (fp i) s
  dj : ∀ i j a, i < Γ.length → j < Γ.length → a ∈ fp i → a ∈ fp j → i = j
  av : ∀ i a, i < Γ.length → a ∈ fp i → Hi a = none
def Rel (G : Gb) (C : Cf) (Hi : Hp) (σ : St) (H : Hp) (Γ : Ev) : Prop := ∃ fp, Core G C Hi σ H Γ fp

section
variable {G : Gb} {C : Cf} {Hi Hi' H H' : Hp} {σ : St} {Γ : Ev} {fp : Nat → List Addr}
theorem SlOk.to {x : Option V} {l : List Addr} {s : Sl} (h : SlOk G C Hi H x l s) (e : Ext Hi Hi') (k : ∀ a ∈ l, H' a = H a) : SlOk G C Hi' H' x l s := by
  cases s with
  | no => exact h
  | sh d => obtain ⟨h0, v, h1, h2⟩ := h; exact ⟨h0, v, h1, h2.mono e⟩
  | ow d => obtain ⟨p, h0, h1, h2, h3⟩ := h; exact ⟨p, h0, h1, h2.to e (k p (by rw [h0]; simp)), h3⟩
  | io d => obtain ⟨p, h0, h1, h2, h3⟩ := h; exact ⟨p, h0, h1, h2.to e (k p (by rw [h0]; simp)), h3⟩
  | op t d => obtain ⟨p, h1, h2, h3⟩ := h; exact ⟨p, h1, G.Op.loc h2 e k, h3⟩
  | two a b => exact h.elim
theorem SlOk.trk {x : Option V} {l : List Addr} {s : Sl} (h : SlOk G C Hi H x l s) : ∀ a ∈ l, ∃ o, H a = some o := by
  cases s with
  | no => intro a ha; rw [show l = [] from h] at ha; cases ha
  | sh d => obtain ⟨h0, _⟩ := h; intro a ha; rw [h0] at ha; cases ha
  | ow d =>
    obtain ⟨p, h0, h1, h2, _⟩ := h; intro a ha
    rw [h0] at ha
    have : a = p := by simpa using ha
    subst this; exact h2.trk
  | io d =>
    obtain ⟨p, h0, h1, h2, _⟩ := h; intro a ha
    rw [h0] at ha
    have : a = p := by simpa using ha
    subst this; exact h2.trk
  | op t d => obtain ⟨p, h1, h2, _⟩ := h; exact G.Op.trk h2
  | two a b => exact h.elim
theorem SlOk.home {x : Option V} {l : List Addr} {s : Sl} (h : SlOk G C Hi H x l s) : ∀ a ∈ l, C.H0 a = none ∨ C.io a := by
  cases s with
  | no => intro a ha; rw [show l = [] from h] at ha; cases ha
  | sh d => obtain ⟨h0, _⟩ := h; intro a ha; rw [h0] at ha; cases ha
  | ow d =>
    obtain ⟨p, h0, h1, h2, h3⟩ := h; intro a ha
    rw [h0] at ha
    have : a = p := by simpa using ha
    subst this; exact .inl h3
  | io d =>
    obtain ⟨p, h0, h1, h2, h3⟩ := h; intro a ha
    rw [h0] at ha
    have : a = p := by simpa using ha
    subst this; exact .inr h3.1
  | op t d => obtain ⟨p, h1, h2, h3, _⟩ := h; exact fun a ha => (h3 a ha).imp id (·.2)
  | two a b => exact h.elim
theorem Core.trk (c : Core G C Hi σ H Γ fp) {i : Nat} {a : Addr} (hi : i < Γ.length) (ha : a ∈ fp i) : ∃ o, H a = some o := by
  obtain ⟨x, _, h⟩ := c.sl i _ (List.getElem?_eq_getElem hi)
  exact h.trk a ha
theorem Core.home (c : Core G C Hi σ H Γ fp) {i : Nat} {a : Addr} (hi : i < Γ.length) (ha : a ∈ fp i) : C.H0 a = none ∨ C.io a := by
  obtain ⟨x, _, h⟩ := c.sl i _ (List.getElem?_eq_getElem hi)
  exact h.home a ha
theorem Core.fresh (c : Core G C Hi σ H Γ fp) {p : Addr} (h : H p = none) : Hi p = none ∧ C.H0 p = none := by
  refine ⟨c.imm.none_of h, ?_⟩
  cases q : C.H0 p with
  | none => rfl
  | some o => exact absurd h (c.live p (by rw [q]; simp))
/-- all that lies in no footprint may not change; the heap grows: a general step with one slot anew -/
theorem Core.step {H' : Hp} {i : Nat} {x : Option V} {l : List Addr} {s : Sl} (c : Core G C Hi σ H Γ fp) (hi : i < Γ.length) (e : Ext Hi Hi')
    (k : ∀ a o, H a = some o → a ∉ fp i → H' a = some o) (lv : ∀ a, a ∈ fp i → H' a ≠ none) (im : Ext Hi' H') (ov : ∀ a o, Hi' a = some o → Hi a = some o ∨ C.H0 a = none)
    (sok : SlOk G C Hi' H' x l s) (nw : ∀ a ∈ l, Hi' a = none ∧ ∀ j, j < Γ.length → j ≠ i → a ∉ fp j) (no : ∀ j a, j < Γ.length → j ≠ i → a ∈ fp j → Hi' a = none) :
    Core G C Hi' (σ.set i x) H' (Γ.set i s) (fun j => if j = i then l else fp j) where
  frame := fun a o h n => by
    refine k a o (c.frame a o h n) fun ha => ?_
    rcases c.home hi ha with q | q
    · rw [h] at q; cases q
    · exact n q
  live := fun a h => by
    by_cases ha : a ∈ fp i
    · exact lv a ha
    · have := c.live a h
      cases q : H a with
      | none => exact absurd q this
      | some o => rw [k a o q ha]; simp
  imm := im
  base := c.base.trans e
  ov := fun a o h => by
    rcases ov a o h with q | q
    · exact c.ov a o q
    · exact .inr q
  len := by rw [List.length_set, List.length_set]; exact c.len
  sl := fun j s' h => by
    have hi' : i < σ.length := by rw [← c.len]; exact hi
    by_cases hj : j = i
    · subst hj
      rw [List.getElem?_set_self hi] at h
      cases h
      exact ⟨x, List.getElem?_set_self hi', by rw [if_pos rfl]; exact sok⟩
    · rw [List.getElem?_set_ne (Ne.symm hj)] at h
      obtain ⟨y, h1, h2⟩ := c.sl j s' h
      refine ⟨y, by rw [List.getElem?_set_ne (Ne.symm hj)]; exact h1, ?_⟩
      rw [if_neg hj]
      have hjl : j < Γ.length := (List.getElem?_eq_some_iff.mp h).1
      refine h2.to e fun a ha => ?_
      obtain ⟨o, ho⟩ := h2.trk a ha
      rw [ho]
      exact k a o ho fun z => hj (c.dj j i a hjl hi ha z)
  dj := fun j m a hj hm h1 h2 => by
    rw [List.length_set] at hj hm
    by_cases ej : j = i <;> by_cases em : m = i
    · rw [ej, em]
    · rw [if_pos ej] at h1; rw [if_neg em] at h2
      exact absurd h2 ((nw a h1).2 m hm em)
    · rw [if_neg ej] at h1; rw [if_pos em] at h2
      exact absurd h1 ((nw a h2).2 j hj ej)
    · rw [if_neg ej] at h1; rw [if_neg em] at h2
      exact c.dj j m a hj hm h1 h2
  av := fun j a hj h => by
    rw [List.length_set] at hj
    by_cases ej : j = i
    · rw [if_pos ej] at h; exact (nw a h).1
    · rw [if_neg ej] at h; exact no j a hj ej h
/-- a slot anew, the heap as it is -/
theorem Core.put {i : Nat} {x : Option V} {l : List Addr} {s : Sl} (c : Core G C Hi σ H Γ fp) (hi : i < Γ.length) (sok : SlOk G C Hi H x l s)
    (nw : ∀ a ∈ l, Hi a = none ∧ ∀ j, j < Γ.length → j ≠ i → a ∉ fp j) : Core G C Hi (σ.set i x) H (Γ.set i s) (fun j => if j = i then l else fp j) :=
  c.step hi (Ext.refl _) (fun _ _ h _ => h) (fun a ha => by obtain ⟨o, h⟩ := c.trk hi ha; rw [h]; simp) c.imm (fun _ _ h => .inl h) sok nw fun j a hj _ h => c.av j a hj h
theorem Rel.put_sh {i : Nat} {v : V} {d : D} (c : Rel G C Hi σ H Γ) (hi : i < Γ.length) (r : Rep G.K Hi v d) : Rel G C Hi (σ.set i (some v)) H (Γ.set i (.sh d)) :=
  let ⟨_, c⟩ := c
  ⟨_, c.put (l := []) hi ⟨rfl, v, rfl, r⟩ fun a ha => nomatch ha⟩
theorem Rel.put_no {i : Nat} {x : Option V} (c : Rel G C Hi σ H Γ) (hi : i < Γ.length) : Rel G C Hi (σ.set i x) H (Γ.set i .no) :=
  let ⟨_, c⟩ := c
  ⟨_, c.put (l := []) hi rfl fun a ha => nomatch ha⟩
/-- one slot more -/
theorem Core.push {x : Option V} {l : List Addr} {s : Sl} (c : Core G C Hi σ H Γ fp) (k : Ext H H') (sok : SlOk G C Hi H' x l s) (nw : ∀ a ∈ l, H a = none) :
    Core G C Hi (σ ++ [x]) H' (Γ ++ [s]) (fun j => if j = Γ.length then l else fp j) where
  frame := fun a o h n => k a o (c.frame a o h n)
  live := fun a h => by
    cases q : H a with
    | none => exact absurd q (c.live a h)
    | some o => rw [k a o q]; simp
  imm := c.imm.trans k
  base := c.base
  ov := c.ov
  len := by simp [c.len]
  sl := fun j s' h => by
    by_cases hj : j < Γ.length
    · rw [List.getElem?_append_left hj] at h
      obtain ⟨y, h1, h2⟩ := c.sl j s' h
      refine ⟨y, by rw [List.getElem?_append_left (by rw [← c.len]; exact hj)]; exact h1, ?_⟩
      rw [if_neg (Nat.ne_of_lt hj)]
      refine h2.to (Ext.refl _) fun a ha => ?_
      obtain ⟨o, ho⟩ := h2.trk a ha
      rw [ho]; exact k a o ho
    · rw [List.getElem?_append_right (Nat.le_of_not_lt hj)] at h
      have hj0 : j - Γ.length = 0 := by
        have := (List.getElem?_eq_some_iff.mp h).1
        simp at this; omega
      rw [hj0] at h
      simp at h; subst h
      have : j = Γ.length := by omega
      subst this
      refine ⟨x, by rw [c.len]; simp, ?_⟩
      rw [if_pos rfl]; exact sok
  dj := fun j m a hj hm h1 h2 => by
    simp at hj hm
    by_cases ej : j = Γ.length <;> by_cases em : m = Γ.length
    · rw [ej, em]
    · rw [if_pos ej] at h1; rw [if_neg em] at h2
      obtain ⟨o, ho⟩ := c.trk (show m < Γ.length by omega) h2
      rw [nw a h1] at ho; cases ho
    · rw [if_neg ej] at h1; rw [if_pos em] at h2
      obtain ⟨o, ho⟩ := c.trk (show j < Γ.length by omega) h1
      rw [nw a h2] at ho; cases ho
    · rw [if_neg ej] at h1; rw [if_neg em] at h2
      exact c.dj j m a (by omega) (by omega) h1 h2
  av := fun j a hj h => by
    simp at hj
    by_cases ej : j = Γ.length
    · rw [if_pos ej] at h; exact c.imm.none_of (nw a h)
    · rw [if_neg ej] at h; exact c.av j a (by omega) h
/-- a new owned object, as one slot more -/
theorem Rel.alloc {p : Addr} {o : HO} {d : D} (c : Rel G C Hi σ H Γ) (hp : H p = none) (ow : Own G.K Hi (upd H p o) p d) : Rel G C Hi (σ ++ [some (.ref p)]) (upd H p o) (Γ ++ [.ow d]) :=
  let ⟨_, c⟩ := c
  ⟨_, c.push (l := [p]) (Ext.new hp) ⟨p, rfl, rfl, ow, (c.fresh hp).2⟩ fun a ha => by
    have : a = p := by simpa using ha
    rw [this]; exact hp⟩
/-- the last slots away -/
theorem Rel.trunc {σ2 : St} {Γ2 : Ev} (c : Rel G C Hi (σ ++ σ2) H (Γ ++ Γ2)) (hl : Γ.length = σ.length) : Rel G C Hi σ H Γ := by
  obtain ⟨fp, c⟩ := c
  refine ⟨fp, c.frame, c.live, c.imm, c.base, c.ov, hl, fun j s h => ?_, fun i j a hi hj => c.dj i j a (by simp; omega) (by simp; omega), fun i a hi => c.av i a (by simp; omega)⟩
  have hj : j < Γ.length := (List.getElem?_eq_some_iff.mp h).1
  obtain ⟨x, h1, h2⟩ := c.sl j s (by rw [List.getElem?_append_left hj]; exact h)
  exact ⟨x, by rw [List.getElem?_append_left (by omega)] at h1; exact h1, h2⟩
/-- an owned thing becomes immutable -/
theorem Rel.freeze {i : Nat} {d : D} (c : Rel G C Hi σ H Γ) (h : Γ[i]? = some (.ow d)) : ∃ Hi', Ext Hi Hi' ∧ Rel G C Hi' σ H (Γ.set i (.sh d)) := by
  obtain ⟨fp, c⟩ := c
  obtain ⟨x, hx, p, hf, e, ow, h0⟩ := c.sl i _ h
  have hi : i < Γ.length := (List.getElem?_eq_some_iff.mp h).1
  have hin : Hi p = none := c.av i p hi (by rw [hf]; simp)
  obtain ⟨o, ho⟩ := ow.trk
  have ex : Ext Hi (upd Hi p o) := Ext.new hin
  refine ⟨upd Hi p o, ex, ?_⟩
  have hs : σ.set i x = σ := by
    obtain ⟨hl, e1⟩ := List.getElem?_eq_some_iff.mp hx
    rw [← e1]; exact List.set_getElem_self hl
  have st := c.step (H' := H) (Hi' := upd Hi p o) (x := x) (l := []) (s := .sh d) hi ex (fun a o' h _ => h) (fun a ha => by obtain ⟨o', h'⟩ := c.trk hi ha; rw [h']; simp)
    (fun a u hu => by
      by_cases ha : a = p
      · subst ha; rw [upd_same] at hu; cases hu; exact ho
      · rw [upd_ne ha] at hu; exact c.imm a u hu)
    (fun a u hu => by
      by_cases ha : a = p
      · subst ha; exact .inr h0
      · rw [upd_ne ha] at hu; exact .inl hu)
    ⟨rfl, .ref p, e, ow.rep ho hin⟩ (fun a ha => nomatch ha)
    (fun j a hj hne ha => by
      have : a ≠ p := fun z => hne (c.dj j i a hj hi ha (by rw [hf, z]; simp))
      rw [upd_ne this]; exact c.av j a hj ha)
  rw [hs] at st
  exact ⟨_, st⟩
end

/-! ### results, plain wishes -/
/-- what an expression gives: shared data, a new owned thing, the owned thing of the i-th slot -/
inductive R where
  | sh (d : D)
  | ow (d : D)
  | vr (i : Nat)
  | op (t : Nat) (d : D)
def slD : Sl → Option D
  | .sh d => some d
  | .ow d => some d
  | .io d => some d
  | _ => none
/-- its data, read now -/
def rdW (r : R) (Γ : Ev) (k : D → Prop) : Prop := match r with
  | .sh d => k d
  | .ow d => k d
  | .vr i => match Γ[i]? with
    | some (.sh d) => k d
    | some (.ow d) => k d
    | some (.io d) => k d
    | _ => False
  | .op _ _ => False
/-- its data, shared from now on -/
def frW (r : R) (Γ : Ev) (k : D → Ev → Prop) : Prop := match r with
  | .sh d => k d Γ
  | .ow d => k d Γ
  | .vr i => match Γ[i]? with
    | some (.sh d) => k d Γ
    | some (.ow d) => k d (Γ.set i (.sh d))
    | _ => False
  | .op _ _ => False
abbrev XW := Exn → Ev → Prop
abbrev WE := Ev → (R → Ev → Prop) → XW → Prop
abbrev WT := Ev → (Bool → Ev → Prop) → XW → Prop
abbrev WA := Ev → (List R → Ev → Prop) → XW → Prop
structure WD where
  nx : Ev → Prop
  rt : R → Ev → Prop
  bk : Ev → Prop
  ct : Ev → Prop
abbrev WS := Ev → WD → XW → Prop

/-- the value v is the result r -/
def Out (G : Gb) (C : Cf) (Hi : Hp) (σ : St) (H : Hp) (Γ : Ev) (v : V) : R → Prop
  | .sh d => Rel G C Hi σ H Γ ∧ Rep G.K Hi v d
  | .ow d => Γ.length = σ.length ∧ Rel G C Hi (σ ++ [some v]) H (Γ ++ [.ow d])
  | .vr i => Rel G C Hi σ H Γ ∧ σ[i]? = some (some v)
  | .op t d => Γ.length = σ.length ∧ Rel G C Hi (σ ++ [some v]) H (Γ ++ [.op t d])
/-- what is kept of a result while others are reckoned -/
def Hold (G : Gb) (Hi : Hp) (σ : St) (v : V) : R → Prop
  | .sh d => Rep G.K Hi v d
  | .ow d => Rep G.K Hi v d
  | .vr i => σ[i]? = some (some v)
  | .op _ _ => True
/-- v may be read as d -/
def Rdb (K : Fg) (Hi H : Hp) (v : V) (d : D) : Prop := Rep K Hi v d ∨ ∃ p, v = .ref p ∧ Own K Hi H p d

section
variable {G : Gb} {C : Cf} {Hi Hi' H H' : Hp} {σ : St} {Γ : Ev} {v : V} {r : R}
theorem Rel.len (c : Rel G C Hi σ H Γ) : Γ.length = σ.length := let ⟨_, c⟩ := c; c.len
theorem Rel.imm (c : Rel G C Hi σ H Γ) : Ext Hi H := let ⟨_, c⟩ := c; c.imm
theorem Hold.mono (h : Hold G Hi σ v r) (e : Ext Hi Hi') : Hold G Hi' σ v r := by
  cases r with
  | sh d => exact Rep.mono e h
  | ow d => exact Rep.mono e h
  | vr i => exact h
  | op t d => trivial
/-- a temporary is let into the immutable heap -/
theorem Rel.settle {d : D} (hl : Γ.length = σ.length) (c : Rel G C Hi (σ ++ [some v]) H (Γ ++ [.ow d])) : ∃ Hi', Ext Hi Hi' ∧ Rel G C Hi' σ H Γ ∧ Rep G.K Hi' v d := by
  obtain ⟨Hi', e, c'⟩ := Rel.freeze (i := Γ.length) (d := d) c (by simp)
  have e1 : (Γ ++ [Sl.ow d]).set Γ.length (.sh d) = Γ ++ [.sh d] := by simp
  rw [e1] at c'
  refine ⟨Hi', e, c'.trunc hl, ?_⟩
  obtain ⟨fp, c'⟩ := c'
  obtain ⟨x, hx, _, w, hw, rw'⟩ := c'.sl Γ.length (.sh d) (by simp)
  have : x = some v := by
    rw [hl] at hx
    simpa using hx.symm
  rw [this] at hw; cases hw; exact rw'
theorem Out.hold (o : Out G C Hi σ H Γ v r) : ∃ Hi', Ext Hi Hi' ∧ Rel G C Hi' σ H Γ ∧ Hold G Hi' σ v r := by
  cases r with
  | sh d => exact ⟨Hi, Ext.refl _, o.1, o.2⟩
  | vr i => exact ⟨Hi, Ext.refl _, o.1, o.2⟩
  | op t d => exact ⟨Hi, Ext.refl _, o.2.trunc o.1, trivial⟩
  | ow d =>
    obtain ⟨Hi', e, c, h⟩ := Rel.settle o.1 o.2
    exact ⟨Hi', e, c, h⟩
theorem Rel.at_ow (c : Rel G C Hi σ H Γ) {i : Nat} {d : D} (h : Γ[i]? = some (.ow d)) : ∃ p, σ[i]? = some (some (.ref p)) ∧ Own G.K Hi H p d := by
  obtain ⟨fp, c⟩ := c
  obtain ⟨x, hx, p, _, e, ow, _⟩ := c.sl i _ h
  exact ⟨p, by rw [hx, e], ow⟩
theorem Rel.at_io (c : Rel G C Hi σ H Γ) {i : Nat} {d : D} (h : Γ[i]? = some (.io d)) : ∃ p, σ[i]? = some (some (.ref p)) ∧ Own G.K Hi H p d := by
  obtain ⟨fp, c⟩ := c
  obtain ⟨x, hx, p, _, e, ow, _⟩ := c.sl i _ h
  exact ⟨p, by rw [hx, e], ow⟩
theorem Rel.at_sh (c : Rel G C Hi σ H Γ) {i : Nat} {d : D} (h : Γ[i]? = some (.sh d)) : ∃ v, σ[i]? = some (some v) ∧ Rep G.K Hi v d := by
  obtain ⟨fp, c⟩ := c
  obtain ⟨x, hx, _, v, e, r⟩ := c.sl i _ h
  exact ⟨v, by rw [hx, e], r⟩
/-- reading -/
theorem Hold.read {k : D → Prop} (c : Rel G C Hi σ H Γ) (h : Hold G Hi σ v r) (q : rdW r Γ k) : ∃ d, Rdb G.K Hi H v d ∧ k d := by
  cases r with
  | sh d => exact ⟨d, .inl h, q⟩
  | ow d => exact ⟨d, .inl h, q⟩
  | vr i =>
    have h : σ[i]? = some (some v) := h
    unfold rdW at q
    dsimp only at q
    split at q
    · rename_i d e
      obtain ⟨w, h1, h2⟩ := c.at_sh e
      rw [h] at h1; cases h1
      exact ⟨d, .inl h2, q⟩
    · rename_i d e
      obtain ⟨p, h1, h2⟩ := c.at_ow e
      rw [h] at h1; cases h1
      exact ⟨d, .inr ⟨p, rfl, h2⟩, q⟩
    · rename_i d e
      obtain ⟨p, h1, h2⟩ := c.at_io e
      rw [h] at h1; cases h1
      exact ⟨d, .inr ⟨p, rfl, h2⟩, q⟩
    · exact q.elim
  | op t d => exact q.elim
/-- sharing -/
theorem Hold.share {k : D → Ev → Prop} (c : Rel G C Hi σ H Γ) (h : Hold G Hi σ v r) (q : frW r Γ k) : ∃ d Hi' Γ', Ext Hi Hi' ∧ Rel G C Hi' σ H Γ' ∧ Rep G.K Hi' v d ∧ k d Γ' := by
  cases r with
  | sh d => exact ⟨d, Hi, Γ, Ext.refl _, c, h, q⟩
  | ow d => exact ⟨d, Hi, Γ, Ext.refl _, c, h, q⟩
  | vr i =>
    have h : σ[i]? = some (some v) := h
    unfold frW at q
    dsimp only at q
    split at q
    · rename_i d e
      obtain ⟨w, h1, h2⟩ := c.at_sh e
      rw [h] at h1; cases h1
      exact ⟨d, Hi, Γ, Ext.refl _, c, h2, q⟩
    · rename_i d e
      obtain ⟨Hi', e', c'⟩ := Rel.freeze c e
      obtain ⟨w, h1, h2⟩ := c'.at_sh (i := i) (d := d) (by
        have := (List.getElem?_eq_some_iff.mp e).1
        rw [List.getElem?_set_self this])
      rw [h] at h1; cases h1
      exact ⟨d, Hi', _, e', c', h2, q⟩
    · exact q.elim
  | op t d => exact q.elim
theorem Out.share {k : D → Ev → Prop} (o : Out G C Hi σ H Γ v r) (q : frW r Γ k) : ∃ d Hi' Γ', Ext Hi Hi' ∧ Rel G C Hi' σ H Γ' ∧ Rep G.K Hi' v d ∧ k d Γ' := by
  obtain ⟨Hi1, e1, c1, h1⟩ := o.hold
  obtain ⟨d, Hi2, Γ2, e2, c2, r2, q2⟩ := h1.share c1 q
  exact ⟨d, Hi2, Γ2, e1.trans e2, c2, r2, q2⟩

/-! ### what a readable value is -/
variable {K : Fg}
theorem Rdb.int {x : V} {i : Int} (h : Rdb K Hi H x (.int i)) : x = .int i := by
  rcases h with h | ⟨p, _, h⟩
  · cases h; rfl
  · cases h
theorem Rdb.bl {x : V} {b : Bool} (h : Rdb K Hi H x (.bool b)) : x = .bl b := by
  rcases h with h | ⟨p, _, h⟩
  · cases h; rfl
  · cases h
theorem Rdb.str {x : V} {z : Str} (h : Rdb K Hi H x (.str z)) : x = .str z := by
  rcases h with h | ⟨p, _, h⟩
  · cases h; rfl
  · cases h
theorem Rdb.non {x : V} (h : Rdb K Hi H x .none) : x = .non := by
  rcases h with h | ⟨p, _, h⟩
  · cases h; rfl
  · cases h
theorem Rdb.list {x : V} {ds : List D} (e : Ext Hi H) (h : Rdb K Hi H x (.list ds)) : ∃ p xs, x = .ref p ∧ H p = some (.lst xs) ∧ Reps K Hi xs ds := by
  rcases h with h | ⟨p, rfl, h⟩
  · cases h with
    | lst h r => exact ⟨_, _, rfl, e _ _ h, r⟩
  · cases h with
    | lst h r => exact ⟨_, _, rfl, h, r⟩
theorem Rdb.tuple {x : V} {ds : List D} (e : Ext Hi H) (h : Rdb K Hi H x (.tuple ds)) : ∃ p xs, x = .ref p ∧ H p = some (.tup xs) ∧ Reps K Hi xs ds := by
  rcases h with h | ⟨p, _, h⟩
  · cases h with
    | tup h r => exact ⟨_, _, rfl, e _ _ h, r⟩
  · cases h
theorem Rdb.dict {x : V} {ps : List (D × D)} (e : Ext Hi H) (h : Rdb K Hi H x (.dict ps)) : ∃ p kvs, x = .ref p ∧ Rd H p (.dK kvs) ∧ RepKV K Hi kvs ps := by
  rcases h with h | ⟨p, rfl, h⟩
  · cases h with
    | dct h r => exact ⟨_, _, rfl, e.rd h, r⟩
  · cases h with
    | dct h r => exact ⟨_, _, rfl, .inl h, r⟩
/-- as data at the heap H itself -/
theorem Rdb.rep {x : V} {d : D} (e : Ext Hi H) (h : Rdb K Hi H x d) : Rep K H x d := by
  rcases h with h | ⟨p, rfl, h⟩
  · exact h.mono e
  · cases h with
    | lst h r => exact .lst h (r.mono e)
    | dct h r => exact .dct (.inl h) (r.mono e)
end

/-! ### simulations -/
def SimE (G : Gb) (W : WX) (t : TE) (w : WE) : Prop := ∀ (C : Cf) (Hi : Hp) (σ : St) (H : Hp) (Γ : Ev) (Q : VK) (Qd : R → Ev → Prop) (Xd : XW), Rel G C Hi σ H Γ → w Γ Qd Xd →
  (∀ v r H' Hi' Γ', Ext Hi Hi' → Out G C Hi' σ H' Γ' v r → Qd r Γ' → Q v H') →
  (∀ x c d H' Hi' Γ', Ext Hi Hi' → Rel G C Hi' σ H' Γ' → G.xr x c d Hi' → Xd x Γ' → W c d σ H') → t σ H Q
def SimT (G : Gb) (W : WX) (t : TT) (w : WT) : Prop := ∀ (C : Cf) (Hi : Hp) (σ : St) (H : Hp) (Γ : Ev) (Q : Bool → Hp → Prop) (Qd : Bool → Ev → Prop) (Xd : XW), Rel G C Hi σ H Γ → w Γ Qd Xd →
  (∀ b H' Hi' Γ', Ext Hi Hi' → Rel G C Hi' σ H' Γ' → Qd b Γ' → Q b H') →
  (∀ x c d H' Hi' Γ', Ext Hi Hi' → Rel G C Hi' σ H' Γ' → G.xr x c d Hi' → Xd x Γ' → W c d σ H') → t σ H Q
/-- a list of expressions, each held till the end -/
inductive Holds (G : Gb) (Hi : Hp) (σ : St) : List V → List R → Prop
  | nil : Holds G Hi σ [] []
  | cons {v : V} {vs : List V} {r : R} {rs : List R} : Hold G Hi σ v r → Holds G Hi σ vs rs → Holds G Hi σ (v :: vs) (r :: rs)
def SimA (G : Gb) (W : WX) (t : TA) (w : WA) : Prop := ∀ (C : Cf) (Hi : Hp) (σ : St) (H : Hp) (Γ : Ev) (Q : List V → Hp → Prop) (Qd : List R → Ev → Prop) (Xd : XW), Rel G C Hi σ H Γ → w Γ Qd Xd →
  (∀ vs rs H' Hi' Γ', Ext Hi Hi' → Rel G C Hi' σ H' Γ' → Holds G Hi' σ vs rs → Qd rs Γ' → Q vs H') →
  (∀ x c d H' Hi' Γ', Ext Hi Hi' → Rel G C Hi' σ H' Γ' → G.xr x c d Hi' → Xd x Γ' → W c d σ H') → t σ H Q
def SimS (G : Gb) (W : WX) (t : TS) (w : WS) : Prop := ∀ (C : Cf) (Hi : Hp) (σ : St) (H : Hp) (Γ : Ev) (Dn : Ends) (Dd : WD) (Xd : XW), Rel G C Hi σ H Γ → w Γ Dd Xd →
  (∀ σ' H' Hi' Γ', Ext Hi Hi' → Rel G C Hi' σ' H' Γ' → Dd.nx Γ' → Dn.nx σ' H') →
  (∀ v r σ' H' Hi' Γ', Ext Hi Hi' → Out G C Hi' σ' H' Γ' v r → Dd.rt r Γ' → Dn.rt v H') →
  (∀ σ' H' Hi' Γ', Ext Hi Hi' → Rel G C Hi' σ' H' Γ' → Dd.bk Γ' → Dn.bk σ' H') →
  (∀ σ' H' Hi' Γ', Ext Hi Hi' → Rel G C Hi' σ' H' Γ' → Dd.ct Γ' → Dn.ct σ' H') →
  (∀ x c d σ' H' Hi' Γ', Ext Hi Hi' → Rel G C Hi' σ' H' Γ' → G.xr x c d Hi' → Xd x Γ' → W c d σ' H') → t Dn σ H
end VL

set_option Elab.async false
set_option linter.all false
set_option maxRecDepth 100000
/-! VExpr: expressions of the value layer. -/
namespace VL
open PySem L2

section
variable {G : Gb} {C : Cf} {Hi Hi' H H' : Hp} {σ : St} {Γ : Ev} {fp : Nat → List Addr} {W : WX}
/-- the tracked heap and its immutable part grow -/
theorem Core.grow (c : Core G C Hi σ H Γ fp) (k : Ext H H') (e : Ext Hi Hi') (im : Ext Hi' H') (ov : ∀ a o, Hi' a = some o → Hi a = some o ∨ H a = none) : Core G C Hi' σ H' Γ fp where
  frame := fun a o h n => k a o (c.frame a o h n)
  live := fun a h => by
    cases q : H a with
    | none => exact absurd q (c.live a h)
    | some o => rw [k a o q]; simp
  imm := im
  base := c.base.trans e
  ov := fun a o h => by
    rcases ov a o h with q | q
    · exact c.ov a o q
    · exact .inr (c.fresh q).2
  len := c.len
  sl := fun j s h => by
    obtain ⟨x, h1, h2⟩ := c.sl j s h
    refine ⟨x, h1, h2.to e fun a ha => ?_⟩
    obtain ⟨o, ho⟩ := h2.trk a ha
    rw [ho]; exact k a o ho
  dj := c.dj
  av := fun i a hi ha => by
    cases q : Hi' a with
    | none => rfl
    | some o =>
      rcases ov a o q with z | z
      · rw [c.av i a hi ha] at z; cases z
      · obtain ⟨u, hu⟩ := c.trk hi ha
        rw [z] at hu; cases hu
theorem Rel.grow (c : Rel G C Hi σ H Γ) (k : Ext H H') (e : Ext Hi Hi') (im : Ext Hi' H') (ov : ∀ a o, Hi' a = some o → Hi a = some o ∨ H a = none) : Rel G C Hi' σ H' Γ :=
  let ⟨_, c⟩ := c
  ⟨_, c.grow k e im ov⟩
/-- a new immutable object -/
theorem Rel.laid {p : Addr} {o : HO} (c : Rel G C Hi σ H Γ) (hp : H p = none) : Ext Hi (upd Hi p o) ∧ Rel G C (upd Hi p o) σ (upd H p o) Γ := by
  have hn := c.imm.none_of hp
  refine ⟨Ext.new hn, c.grow (Ext.new hp) (Ext.new hn) (fun a u h => ?_) fun a u h => ?_⟩
  · by_cases e : a = p
    · rw [e, upd_same] at h; rw [e, upd_same]; exact h
    · rw [upd_ne e] at h; rw [upd_ne e]; exact c.imm a u h
  · by_cases e : a = p
    · rw [e]; exact .inr hp
    · rw [upd_ne e] at h; exact .inl h
theorem Out.new {p : Addr} {o : HO} {d : D} (c : Rel G C Hi σ H Γ) (hp : H p = none) (ow : Own G.K Hi (upd H p o) p d) : Out G C Hi σ (upd H p o) Γ (.ref p) (.ow d) := ⟨c.len, c.alloc hp ow⟩
theorem Out.newL {p : Addr} {xs : List V} {ds : List D} (c : Rel G C Hi σ H Γ) (hp : H p = none) (r : Reps G.K Hi xs ds) : Out G C Hi σ (upd H p (.lst xs)) Γ (.ref p) (.ow (.list ds)) := Out.new c hp (.lst upd_same r)
theorem Out.newT {p : Addr} {xs : List V} {ds : List D} (c : Rel G C Hi σ H Γ) (hp : H p = none) (r : Reps G.K Hi xs ds) :
    Ext Hi (upd Hi p (.tup xs)) ∧ Out G C (upd Hi p (.tup xs)) σ (upd H p (.tup xs)) Γ (.ref p) (.sh (.tuple ds)) := by
  obtain ⟨e, c'⟩ := c.laid (o := .tup xs) hp
  exact ⟨e, c', .tup upd_same (r.mono e)⟩

/-! ### names, constants -/
def wVar (i : Nat) : WE := fun Γ Q _ => match Γ[i]? with
  | some (.sh d) => Q (.sh d) Γ
  | some (.ow _) => Q (.vr i) Γ
  | some (.io _) => Q (.vr i) Γ
  | some (.op _ _) => Q (.vr i) Γ
  | _ => False
theorem sim_var (i : Nat) : SimE G W (tVar i) (wVar i) := by
  intro C Hi σ H Γ Q Qd Xd c hw hQ hX
  unfold wVar at hw
  split at hw
  · rename_i d e
    obtain ⟨v, h1, h2⟩ := c.at_sh e
    exact ⟨v, h1, hQ v (.sh d) H Hi Γ (Ext.refl _) ⟨c, h2⟩ hw⟩
  · rename_i d e
    obtain ⟨p, h1, _⟩ := c.at_ow e
    exact ⟨_, h1, hQ _ (.vr i) H Hi Γ (Ext.refl _) ⟨c, h1⟩ hw⟩
  · rename_i d e
    obtain ⟨p, h1, _⟩ := c.at_io e
    exact ⟨_, h1, hQ _ (.vr i) H Hi Γ (Ext.refl _) ⟨c, h1⟩ hw⟩
  · rename_i t d e
    obtain ⟨fp, c0⟩ := id c
    obtain ⟨x, hx, p, e1, _⟩ := c0.sl i _ e
    rw [e1] at hx
    exact ⟨_, hx, hQ _ (.vr i) H Hi Γ (Ext.refl _) ⟨c, hx⟩ hw⟩
  · exact hw.elim
def wC (d : D) : WE := fun Γ Q _ => Q (.sh d) Γ
theorem sim_c {v : V} {d : D} (h : ∀ Hi, Rep G.K Hi v d) : SimE G W (tC v) (wC d) := fun C Hi σ H Γ Q Qd Xd c hw hQ hX => hQ v (.sh d) H Hi Γ (Ext.refl _) ⟨c, h Hi⟩ hw

/-! ### operators -/
abbrev Op2 := D → D → (R → Prop) → Prop
abbrev Op1 := D → (R → Prop) → Prop
def Sem2 (G : Gb) (r : R2) (o : Op2) : Prop := ∀ {C : Cf} {Hi : Hp} {σ : St} {H : Hp} {Γ : Ev} {x y : V} {a b : D} {k : R → Prop} {Q : VK}, Rel G C Hi σ H Γ → Rdb G.K Hi H x a → Rdb G.K Hi H y b → o a b k →
  (∀ v r H' Hi', Ext Hi Hi' → Out G C Hi' σ H' Γ v r → k r → Q v H') → r x y H Q
def Sem1 (G : Gb) (r : V → Hp → VK → Prop) (o : Op1) : Prop := ∀ {C : Cf} {Hi : Hp} {σ : St} {H : Hp} {Γ : Ev} {x : V} {a : D} {k : R → Prop} {Q : VK}, Rel G C Hi σ H Γ → Rdb G.K Hi H x a → o a k →
  (∀ v r H' Hi', Ext Hi Hi' → Out G C Hi' σ H' Γ v r → k r → Q v H') → r x H Q
def wOp (o : Op2) (wa wb : WE) : WE := fun Γ Q X => wa Γ (fun ra Γ1 => wb Γ1 (fun rb Γ2 => rdW ra Γ2 fun a => rdW rb Γ2 fun b => o a b fun r => Q r Γ2) X) X
theorem sim_op {r : R2} {o : Op2} {ta tb : TE} {wa wb : WE} (h : Sem2 G r o) (ha : SimE G W ta wa) (hb : SimE G W tb wb) : SimE G W (tOp r ta tb) (wOp o wa wb) := by
  intro C Hi σ H Γ Q Qd Xd c hw hQ hX
  refine ha C Hi σ H Γ _ _ Xd c hw (fun v1 r1 H1 Hi1 Γ1 e1 o1 q1 => ?_) hX
  obtain ⟨Hi2, e2, c2, h2⟩ := o1.hold
  refine hb C Hi2 σ H1 Γ1 _ _ Xd c2 q1 (fun v3 r3 H3 Hi3 Γ3 e3 o3 q3 => ?_) fun x c d H' Hi' Γ' e' => hX x c d H' Hi' Γ' ((e1.trans e2).trans e')
  obtain ⟨Hi4, e4, c4, h4⟩ := o3.hold
  obtain ⟨d1, b1, q4⟩ := (h2.mono (e3.trans e4)).read c4 q3
  obtain ⟨d2, b2, q5⟩ := h4.read c4 q4
  exact h c4 b1 b2 q5 fun v r H' Hi' e o q => hQ v r H' Hi' Γ3 ((((e1.trans e2).trans e3).trans e4).trans e) o q
def wUn (o : Op1) (wa : WE) : WE := fun Γ Q X => wa Γ (fun ra Γ1 => rdW ra Γ1 fun a => o a fun r => Q r Γ1) X
theorem sim_un {r : V → Hp → VK → Prop} {o : Op1} {ta : TE} {wa : WE} (h : Sem1 G r o) (ha : SimE G W ta wa) : SimE G W (tUn r ta) (wUn o wa) := by
  intro C Hi σ H Γ Q Qd Xd c hw hQ hX
  refine ha C Hi σ H Γ _ _ Xd c hw (fun v1 r1 H1 Hi1 Γ1 e1 o1 q1 => ?_) hX
  obtain ⟨Hi2, e2, c2, h2⟩ := o1.hold
  obtain ⟨d1, b1, q4⟩ := h2.read c2 q1
  exact h c2 b1 q4 fun v r H' Hi' e o q => hQ v r H' Hi' Γ1 ((e1.trans e2).trans e) o q
/-- an operator that makes nothing: g tells the value -/
theorem out_int (c : Rel G C Hi σ H Γ) (i : Int) : Out G C Hi σ H Γ (.int i) (.sh (.int i)) := ⟨c, .int i⟩
theorem out_bl (c : Rel G C Hi σ H Γ) (i : Bool) : Out G C Hi σ H Γ (.bl i) (.sh (.bool i)) := ⟨c, .bl i⟩
theorem out_str (c : Rel G C Hi σ H Γ) (i : Str) : Out G C Hi σ H Γ (.str i) (.sh (.str i)) := ⟨c, .str i⟩
theorem out_non (c : Rel G C Hi σ H Γ) : Out G C Hi σ H Γ .non (.sh .none) := ⟨c, .non⟩

def isI (d : D) (k : Int → Prop) : Prop := match d with
  | .int i => k i
  | _ => False
def isB (d : D) (k : Bool → Prop) : Prop := match d with
  | .bool b => k b
  | _ => False
def isS (d : D) (k : Str → Prop) : Prop := match d with
  | .str s => k s
  | _ => False
def isL (d : D) (k : List D → Prop) : Prop := match d with
  | .list s => k s
  | _ => False
/-- two ints to an int -/
def oII (P : Int → Int → Prop) (g : Int → Int → Int) : Op2 := fun a b k => isI a fun i => isI b fun j => P i j ∧ k (.sh (.int (g i j)))
def oIB (g : Int → Int → Bool) : Op2 := fun a b k => isI a fun i => isI b fun j => k (.sh (.bool (g i j)))
theorem isI_inv {d : D} {k : Int → Prop} (h : isI d k) : ∃ i, d = .int i ∧ k i := by
  unfold isI at h; split at h
  · exact ⟨_, rfl, h⟩
  · exact h.elim
theorem isB_inv {d : D} {k : Bool → Prop} (h : isB d k) : ∃ i, d = .bool i ∧ k i := by
  unfold isB at h; split at h
  · exact ⟨_, rfl, h⟩
  · exact h.elim
theorem isS_inv {d : D} {k : Str → Prop} (h : isS d k) : ∃ i, d = .str i ∧ k i := by
  unfold isS at h; split at h
  · exact ⟨_, rfl, h⟩
  · exact h.elim
theorem isL_inv {d : D} {k : List D → Prop} (h : isL d k) : ∃ i, d = .list i ∧ k i := by
  unfold isL at h; split at h
  · exact ⟨_, rfl, h⟩
  · exact h.elim
theorem sem_II {P P' : Int → Int → Prop} {g : Int → Int → Int} {g' : Int → Int → V} (hp : ∀ i j, P i j → P' i j) (hg : ∀ i j, P i j → g' i j = .int (g i j)) : Sem2 G (rI P' g') (oII P g) := by
  intro C Hi σ H Γ x y a b k Q c ha hb h q
  obtain ⟨i, rfl, h1⟩ := isI_inv h
  obtain ⟨j, rfl, hP, h⟩ := isI_inv h1
  refine ⟨i, j, ha.int, hb.int, hp i j hP, ?_⟩
  rw [hg i j hP]
  exact q _ _ H Hi (Ext.refl _) (out_int c _) h
theorem sem_II0 {g : Int → Int → Int} : Sem2 G (rI0 fun i j => .int (g i j)) (oII (fun _ _ => True) g) := by
  intro C Hi σ H Γ x y a b k Q c ha hb h q
  obtain ⟨i, rfl, h1⟩ := isI_inv h
  obtain ⟨j, rfl, hP, h⟩ := isI_inv h1
  exact ⟨i, j, ha.int, hb.int, q _ _ H Hi (Ext.refl _) (out_int c _) h⟩
theorem sem_IB {g : Int → Int → Bool} : Sem2 G (rI0 fun i j => .bl (g i j)) (oIB g) := by
  intro C Hi σ H Γ x y a b k Q c ha hb h q
  obtain ⟨i, rfl, h1⟩ := isI_inv h
  obtain ⟨j, rfl, h⟩ := isI_inv h1
  exact ⟨i, j, ha.int, hb.int, q _ _ H Hi (Ext.refl _) (out_bl c _) h⟩

/-! ### deep == and != -/
mutual
theorem Rep.dp {K : Fg} {H : Hp} : ∀ {v : V} {d : D}, Rep K H v d → d.canLay0 = true → Dp K H v d
  | _, _, .non, _ => .non
  | _, _, .bl b, _ => .bl b
  | _, _, .int i, _ => .int i
  | _, _, .str x, _ => .str x
  | _, _, .lst h r, e => .lst (.inl (.inl h)) (Reps.dp r (by simpa [PyData.canLay0] using e))
  | _, _, .tup h r, e => .tup (.inl (.inl h)) (Reps.dp r (by simpa [PyData.canLay0] using e))
  | _, _, .dct h r, e => by simp [PyData.canLay0] at e
theorem Reps.dp {K : Fg} {H : Hp} : ∀ {vs : List V} {ds : List D}, Reps K H vs ds → PyData.canLayAll0 ds = true → DpAll K H vs ds
  | _, _, .nil, _ => .nil
  | _, d :: ds, .cons h r, e => by
    have e' : PyData.canLay0 d = true ∧ PyData.canLayAll0 ds = true := by simpa [PyData.canLayAll0] using e
    exact .cons (Rep.dp h e'.1) (Reps.dp r e'.2)
end
theorem Rdb.dp {K : Fg} {x : V} {d : D} (e : Ext Hi H) (h : Rdb K Hi H x d) (s : SeqAt.shaped d = true) : Dp K H x d := (h.rep e).dp (SeqAt.canLay_of_shaped s)
def oEq : Op2 := fun a b k => SeqAt.shaped a = true ∧ SeqAt.shaped b = true ∧ k (.sh (.bool (PyData.eqv a b)))
def oNe : Op2 := fun a b k => SeqAt.shaped a = true ∧ SeqAt.shaped b = true ∧ k (.sh (.bool (!PyData.eqv a b)))
theorem sem_eq : Sem2 G (rEqD G.K) oEq := by
  intro C Hi σ H Γ x y a b k Q c ha hb ⟨s1, s2, h⟩ q
  exact ⟨a, b, ha.dp c.imm s1, hb.dp c.imm s2, s1, s2, q _ _ H Hi (Ext.refl _) (out_bl c _) h⟩
theorem sem_ne : Sem2 G (rNeD G.K) oNe := by
  intro C Hi σ H Γ x y a b k Q c ha hb ⟨s1, s2, h⟩ q
  exact ⟨a, b, ha.dp c.imm s1, hb.dp c.imm s2, s1, s2, q _ _ H Hi (Ext.refl _) (out_bl c _) h⟩
/-- is None, is not None -/
def isNone : D → Bool
  | .none => true
  | _ => false
theorem rdb_none {K : Fg} {x : V} {d : D} (h : Rdb K Hi H x d) : decide (x = .non) = isNone d := by
  rcases h with h | ⟨p, rfl, h⟩
  · cases h <;> first | rfl | exact decide_eq_false (fun z => nomatch z)
  · cases h <;> exact decide_eq_false (fun z => nomatch z)
def isN (d : D) (k : Prop) : Prop := match d with
  | .none => k
  | _ => False
theorem isN_inv {d : D} {k : Prop} (h : isN d k) : d = .none ∧ k := by
  unfold isN at h; split at h
  · exact ⟨rfl, h⟩
  · exact h.elim
def oIsN : Op2 := fun a b k => isN b (k (.sh (.bool (isNone a))))
def oNotN : Op2 := fun a b k => isN b (k (.sh (.bool (!isNone a))))
theorem sem_isN : Sem2 G (fun x y H Q => y = .non ∧ Q (.bl (decide (x = .non))) H) oIsN := by
  intro C Hi σ H Γ x y a b k Q c ha hb h q
  obtain ⟨rfl, h⟩ := isN_inv h
  refine ⟨hb.non, ?_⟩
  rw [rdb_none ha]
  exact q _ _ H Hi (Ext.refl _) (out_bl c _) h
theorem sem_notN : Sem2 G (fun x y H Q => y = .non ∧ Q (.bl (!decide (x = .non))) H) oNotN := by
  intro C Hi σ H Γ x y a b k Q c ha hb h q
  obtain ⟨rfl, h⟩ := isN_inv h
  refine ⟨hb.non, ?_⟩
  rw [rdb_none ha]
  exact q _ _ H Hi (Ext.refl _) (out_bl c _) h

/-! ### tests -/
def wT (w : WE) : WT := fun Γ Q X => w Γ (fun r Γ1 => rdW r Γ1 fun d => isB d fun b => Q b Γ1) X
theorem sim_tB {t : TE} {w : WE} (h : SimE G W t w) : SimT G W (tB t) (wT w) := by
  intro C Hi σ H Γ Q Qd Xd c hw hQ hX
  refine h C Hi σ H Γ _ _ Xd c hw (fun v1 r1 H1 Hi1 Γ1 e1 o1 q1 => ?_) hX
  obtain ⟨Hi2, e2, c2, h2⟩ := o1.hold
  obtain ⟨d, b1, q⟩ := h2.read c2 q1
  obtain ⟨b, rfl, q⟩ := isB_inv q
  exact ⟨b, b1.bl, hQ b H1 Hi2 Γ1 (e1.trans e2) c2 q⟩
theorem sim_tTest {t : TE} {w : WE} (h : SimE G W t w) : SimT G W (tTest t) (wT w) := sim_tB h
def wAnd (a b : WT) : WT := fun Γ Q X => a Γ (fun c Γ1 => if c = true then b Γ1 Q X else Q false Γ1) X
def wOr (a b : WT) : WT := fun Γ Q X => a Γ (fun c Γ1 => if c = true then Q true Γ1 else b Γ1 Q X) X
def wNot (a : WT) : WT := fun Γ Q X => a Γ (fun c Γ1 => Q (!c) Γ1) X
theorem sim_and {t u : TT} {a b : WT} (ha : SimT G W t a) (hb : SimT G W u b) : SimT G W (tAnd t u) (wAnd a b) := by
  intro C Hi σ H Γ Q Qd Xd c hw hQ hX
  refine ha C Hi σ H Γ _ _ Xd c hw (fun b1 H1 Hi1 Γ1 e1 c1 q1 => ?_) hX
  cases b1 with
  | true => exact hb C Hi1 σ H1 Γ1 Q Qd Xd c1 q1 (fun b H' Hi' Γ' e => hQ b H' Hi' Γ' (e1.trans e)) fun x c d H' Hi' Γ' e => hX x c d H' Hi' Γ' (e1.trans e)
  | false => exact hQ false H1 Hi1 Γ1 e1 c1 q1
theorem sim_or {t u : TT} {a b : WT} (ha : SimT G W t a) (hb : SimT G W u b) : SimT G W (tOr t u) (wOr a b) := by
  intro C Hi σ H Γ Q Qd Xd c hw hQ hX
  refine ha C Hi σ H Γ _ _ Xd c hw (fun b1 H1 Hi1 Γ1 e1 c1 q1 => ?_) hX
  cases b1 with
  | false => exact hb C Hi1 σ H1 Γ1 Q Qd Xd c1 q1 (fun b H' Hi' Γ' e => hQ b H' Hi' Γ' (e1.trans e)) fun x c d H' Hi' Γ' e => hX x c d H' Hi' Γ' (e1.trans e)
  | true => exact hQ true H1 Hi1 Γ1 e1 c1 q1
theorem sim_not {t : TT} {a : WT} (ha : SimT G W t a) : SimT G W (tNot t) (wNot a) := fun C Hi σ H Γ Q Qd Xd c hw hQ hX =>
  ha C Hi σ H Γ _ _ Xd c hw (fun b H1 Hi1 Γ1 e1 c1 q1 => hQ (!b) H1 Hi1 Γ1 e1 c1 q1) hX
/-- .. as values -/
def wAndV (wa wb : WE) : WE := fun Γ Q X => wa Γ (fun r Γ1 => rdW r Γ1 fun d => isB d fun b => if b = true then wb Γ1 Q X else Q (.sh (.bool false)) Γ1) X
def wOrV (wa wb : WE) : WE := fun Γ Q X => wa Γ (fun r Γ1 => rdW r Γ1 fun d => isB d fun b => if b = true then Q (.sh (.bool true)) Γ1 else wb Γ1 Q X) X
def wNotV (wa : WE) : WE := fun Γ Q X => wa Γ (fun r Γ1 => rdW r Γ1 fun d => isB d fun b => Q (.sh (.bool (!b))) Γ1) X
theorem sim_andV {ta tb : TE} {wa wb : WE} (ha : SimE G W ta wa) (hb : SimE G W tb wb) : SimE G W (tAndV ta tb) (wAndV wa wb) := by
  intro C Hi σ H Γ Q Qd Xd c hw hQ hX
  refine ha C Hi σ H Γ _ _ Xd c hw (fun v1 r1 H1 Hi1 Γ1 e1 o1 q1 => ?_) hX
  obtain ⟨Hi2, e2, c2, h2⟩ := o1.hold
  obtain ⟨d, b1, q⟩ := h2.read c2 q1
  obtain ⟨b, rfl, q⟩ := isB_inv q
  refine ⟨b, b1.bl, ?_⟩
  cases b with
  | true => exact hb C Hi2 σ H1 Γ1 Q Qd Xd c2 q (fun v r H' Hi' Γ' e => hQ v r H' Hi' Γ' ((e1.trans e2).trans e)) fun x c d H' Hi' Γ' e => hX x c d H' Hi' Γ' ((e1.trans e2).trans e)
  | false => exact hQ _ _ H1 Hi2 Γ1 (e1.trans e2) (out_bl c2 _) q
theorem sim_orV {ta tb : TE} {wa wb : WE} (ha : SimE G W ta wa) (hb : SimE G W tb wb) : SimE G W (tOrV ta tb) (wOrV wa wb) := by
  intro C Hi σ H Γ Q Qd Xd c hw hQ hX
  refine ha C Hi σ H Γ _ _ Xd c hw (fun v1 r1 H1 Hi1 Γ1 e1 o1 q1 => ?_) hX
  obtain ⟨Hi2, e2, c2, h2⟩ := o1.hold
  obtain ⟨d, b1, q⟩ := h2.read c2 q1
  obtain ⟨b, rfl, q⟩ := isB_inv q
  refine ⟨b, b1.bl, ?_⟩
  cases b with
  | false => exact hb C Hi2 σ H1 Γ1 Q Qd Xd c2 q (fun v r H' Hi' Γ' e => hQ v r H' Hi' Γ' ((e1.trans e2).trans e)) fun x c d H' Hi' Γ' e => hX x c d H' Hi' Γ' ((e1.trans e2).trans e)
  | true => exact hQ _ _ H1 Hi2 Γ1 (e1.trans e2) (out_bl c2 _) q
theorem sim_notV {ta : TE} {wa : WE} (ha : SimE G W ta wa) : SimE G W (tNotV ta) (wNotV wa) := by
  intro C Hi σ H Γ Q Qd Xd c hw hQ hX
  refine ha C Hi σ H Γ _ _ Xd c hw (fun v1 r1 H1 Hi1 Γ1 e1 o1 q1 => ?_) hX
  obtain ⟨Hi2, e2, c2, h2⟩ := o1.hold
  obtain ⟨d, b1, q⟩ := h2.read c2 q1
  obtain ⟨b, rfl, q⟩ := isB_inv q
  exact ⟨b, b1.bl, hQ _ _ H1 Hi2 Γ1 (e1.trans e2) (out_bl c2 _) q⟩
def wIf (c : WT) (wa wb : WE) : WE := fun Γ Q X => c Γ (fun b Γ1 => if b = true then wa Γ1 Q X else wb Γ1 Q X) X
theorem sim_if {t : TT} {u : WT} {ta tb : TE} {wa wb : WE} (hc : SimT G W t u) (ha : SimE G W ta wa) (hb : SimE G W tb wb) : SimE G W (tIf t ta tb) (wIf u wa wb) := by
  intro C Hi σ H Γ Q Qd Xd c hw hQ hX
  refine hc C Hi σ H Γ _ _ Xd c hw (fun b1 H1 Hi1 Γ1 e1 c1 q1 => ?_) hX
  cases b1 with
  | true => exact ha C Hi1 σ H1 Γ1 Q Qd Xd c1 q1 (fun v r H' Hi' Γ' e => hQ v r H' Hi' Γ' (e1.trans e)) fun x c d H' Hi' Γ' e => hX x c d H' Hi' Γ' (e1.trans e)
  | false => exact hb C Hi1 σ H1 Γ1 Q Qd Xd c1 q1 (fun v r H' Hi' Γ' e => hQ v r H' Hi' Γ' (e1.trans e)) fun x c d H' Hi' Γ' e => hX x c d H' Hi' Γ' (e1.trans e)
/-- a < b < c -/
def wChain (o o' : Op2) (wa wb wc : WE) : WE := fun Γ Q X => wa Γ (fun ra Γ1 => wb Γ1 (fun rb Γ2 => rdW ra Γ2 fun a => rdW rb Γ2 fun b => o a b fun r => rdW r Γ2 fun d => isB d fun z =>
  if z = true then wc Γ2 (fun rc Γ3 => rdW rb Γ3 fun b' => rdW rc Γ3 fun c' => o' b' c' fun r => Q r Γ3) X else Q (.sh (.bool false)) Γ2) X) X
theorem sim_chain {r r' : R2} {o o' : Op2} {ta tb tc : TE} {wa wb wc : WE} (h : Sem2 G r o) (h' : Sem2 G r' o') (ha : SimE G W ta wa) (hb : SimE G W tb wb) (hc : SimE G W tc wc) : SimE G W (tChain r r' ta tb tc) (wChain o o' wa wb wc) := by
  intro C Hi σ H Γ Q Qd Xd c hw hQ hX
  refine ha C Hi σ H Γ _ _ Xd c hw (fun v1 r1 H1 Hi1 Γ1 e1 o1 q1 => ?_) hX
  obtain ⟨Hi2, e2, c2, h2⟩ := o1.hold
  have f2 := e1.trans e2
  refine hb C Hi2 σ H1 Γ1 _ _ Xd c2 q1 (fun v3 r3 H3 Hi3 Γ3 e3 o3 q3 => ?_) fun x c d H' Hi' Γ' e' => hX x c d H' Hi' Γ' (f2.trans e')
  obtain ⟨Hi4, e4, c4, h4⟩ := o3.hold
  have f4 := (f2.trans e3).trans e4
  obtain ⟨d1, b1, q4⟩ := (h2.mono (e3.trans e4)).read c4 q3
  obtain ⟨d2, b2, q5⟩ := h4.read c4 q4
  refine h c4 b1 b2 q5 fun v r H5 Hi5 e5 o5 q6 => ?_
  obtain ⟨Hi6, e6, c6, h6⟩ := o5.hold
  obtain ⟨d3, b3, q7⟩ := h6.read c6 q6
  obtain ⟨z, rfl, q8⟩ := isB_inv q7
  have f6 := (f4.trans e5).trans e6
  refine ⟨z, b3.bl, ?_⟩
  cases z with
  | false => exact hQ _ _ H5 Hi6 Γ3 f6 (out_bl c6 _) q8
  | true =>
    refine hc C Hi6 σ H5 Γ3 _ _ Xd c6 q8 (fun v7 r7 H7 Hi7 Γ7 e7 o7 q9 => ?_) fun x c d H' Hi' Γ' e' => hX x c d H' Hi' Γ' (f6.trans e')
    obtain ⟨Hi8, e8, c8, h8⟩ := o7.hold
    obtain ⟨d4, b4, q10⟩ := (h4.mono (((e5.trans e6).trans e7).trans e8)).read c8 q9
    obtain ⟨d5, b5, q11⟩ := h8.read c8 q10
    exact h' c8 b4 b5 q11 fun v r H' Hi' e o q => hQ v r H' Hi' Γ7 (((f6.trans e7).trans e8).trans e) o q

/-! ### argument lists, displays -/
def wNil : WA := fun Γ Q _ => Q [] Γ
def wCons (wa : WE) (wr : WA) : WA := fun Γ Q X => wa Γ (fun r Γ1 => wr Γ1 (fun rs Γ2 => Q (r :: rs) Γ2) X) X
theorem sim_nil : SimA G W tNil wNil := fun C Hi σ H Γ Q Qd Xd c hw hQ hX => hQ [] [] H Hi Γ (Ext.refl _) c .nil hw
theorem sim_cons {te : TE} {tr : TA} {we : WE} {wr : WA} (ha : SimE G W te we) (hr : SimA G W tr wr) : SimA G W (tCons te tr) (wCons we wr) := by
  intro C Hi σ H Γ Q Qd Xd c hw hQ hX
  refine ha C Hi σ H Γ _ _ Xd c hw (fun v1 r1 H1 Hi1 Γ1 e1 o1 q1 => ?_) hX
  obtain ⟨Hi2, e2, c2, h2⟩ := o1.hold
  have f2 := e1.trans e2
  refine hr C Hi2 σ H1 Γ1 _ _ Xd c2 q1 (fun vs rs H3 Hi3 Γ3 e3 c3 h3 q3 => ?_) fun x c d H' Hi' Γ' e' => hX x c d H' Hi' Γ' (f2.trans e')
  exact hQ (v1 :: vs) (r1 :: rs) H3 Hi3 Γ3 (f2.trans e3) c3 (.cons (h2.mono e3) h3) q3
/-- all of them shared -/
def frAll : List R → Ev → (List D → Ev → Prop) → Prop
  | [], Γ, k => k [] Γ
  | r :: rs, Γ, k => frW r Γ fun d Γ1 => frAll rs Γ1 fun ds Γ2 => k (d :: ds) Γ2
theorem Holds.mono {vs : List V} {rs : List R} (h : Holds G Hi σ vs rs) (e : Ext Hi Hi') : Holds G Hi' σ vs rs := by
  induction h with
  | nil => exact .nil
  | cons a r ih => exact .cons (a.mono e) ih
theorem Holds.share {vs : List V} {rs : List R} (h : Holds G Hi σ vs rs) : ∀ {Hi' : Hp} {Γ : Ev} {k : List D → Ev → Prop}, Ext Hi Hi' → Rel G C Hi' σ H Γ → frAll rs Γ k →
    ∃ ds Hi2 Γ', Ext Hi' Hi2 ∧ Rel G C Hi2 σ H Γ' ∧ Reps G.K Hi2 vs ds ∧ k ds Γ' := by
  induction h with
  | nil => intro Hi' Γ k e c q; exact ⟨[], Hi', Γ, Ext.refl _, c, .nil, q⟩
  | cons a r ih =>
    intro Hi' Γ k e c q
    obtain ⟨d, Hi2, Γ2, e2, c2, r2, q2⟩ := (a.mono e).share c q
    obtain ⟨ds, Hi3, Γ3, e3, c3, r3, q3⟩ := ih (e.trans e2) c2 q2
    exact ⟨d :: ds, Hi3, Γ3, e2.trans e3, c3, .cons (r2.mono e3) r3, q3⟩
/-- all of them read -/
def rdAll : List R → Ev → (List D → Prop) → Prop
  | [], _, k => k []
  | r :: rs, Γ, k => rdW r Γ fun d => rdAll rs Γ fun ds => k (d :: ds)
inductive Rdbs (K : Fg) (Hi H : Hp) : List V → List D → Prop
  | nil : Rdbs K Hi H [] []
  | cons {v : V} {vs : List V} {d : D} {ds : List D} : Rdb K Hi H v d → Rdbs K Hi H vs ds → Rdbs K Hi H (v :: vs) (d :: ds)
theorem Holds.read {vs : List V} {rs : List R} (h : Holds G Hi σ vs rs) (c : Rel G C Hi σ H Γ) : ∀ {k : List D → Prop}, rdAll rs Γ k → ∃ ds, Rdbs G.K Hi H vs ds ∧ k ds := by
  induction h with
  | nil => intro k q; exact ⟨[], .nil, q⟩
  | cons a r ih =>
    intro k q
    obtain ⟨d, b, q⟩ := a.read c q
    obtain ⟨ds, bs, q⟩ := ih q
    exact ⟨d :: ds, .cons b bs, q⟩
def wTup (wa : WA) : WE := fun Γ Q X => wa Γ (fun rs Γ1 => frAll rs Γ1 fun ds Γ2 => ds.length ≤ 1000 ∧ Q (.sh (.tuple ds)) Γ2) X
def wLst (wa : WA) : WE := fun Γ Q X => wa Γ (fun rs Γ1 => frAll rs Γ1 fun ds Γ2 => ds.length ≤ 1000 ∧ Q (.ow (.list ds)) Γ2) X
theorem le_line {n : Nat} (h : n ≤ 1000) : n ≤ sizeLine := by rw [sizeLine_eq]; omega
theorem sim_tup {ta : TA} {wa : WA} (h : SimA G W ta wa) : SimE G W (tTup ta) (wTup wa) := by
  intro C Hi σ H Γ Q Qd Xd c hw hQ hX
  refine h C Hi σ H Γ _ _ Xd c hw (fun vs rs H1 Hi1 Γ1 e1 c1 h1 q1 => ?_) hX
  obtain ⟨ds, Hi2, Γ2, e2, c2, r2, hl, q2⟩ := h1.share (Ext.refl _) c1 q1
  refine ⟨le_line (by rw [r2.length]; exact hl), fun p hp => ?_⟩
  obtain ⟨e3, o3⟩ := Out.newT c2 hp r2
  exact hQ _ _ _ _ Γ2 ((e1.trans e2).trans e3) o3 q2
theorem sim_lst {ta : TA} {wa : WA} (h : SimA G W ta wa) : SimE G W (tLst ta) (wLst wa) := by
  intro C Hi σ H Γ Q Qd Xd c hw hQ hX
  refine h C Hi σ H Γ _ _ Xd c hw (fun vs rs H1 Hi1 Γ1 e1 c1 h1 q1 => ?_) hX
  obtain ⟨ds, Hi2, Γ2, e2, c2, r2, hl, q2⟩ := h1.share (Ext.refl _) c1 q1
  exact ⟨le_line (by rw [r2.length]; exact hl), fun p hp => hQ _ _ _ _ Γ2 (e1.trans e2) (Out.newL c2 hp r2) q2⟩

/-! ### calls of built-ins by values -/
abbrev OpN := List D → (R → Prop) → Prop
def SemN (G : Gb) (r : List V → Hp → VK → Prop) (o : OpN) : Prop := ∀ {C : Cf} {Hi : Hp} {σ : St} {H : Hp} {Γ : Ev} {xs : List V} {ds : List D} {k : R → Prop} {Q : VK}, Rel G C Hi σ H Γ → Rdbs G.K Hi H xs ds → o ds k →
  (∀ v r H' Hi', Ext Hi Hi' → Out G C Hi' σ H' Γ v r → k r → Q v H') → r xs H Q
def wCB (o : OpN) (wa : WA) : WE := fun Γ Q X => wa Γ (fun rs Γ1 => rdAll rs Γ1 fun ds => o ds fun r => Q r Γ1) X
theorem sim_cb {r : List V → Hp → VK → Prop} {o : OpN} {ta : TA} {wa : WA} (h : SemN G r o) (ha : SimA G W ta wa) : SimE G W (tCB r ta) (wCB o wa) := by
  intro C Hi σ H Γ Q Qd Xd c hw hQ hX
  refine ha C Hi σ H Γ _ _ Xd c hw (fun vs rs H1 Hi1 Γ1 e1 c1 h1 q1 => ?_) hX
  obtain ⟨ds, bs, q⟩ := h1.read c1 q1
  exact h c1 bs q fun v r H' Hi' e o q => hQ v r H' Hi' Γ1 (e1.trans e) o q
end
end VL

set_option Elab.async false
set_option linter.all false
set_option maxRecDepth 100000
/-! VStmt: statements of the value layer. -/
namespace VL
open PySem L2

section
variable {G : Gb} {C : Cf} {Hi Hi' H H' : Hp} {σ σ2 τ : St} {Γ Γ2 Δ : Ev} {fp fp' : Nat → List Addr} {W : WX}
/-- the last slot's thing goes to the i-th -/
theorem Rel.move {x : Option V} {s : Sl} {i : Nat} (c : Rel G C Hi (σ ++ [x]) H (Γ ++ [s])) (hl : Γ.length = σ.length) (hi : i < Γ.length) : Rel G C Hi (σ.set i x) H (Γ.set i s) := by
  obtain ⟨fp, c⟩ := c
  have c0 : Core G C Hi σ H Γ fp := by
    refine ⟨c.frame, c.live, c.imm, c.base, c.ov, hl, fun j s h => ?_, fun i j a hi hj => c.dj i j a (by simp; omega) (by simp; omega), fun i a hi => c.av i a (by simp; omega)⟩
    have hj : j < Γ.length := (List.getElem?_eq_some_iff.mp h).1
    obtain ⟨x, h1, h2⟩ := c.sl j s (by rw [List.getElem?_append_left hj]; exact h)
    exact ⟨x, by rw [List.getElem?_append_left (by omega)] at h1; exact h1, h2⟩
  obtain ⟨y, hy, ok⟩ := c.sl Γ.length s (by simp)
  have ey : y = x := by
    rw [hl] at hy
    simpa using hy.symm
  subst ey
  exact ⟨_, c0.put hi ok fun a ha => ⟨c.av Γ.length a (by simp) ha, fun j hj hne hm => by
    have := c.dj j Γ.length a (by simp; omega) (by simp) hm ha
    omega⟩⟩
theorem Rel.push_sh {v : V} {d : D} (c : Rel G C Hi σ H Γ) (r : Rep G.K Hi v d) : Rel G C Hi (σ ++ [some v]) H (Γ ++ [.sh d]) :=
  let ⟨_, c⟩ := c
  ⟨_, c.push (l := []) (Ext.refl _) ⟨rfl, v, rfl, r⟩ fun a ha => nomatch ha⟩

/-! ### a part of the slots put aside -/
/-- is the cell one of the first n slots' -/
def InFp (fp : Nat → List Addr) (n : Nat) (a : Addr) : Prop := ∃ i, i < n ∧ a ∈ fp i
open Classical in
noncomputable def Cf.aside (C : Cf) (Hi H : Hp) (fp : Nat → List Addr) (n : Nat) (lv : ∀ a, C.H0 a ≠ none → H a ≠ none) : Cf where
  H0 := fun a => if InFp fp n a then C.H0 a else H a
  I0 := Hi
  io := C.io
  iot := fun a h => by
    split
    · exact C.iot a h
    · exact lv a (C.iot a h)
  pa := C.pa
open Classical in
theorem Core.aside (c : Core G C Hi (σ ++ τ) H (Γ ++ Δ) fp) (hl : Γ.length = σ.length) : Core G (C.aside Hi H fp Γ.length c.live) Hi σ H Γ fp where
  frame := fun a o h n => by
    have h : (if InFp fp Γ.length a then C.H0 a else H a) = some o := h
    split at h
    · exact c.frame a o h n
    · exact h
  live := fun a h => by
    have h : (if InFp fp Γ.length a then C.H0 a else H a) ≠ none := h
    split at h
    · exact c.live a h
    · exact h
  imm := c.imm
  base := Ext.refl _
  ov := fun a o h => .inl h
  len := hl
  sl := fun j s h => by
    have hj : j < Γ.length := (List.getElem?_eq_some_iff.mp h).1
    obtain ⟨x, h1, h2⟩ := c.sl j s (by rw [List.getElem?_append_left hj]; exact h)
    refine ⟨x, by rw [List.getElem?_append_left (by omega)] at h1; exact h1, ?_⟩
    have hin : ∀ a ∈ fp j, (C.aside Hi H fp Γ.length c.live).H0 a = C.H0 a := fun a ha => if_pos ⟨j, hj, ha⟩
    cases s with
    | no => exact h2
    | sh d => exact h2
    | ow d =>
      obtain ⟨p, e0, e1, e2, e3⟩ := h2
      exact ⟨p, e0, e1, e2, by rw [hin p (by rw [e0]; simp)]; exact e3⟩
    | io d => exact h2
    | op t d =>
      obtain ⟨p, e1, e2, e3, e4⟩ := h2
      exact ⟨p, e1, e2, fun a ha => by rw [hin a ha]; exact e3 a ha, e4⟩
    | two a b => exact h2
  dj := fun i j a hi hj => c.dj i j a (by simp; omega) (by simp; omega)
  av := fun i a hi => c.av i a (by simp; omega)
/-- plain temporaries -/
def Plain : Ev → Prop := fun Δ => ∀ s ∈ Δ, (∃ d, s = .sh d) ∨ (∃ d, s = .ow d) ∨ ∃ t d, 10 ≤ t ∧ s = .op t d
open Classical in
theorem Core.back (c : Core G C Hi (σ ++ τ) H (Γ ++ Δ) fp) (hl : Γ.length = σ.length) (pl : Plain Δ) (e : Ext Hi Hi') (n : Core G (C.aside Hi H fp Γ.length c.live) Hi' σ2 H' Γ2 fp') :
    Rel G C Hi' (σ2 ++ τ) H' (Γ2 ++ Δ) := by
  have h0 : ∀ a, (C.aside Hi H fp Γ.length c.live).H0 a = none → C.H0 a = none := fun a h => by
    have h : (if InFp fp Γ.length a then C.H0 a else H a) = none := h
    split at h
    · exact h
    · exact (c.fresh h).2
  -- a cell of the part put aside
  have prot : ∀ j a, j < (Γ ++ Δ).length → Γ.length ≤ j → a ∈ fp j → ∃ o, H a = some o ∧ (C.aside Hi H fp Γ.length c.live).H0 a = some o ∧ ¬ C.io a := fun j a hj hge ha => by
    obtain ⟨o, ho⟩ := c.trk hj ha
    have nin : ¬ InFp fp Γ.length a := fun ⟨i, hi, hm⟩ => by
      have := c.dj i j a (by simp; omega) hj hm ha
      omega
    refine ⟨o, ho, (if_neg nin).trans ho, ?_⟩
    obtain ⟨x, _, ok⟩ := c.sl j _ (List.getElem?_eq_getElem hj)
    have hs : (Γ ++ Δ)[j] ∈ Δ := by
      rw [List.getElem_append_right hge]
      exact List.getElem_mem _
    rcases pl _ hs with ⟨d, e⟩ | ⟨d, e⟩ | ⟨t, d, ht, e⟩
    · rw [e] at ok
      obtain ⟨z, _⟩ := ok
      rw [z] at ha; cases ha
    · rw [e] at ok
      obtain ⟨p, z, _, _, q⟩ := ok
      rw [z] at ha
      have : a = p := by simpa using ha
      subst this
      exact fun hio => C.iot a hio q
    · rw [e] at ok
      obtain ⟨p, _, _, q, _⟩ := ok
      rcases q a ha with q | ⟨q, _⟩
      · exact fun hio => C.iot a hio q
      · omega
  have nl := n.len
  refine ⟨fun j => if j < Γ2.length then fp' j else fp (j - Γ2.length + Γ.length), ?_⟩
  refine ⟨fun a o h hn => ?_, fun a h => ?_, n.imm, c.base.trans e, fun a o h => ?_, ?_, fun j s h => ?_, fun i j a hi hj h1 h2 => ?_, fun i a hi h => ?_⟩
  · refine n.frame a o ?_ hn
    show (if InFp fp Γ.length a then C.H0 a else H a) = some o
    split
    · exact h
    · exact c.frame a o h hn
  · refine n.live a fun q => h (h0 a q)
  · rcases n.ov a o h with q | q
    · exact c.ov a o q
    · exact .inr (h0 a q)
  · have := c.len
    simp at this ⊢
    omega
  · have hjl := (List.getElem?_eq_some_iff.mp h).1
    by_cases hj : j < Γ2.length
    · rw [List.getElem?_append_left hj] at h
      obtain ⟨x, h1, h2⟩ := n.sl j s h
      refine ⟨x, by rw [List.getElem?_append_left (by omega)]; exact h1, ?_⟩
      rw [if_pos hj]
      cases s with
      | no => exact h2
      | sh d => exact h2
      | ow d =>
        obtain ⟨p, e0, e1, e2, e3⟩ := h2
        exact ⟨p, e0, e1, e2, h0 p e3⟩
      | io d => exact h2
      | op t d =>
        obtain ⟨p, e1, e2, e3, e4⟩ := h2
        exact ⟨p, e1, e2, fun a ha => (e3 a ha).imp (h0 a) id, e4⟩
      | two a b => exact h2
    · rw [List.getElem?_append_right (by omega)] at h
      have hk : (Γ ++ Δ)[j - Γ2.length + Γ.length]? = some s := by
        rw [List.getElem?_append_right (by omega)]
        rw [show j - Γ2.length + Γ.length - Γ.length = j - Γ2.length by omega]
        exact h
      obtain ⟨x, h1, h2⟩ := c.sl _ s hk
      refine ⟨x, ?_, ?_⟩
      · rw [List.getElem?_append_right (by omega)]
        rw [List.getElem?_append_right (by omega)] at h1
        rw [show j - σ2.length = j - Γ2.length + Γ.length - σ.length by omega]
        exact h1
      · rw [if_neg hj]
        have hkl := (List.getElem?_eq_some_iff.mp hk).1
        refine h2.to e fun a ha => ?_
        obtain ⟨o, ho, ho', nio⟩ := prot _ a hkl (by omega) ha
        rw [ho]
        exact n.frame a o ho' nio
  · simp at hi hj
    by_cases ei : i < Γ2.length <;> by_cases ej : j < Γ2.length
    · rw [if_pos ei] at h1; rw [if_pos ej] at h2
      exact n.dj i j a ei ej h1 h2
    · rw [if_pos ei] at h1; rw [if_neg ej] at h2
      obtain ⟨o, ho, ho', nio⟩ := prot _ a (by simp; omega) (by omega) h2
      rcases n.home ei h1 with q | q
      · rw [ho'] at q; cases q
      · exact absurd q nio
    · rw [if_neg ei] at h1; rw [if_pos ej] at h2
      obtain ⟨o, ho, ho', nio⟩ := prot _ a (by simp; omega) (by omega) h1
      rcases n.home ej h2 with q | q
      · rw [ho'] at q; cases q
      · exact absurd q nio
    · rw [if_neg ei] at h1; rw [if_neg ej] at h2
      have := c.dj _ _ a (by simp; omega) (by simp; omega) h1 h2
      omega
  · simp at hi
    by_cases ei : i < Γ2.length
    · rw [if_pos ei] at h; exact n.av i a ei h
    · rw [if_neg ei] at h
      obtain ⟨o, ho, ho', nio⟩ := prot _ a (by simp; omega) (by omega) h
      cases q : Hi' a with
      | none => rfl
      | some u =>
        rcases n.ov a u q with z | z
        · have z : Hi a = some u := z
          rw [c.av _ a (by simp; omega) h] at z; cases z
        · rw [ho'] at z; cases z
end

section
variable {G : Gb} {C : Cf} {Hi Hi' H H' : Hp} {σ : St} {Γ : Ev} {W : WX}
/-! ### blocks, returns, tests -/
def wNext : WS := fun Γ D _ => D.nx Γ
def wSeq (a b : WS) : WS := fun Γ D X => a Γ ⟨fun Γ1 => b Γ1 D X, D.rt, D.bk, D.ct⟩ X
def wBrk : WS := fun Γ D _ => D.bk Γ
def wCnt : WS := fun Γ D _ => D.ct Γ
def wDrop (w : WE) : WS := fun Γ D X => w Γ (fun _ Γ1 => D.nx Γ1) X
def wRet (w : WE) : WS := fun Γ D X => w Γ (fun r Γ1 => D.rt r Γ1) X
def wRetN : WS := fun Γ D _ => D.rt (.sh .none) Γ
def wIfS (c : WT) (a b : WS) : WS := fun Γ D X => c Γ (fun z Γ1 => if z = true then a Γ1 D X else b Γ1 D X) X
theorem sim_next : SimS G W tNext wNext := fun C Hi σ H Γ Dn Dd Xd c hw h1 _ _ _ _ => h1 σ H Hi Γ (Ext.refl _) c hw
theorem sim_brk : SimS G W tBreak wBrk := fun C Hi σ H Γ Dn Dd Xd c hw _ _ h3 _ _ => h3 σ H Hi Γ (Ext.refl _) c hw
theorem sim_cnt : SimS G W tCont wCnt := fun C Hi σ H Γ Dn Dd Xd c hw _ _ _ h4 _ => h4 σ H Hi Γ (Ext.refl _) c hw
theorem sim_seq {t u : TS} {a b : WS} (ha : SimS G W t a) (hb : SimS G W u b) : SimS G W (tSeq t u) (wSeq a b) := by
  intro C Hi σ H Γ Dn Dd Xd c hw h1 h2 h3 h4 h5
  refine ha C Hi σ H Γ _ _ Xd c hw (fun σ1 H1 Hi1 Γ1 e1 c1 q => ?_) h2 h3 h4 h5
  exact hb C Hi1 σ1 H1 Γ1 Dn Dd Xd c1 q (fun σ' H' Hi' Γ' e => h1 σ' H' Hi' Γ' (e1.trans e)) (fun v r σ' H' Hi' Γ' e => h2 v r σ' H' Hi' Γ' (e1.trans e))
    (fun σ' H' Hi' Γ' e => h3 σ' H' Hi' Γ' (e1.trans e)) (fun σ' H' Hi' Γ' e => h4 σ' H' Hi' Γ' (e1.trans e)) fun x c d σ' H' Hi' Γ' e => h5 x c d σ' H' Hi' Γ' (e1.trans e)
theorem Out.rel {v : V} {r : R} (o : Out G C Hi σ H Γ v r) : Rel G C Hi σ H Γ := by
  cases r with
  | sh d => exact o.1
  | vr i => exact o.1
  | ow d => exact o.2.trunc o.1
  | op t d => exact o.2.trunc o.1
theorem sim_drop {t : TE} {w : WE} (h : SimE G W t w) : SimS G W (tDrop t) (wDrop w) := fun C Hi σ H Γ Dn Dd Xd c hw h1 _ _ _ h5 =>
  h C Hi σ H Γ _ _ Xd c hw (fun v r H1 Hi1 Γ1 e1 o1 q => h1 σ H1 Hi1 Γ1 e1 o1.rel q) fun x c d => h5 x c d σ
theorem sim_ret {t : TE} {w : WE} (h : SimE G W t w) : SimS G W (tRet t) (wRet w) := fun C Hi σ H Γ Dn Dd Xd c hw _ h2 _ _ h5 =>
  h C Hi σ H Γ _ _ Xd c hw (fun v r H1 Hi1 Γ1 e1 o1 q => h2 v r σ H1 Hi1 Γ1 e1 o1 q) fun x c d => h5 x c d σ
theorem sim_retN : SimS G W tRetN wRetN := fun C Hi σ H Γ Dn Dd Xd c hw _ h2 _ _ _ => h2 .non (.sh .none) σ H Hi Γ (Ext.refl _) (out_non c) hw
theorem sim_ifS {tc : TT} {wc : WT} {t u : TS} {a b : WS} (hc : SimT G W tc wc) (ha : SimS G W t a) (hb : SimS G W u b) : SimS G W (tIfS tc t u) (wIfS wc a b) := by
  intro C Hi σ H Γ Dn Dd Xd c hw h1 h2 h3 h4 h5
  refine hc C Hi σ H Γ _ _ Xd c hw (fun z H1 Hi1 Γ1 e1 c1 q => ?_) fun x c d => h5 x c d σ
  cases z with
  | true =>
    exact ha C Hi1 σ H1 Γ1 Dn Dd Xd c1 q (fun σ' H' Hi' Γ' e => h1 σ' H' Hi' Γ' (e1.trans e)) (fun v r σ' H' Hi' Γ' e => h2 v r σ' H' Hi' Γ' (e1.trans e))
      (fun σ' H' Hi' Γ' e => h3 σ' H' Hi' Γ' (e1.trans e)) (fun σ' H' Hi' Γ' e => h4 σ' H' Hi' Γ' (e1.trans e)) fun x c d σ' H' Hi' Γ' e => h5 x c d σ' H' Hi' Γ' (e1.trans e)
  | false =>
    exact hb C Hi1 σ H1 Γ1 Dn Dd Xd c1 q (fun σ' H' Hi' Γ' e => h1 σ' H' Hi' Γ' (e1.trans e)) (fun v r σ' H' Hi' Γ' e => h2 v r σ' H' Hi' Γ' (e1.trans e))
      (fun σ' H' Hi' Γ' e => h3 σ' H' Hi' Γ' (e1.trans e)) (fun σ' H' Hi' Γ' e => h4 σ' H' Hi' Γ' (e1.trans e)) fun x c d σ' H' Hi' Γ' e => h5 x c d σ' H' Hi' Γ' (e1.trans e)

/-! ### x = e -/
theorem set_far {α : Type} {l : List α} {i : Nat} {x : α} (h : ¬ i < l.length) : l.set i x = l := List.set_eq_of_length_le (by omega)
theorem Rel.setSh {i : Nat} {v : V} {d : D} (c : Rel G C Hi σ H Γ) (r : Rep G.K Hi v d) : Rel G C Hi (σ.set i (some v)) H (Γ.set i (.sh d)) := by
  by_cases hi : i < Γ.length
  · exact c.put_sh hi r
  · rw [set_far hi, set_far (by rw [← c.len]; exact hi)]; exact c
theorem Rel.setOw {i : Nat} {x : Option V} {s : Sl} (c : Rel G C Hi (σ ++ [x]) H (Γ ++ [s])) (hl : Γ.length = σ.length) : Rel G C Hi (σ.set i x) H (Γ.set i s) := by
  by_cases hi : i < Γ.length
  · exact c.move hl hi
  · rw [set_far hi, set_far (by rw [← hl]; exact hi)]; exact c.trunc hl
/-- a result into a slot -/
def setR (i : Nat) (r : R) (Γ : Ev) (k : Ev → Prop) : Prop := match r with
  | .sh d => k (Γ.set i (.sh d))
  | .ow d => k (Γ.set i (.ow d))
  | .vr j => frW (.vr j) Γ fun d Γ1 => k (Γ1.set i (.sh d))
  | .op t d => 10 ≤ t ∧ k (Γ.set i (.op t d))
def wSet (i : Nat) (w : WE) : WS := fun Γ D X => w Γ (fun r Γ1 => setR i r Γ1 D.nx) X
theorem Out.setR {v : V} {r : R} {i : Nat} {k : Ev → Prop} (o : Out G C Hi σ H Γ v r) (q : setR i r Γ k) : ∃ Hi' Γ', Ext Hi Hi' ∧ Rel G C Hi' (σ.set i (some v)) H Γ' ∧ k Γ' := by
  cases r with
  | sh d => exact ⟨Hi, _, Ext.refl _, o.1.setSh o.2, q⟩
  | ow d => exact ⟨Hi, _, Ext.refl _, o.2.setOw o.1, q⟩
  | vr j =>
    obtain ⟨d, Hi', Γ', e, c, r, q⟩ := o.share (k := fun d Γ1 => k (Γ1.set i (.sh d))) q
    exact ⟨Hi', _, e, c.setSh r, q⟩
  | op t d => exact ⟨Hi, _, Ext.refl _, o.2.setOw o.1, q.2⟩
theorem sim_set {t : TE} {w : WE} (i : Nat) (h : SimE G W t w) : SimS G W (tAsg t (gName i)) (wSet i w) := by
  intro C Hi σ H Γ Dn Dd Xd c hw h1 _ _ _ h5
  refine h C Hi σ H Γ _ _ Xd c hw (fun v r H1 Hi1 Γ1 e1 o1 q => ?_) fun x c d => h5 x c d σ
  obtain ⟨Hi2, Γ2, e2, c2, q2⟩ := o1.setR q
  exact h1 _ H1 Hi2 Γ2 (e1.trans e2) c2 q2

/-! ### targets of shared data -/
abbrev WG := D → Ev → (Ev → Prop) → Prop
def SimG (G : Gb) (g : TG) (w : WG) : Prop := ∀ (C : Cf) (Hi : Hp) (σ : St) (H : Hp) (Γ : Ev) (v : V) (d : D) (Q : St → Hp → Prop) (Qd : Ev → Prop), Rel G C Hi σ H Γ → Rep G.K Hi v d → w d Γ Qd →
  (∀ σ' Γ', Rel G C Hi σ' H Γ' → Qd Γ' → Q σ' H) → g v σ H Q
abbrev WGs := List D → Ev → (Ev → Prop) → Prop
def SimGs (G : Gb) (g : TGs) (w : WGs) : Prop := ∀ (C : Cf) (Hi : Hp) (σ : St) (H : Hp) (Γ : Ev) (vs : List V) (ds : List D) (Q : St → Hp → Prop) (Qd : Ev → Prop), Rel G C Hi σ H Γ → Reps G.K Hi vs ds → w ds Γ Qd →
  (∀ σ' Γ', Rel G C Hi σ' H Γ' → Qd Γ' → Q σ' H) → g vs σ H Q
def wgName (i : Nat) : WG := fun d Γ k => k (Γ.set i (.sh d))
theorem simg_name (i : Nat) : SimG G (gName i) (wgName i) := fun C Hi σ H Γ v d Q Qd c r hw h => h _ _ (c.setSh r) hw
def wgNil : WGs := fun ds Γ k => match ds with
  | [] => k Γ
  | _ => False
def wgCons (a : WG) (b : WGs) : WGs := fun ds Γ k => match ds with
  | [] => False
  | d :: r => a d Γ fun Γ1 => b r Γ1 k
theorem simg_nil : SimGs G gNil wgNil := by
  intro C Hi σ H Γ vs ds Q Qd c r hw h
  cases r with
  | nil => exact ⟨rfl, h _ _ c hw⟩
  | cons _ _ => exact hw.elim
theorem simg_cons {g : TG} {a : WG} {gs : TGs} {b : WGs} (ha : SimG G g a) (hb : SimGs G gs b) : SimGs G (gCons g gs) (wgCons a b) := by
  intro C Hi σ H Γ vs ds Q Qd c r hw h
  cases r with
  | nil => exact hw.elim
  | cons r1 rr => exact ⟨_, _, rfl, ha C Hi σ H Γ _ _ _ _ c r1 hw fun σ' Γ' c' q => hb C Hi σ' H Γ' _ _ _ _ c' rr q h⟩
def wgTup (n : Nat) (b : WGs) : WG := fun d Γ k => match d with
  | .tuple ds => ds.length = n ∧ b ds Γ k
  | _ => False
theorem simg_tup {n : Nat} {gs : TGs} {b : WGs} (hb : SimGs G gs b) : SimG G (gTup G.K n gs) (wgTup n b) := by
  intro C Hi σ H Γ v d Q Qd c r hw h
  cases r with
  | tup s r =>
    obtain ⟨hl, hw⟩ := hw
    exact ⟨_, _, rfl, SqT.of (c.imm _ _ s), by rw [r.length]; exact hl, hb C Hi σ H Γ _ _ _ _ c r hw h⟩
  | _ => exact hw.elim
/-- target = e, e shared -/
def wAsg (w : WE) (g : WG) : WS := fun Γ D X => w Γ (fun r Γ1 => frW r Γ1 fun d Γ2 => g d Γ2 D.nx) X
theorem sim_asg {t : TE} {w : WE} {g : TG} {wg : WG} (h : SimE G W t w) (hg : SimG G g wg) : SimS G W (tAsg t g) (wAsg w wg) := by
  intro C Hi σ H Γ Dn Dd Xd c hw h1 _ _ _ h5
  refine h C Hi σ H Γ _ _ Xd c hw (fun v r H1 Hi1 Γ1 e1 o1 q => ?_) fun x c d => h5 x c d σ
  obtain ⟨d, Hi2, Γ2, e2, c2, r2, q2⟩ := o1.share q
  exact hg C Hi2 σ H1 Γ2 v d _ _ c2 r2 q2 fun σ' Γ' c' q' => h1 σ' H1 Hi2 Γ' (e1.trans e2) c' q'

/-! ### x op= e, shared -/
def wAug (i : Nat) (o : Op2) (w : WE) : WS := fun Γ D X => match Γ[i]? with
  | some (.sh a) => w Γ (fun r Γ1 => rdW r Γ1 fun b => o a b fun r2 => setR i r2 Γ1 D.nx) X
  | _ => False
theorem sim_aug {t : TE} {w : WE} {r : R2} {o : Op2} (i : Nat) (hr : Sem2 G r o) (h : SimE G W t w) : SimS G W (tAug i t r) (wAug i o w) := by
  intro C Hi σ H Γ Dn Dd Xd c hw h1 _ _ _ h5
  unfold wAug at hw
  split at hw
  · rename_i a ea
    obtain ⟨x, hx, ra⟩ := c.at_sh ea
    refine ⟨x, hx, h C Hi σ H Γ _ _ Xd c hw (fun v r H1 Hi1 Γ1 e1 o1 q => ?_) fun x c d => h5 x c d σ⟩
    obtain ⟨Hi2, e2, c2, h2⟩ := o1.hold
    obtain ⟨b, b1, q⟩ := h2.read c2 q
    refine hr c2 (.inl (ra.mono (e1.trans e2))) b1 q fun v r H' Hi' e o q => ?_
    obtain ⟨Hi3, Γ3, e3, c3, q3⟩ := o.setR q
    exact h1 _ H' Hi3 Γ3 (((e1.trans e2).trans e).trans e3) c3 q3
  · exact hw.elim

/-! ### what a for walks -/
structure Items (K : Fg) (Hi : Hp) (J : It) (ds : List D) : Prop where
  stop : ∀ Hi' H i, Ext Hi Hi' → Ext Hi' H → ds.length ≤ i → J.stop i H
  go : ∀ Hi' H i, Ext Hi Hi' → Ext Hi' H → i < ds.length → J.go i H
  yld : ∀ Hi' H i x H' d, Ext Hi Hi' → Ext Hi' H → ds[i]? = some d → J.yld i H x H' → ∃ Hi2, Ext Hi' Hi2 ∧ Ext H H' ∧ Ext Hi2 H' ∧ (∀ a o, Hi2 a = some o → Hi' a = some o ∨ H a = none) ∧ Rep K Hi2 x d
abbrev WI := Ev → (List D → Ev → Prop) → XW → Prop
def SimI (G : Gb) (W : WX) (t : TI) (w : WI) : Prop := ∀ (C : Cf) (Hi : Hp) (σ : St) (H : Hp) (Γ : Ev) (R : It → Hp → Prop) (Qd : List D → Ev → Prop) (Xd : XW), Rel G C Hi σ H Γ → w Γ Qd Xd →
  (∀ J ds H' Hi' Γ', Ext Hi Hi' → Rel G C Hi' σ H' Γ' → Items G.K Hi' J ds → Qd ds Γ' → R J H') →
  (∀ x c d H' Hi' Γ', Ext Hi Hi' → Rel G C Hi' σ H' Γ' → G.xr x c d Hi' → Xd x Γ' → W c d σ H') → t σ H R
def loopW (g : WG) (b : WS) (D : WD) (X : XW) : List PyData → Ev → Prop
  | [], Γ => D.nx Γ
  | d :: ds, Γ => g d Γ fun Γ1 => b Γ1 ⟨loopW g b D X ds, D.rt, D.nx, loopW g b D X ds⟩ X
def wFor (wi : WI) (g : WG) (b : WS) : WS := fun Γ D X => wi Γ (fun ds Γ1 => loopW g b D X ds Γ1) X
theorem sim_for {ti : TI} {wi : WI} {g : TG} {wg : WG} {tb : TS} {wb : WS} (hi : SimI G W ti wi) (hg : SimG G g wg) (hb : SimS G W tb wb) : SimS G W (tFor ti g tb) (wFor wi wg wb) := by
  intro C Hi σ H Γ Dn Dd Xd c hw h1 h2 h3 h4 h5
  refine hi C Hi σ H Γ _ _ Xd c hw (fun J ds H1 Hi1 Γ1 e1 c1 it q => ?_) fun x c d => h5 x c d σ
  refine ⟨fun i m σ' H' => m = ds.length - i ∧ i ≤ ds.length ∧ ∃ Hi' Γ', Ext Hi1 Hi' ∧ Rel G C Hi' σ' H' Γ' ∧ loopW wg wb Dd Xd (ds.drop i) Γ', ⟨ds.length, by simp, Nat.zero_le _, Hi1, Γ1, Ext.refl _, c1, q⟩, ?_⟩
  rintro i m σ2 H2 ⟨rfl, hil, Hi2, Γ2, e2, c2, q2⟩
  by_cases hlt : i < ds.length
  · have hd : ds.drop i = ds[i] :: ds.drop (i + 1) := List.drop_eq_getElem_cons hlt
    rw [hd] at q2
    refine .inr ⟨it.go Hi2 H2 i e2 c2.imm hlt, fun σ' H' => ∃ Hi' Γ', Ext Hi1 Hi' ∧ Rel G C Hi' σ' H' Γ' ∧ loopW wg wb Dd Xd (ds.drop (i + 1)) Γ', fun σ' H' z => ⟨ds.length - (i + 1), by omega, rfl, hlt, z⟩, fun x H3 y => ?_⟩
    obtain ⟨Hi3, e3, k3, im3, ov3, r3⟩ := it.yld Hi2 H2 i x H3 ds[i] e2 c2.imm (List.getElem?_eq_getElem hlt) y
    have c3 := c2.grow k3 e3 im3 ov3
    refine hg C Hi3 σ2 H3 Γ2 x _ _ _ c3 r3 q2 fun σ4 Γ4 c4 q4 => ?_
    have f3 := (e1.trans e2).trans e3
    have f3' := e2.trans e3
    exact hb C Hi3 σ4 H3 Γ4 _ _ Xd c4 q4 (fun σ' H' Hi' Γ' e c' q' => ⟨Hi', Γ', f3'.trans e, c', q'⟩) (fun v r σ' H' Hi' Γ' e => h2 v r σ' H' Hi' Γ' (f3.trans e))
      (fun σ' H' Hi' Γ' e => h1 σ' H' Hi' Γ' (f3.trans e)) (fun σ' H' Hi' Γ' e c' q' => ⟨Hi', Γ', f3'.trans e, c', q'⟩) fun x c d σ' H' Hi' Γ' e => h5 x c d σ' H' Hi' Γ' (f3.trans e)
  · have e : i = ds.length := by omega
    subst e
    rw [List.drop_length] at q2
    exact .inl ⟨it.stop Hi2 H2 _ e2 c2.imm (Nat.le_refl _), h1 σ2 H2 Hi2 Γ2 (e1.trans e2) c2 q2⟩
/-- a list -/
def wiL (w : WE) : WI := fun Γ Q X => w Γ (fun r Γ1 => frW r Γ1 fun d Γ2 => isL d fun ds => Q ds Γ2) X
theorem Items.list {K : Fg} {a : Addr} {xs : List V} {ds : List D} (h : SqL K Hi a xs) (r : Reps K Hi xs ds) : Items K Hi (Itl K a) ds where
  stop := fun Hi' H i e k hi => ⟨xs, (e.trans k).sqL h, by rw [r.length]; exact hi⟩
  go := fun Hi' H i e k hi => by
    obtain ⟨v, h1, _⟩ := r.get (List.getElem?_eq_getElem hi)
    exact ⟨xs, v, (e.trans k).sqL h, h1⟩
  yld := fun Hi' H i x H' d e k hd y => by
    obtain ⟨rfl, y⟩ := y
    obtain ⟨v, h1, h2⟩ := r.get hd
    have := y xs ((e.trans k).sqL h)
    rw [h1] at this; cases this
    exact ⟨Hi', Ext.refl _, Ext.refl _, k, fun _ _ z => .inl z, h2.mono e⟩
theorem simi_list {t : TE} {w : WE} (h : SimE G W t w) : SimI G W (iList G.K t) (wiL w) := by
  intro C Hi σ H Γ R Qd Xd c hw hQ hX
  refine h C Hi σ H Γ _ _ Xd c hw (fun v r H1 Hi1 Γ1 e1 o1 q => ?_) hX
  obtain ⟨d, Hi2, Γ2, e2, c2, r2, q2⟩ := o1.share q
  obtain ⟨ds, rfl, q2⟩ := isL_inv q2
  cases r2 with
  | lst s r => exact ⟨_, rfl, ⟨_, SqL.of (c2.imm _ _ s)⟩, hQ _ ds H1 Hi2 Γ2 (e1.trans e2) c2 (.list (SqL.of s) r) q2⟩
/-- range(n) -/
def rangeD (lo : Int) (n : Nat) : List D := (List.range n).map fun (i : Nat) => .int (lo + (i : Int))
theorem rangeD_get {lo : Int} {n i : Nat} {d : D} (h : (rangeD lo n)[i]? = some d) : i < n ∧ d = .int (lo + (i : Int)) := by
  unfold rangeD at h
  rw [List.getElem?_map] at h
  by_cases hi : i < n
  · rw [List.getElem?_range hi] at h
    exact ⟨hi, (Option.some.inj h).symm⟩
  · rw [List.getElem?_eq_none (by simp; omega)] at h; cases h
theorem Items.range {K : Fg} {lo : Int} {n : Nat} : Items K Hi (Itr lo n) (rangeD lo n) where
  stop := fun Hi' H i e k hi => by
    have : n ≤ i := by simpa [rangeD] using hi
    exact this
  go := fun Hi' H i e k hi => by
    have : i < n := by simpa [rangeD] using hi
    exact this
  yld := fun Hi' H i x H' d e k hd y => by
    obtain ⟨rfl, rfl⟩ := y
    obtain ⟨_, rfl⟩ := rangeD_get hd
    exact ⟨Hi', Ext.refl _, Ext.refl _, k, fun _ _ z => .inl z, .int _⟩
def wiR1 (wa : WA) : WI := fun Γ Q X => wa Γ (fun rs Γ1 => rdAll rs Γ1 fun ds => match ds with
  | [.int j] => -(2 ^ 62) ≤ j ∧ j < 2 ^ 62 ∧ Q (rangeD 0 j.toNat) Γ1
  | _ => False) X
theorem simi_range1 {t : TA} {w : WA} (h : SimA G W t w) : SimI G W (iRng1 t) (wiR1 w) := by
  intro C Hi σ H Γ R Qd Xd c hw hQ hX
  refine h C Hi σ H Γ _ _ Xd c hw (fun vs rs H1 Hi1 Γ1 e1 c1 h1 q => ?_) hX
  obtain ⟨ds, bs, q⟩ := h1.read c1 q
  split at q
  · rename_i j
    obtain ⟨q1, q2, q⟩ := q
    cases bs with
    | cons b1 br =>
      cases br
      rw [b1.int]
      exact ⟨j, rfl, q1, q2, hQ _ _ H1 Hi1 Γ1 e1 c1 .range q⟩
  · exact q.elim
def wiR2 (wa : WA) : WI := fun Γ Q X => wa Γ (fun rs Γ1 => rdAll rs Γ1 fun ds => match ds with
  | [.int i, .int j] => (-(2 ^ 62) ≤ i ∧ i < 2 ^ 62 ∧ -(2 ^ 62) ≤ j ∧ j < 2 ^ 62) ∧ Q (rangeD i (j - i).toNat) Γ1
  | _ => False) X
theorem simi_range2 {t : TA} {w : WA} (h : SimA G W t w) : SimI G W (iRng2 t) (wiR2 w) := by
  intro C Hi σ H Γ R Qd Xd c hw hQ hX
  refine h C Hi σ H Γ _ _ Xd c hw (fun vs rs H1 Hi1 Γ1 e1 c1 h1 q => ?_) hX
  obtain ⟨ds, bs, q⟩ := h1.read c1 q
  split at q
  · rename_i i j
    obtain ⟨q1, q⟩ := q
    cases bs with
    | cons b1 br =>
      cases br with
      | cons b2 br =>
        cases br
        rw [b1.int, b2.int]
        exact ⟨i, j, rfl, q1, hQ _ _ H1 Hi1 Γ1 e1 c1 .range q⟩
  · exact q.elim
/-- enumerate(list) -/
def enumD (ds : List D) : List D := ds.mapIdx fun (i : Nat) d => .tuple [.int (i : Int), d]
theorem enumD_length (ds : List D) : (enumD ds).length = ds.length := by simp [enumD]
theorem enumD_get {ds : List D} {i : Nat} {d : D} (h : (enumD ds)[i]? = some d) : ∃ e, ds[i]? = some e ∧ d = .tuple [.int (i : Int), e] := by
  unfold enumD at h
  rw [List.getElem?_mapIdx] at h
  cases q : ds[i]? with
  | none => rw [q] at h; cases h
  | some e => rw [q] at h; exact ⟨e, rfl, (Option.some.inj h).symm⟩
/-- a new tuple of given out things -/
theorem yld_tup {K : Fg} {T : Addr} {xs : List V} {ds : List D} (k : Ext Hi H) (hT : H T = none) (r : Reps K Hi xs ds) :
    ∃ Hi2, Ext Hi Hi2 ∧ Ext H (upd H T (.tup xs)) ∧ Ext Hi2 (upd H T (.tup xs)) ∧ (∀ a o, Hi2 a = some o → Hi a = some o ∨ H a = none) ∧ Rep K Hi2 (.ref T) (.tuple ds) := by
  have hn := k.none_of hT
  refine ⟨upd Hi T (.tup xs), Ext.new hn, Ext.new hT, fun a o h => ?_, fun a o h => ?_, .tup upd_same (r.mono (Ext.new hn))⟩
  · by_cases e : a = T
    · rw [e, upd_same] at h; rw [e, upd_same]; exact h
    · rw [upd_ne e] at h; rw [upd_ne e]; exact k a o h
  · by_cases e : a = T
    · rw [e]; exact .inr hT
    · rw [upd_ne e] at h; exact .inl h
theorem Items.enum {K : Fg} {a : Addr} {xs : List V} {ds : List D} (h : SqL K Hi a xs) (r : Reps K Hi xs ds) : Items K Hi (Ite K a) (enumD ds) where
  stop := fun Hi' H i e k hi => ⟨xs, (e.trans k).sqL h, by rw [r.length]; rw [enumD_length] at hi; exact hi⟩
  go := fun Hi' H i e k hi => by
    rw [enumD_length] at hi
    obtain ⟨v, h1, _⟩ := r.get (List.getElem?_eq_getElem hi)
    exact ⟨xs, v, (e.trans k).sqL h, h1⟩
  yld := fun Hi' H i x H' d e k hd y => by
    obtain ⟨T, w, rfl, hT, rfl, y⟩ := y
    obtain ⟨d', hd', rfl⟩ := enumD_get hd
    obtain ⟨v, h1, h2⟩ := r.get hd'
    have := y xs ((e.trans k).sqL h)
    rw [h1] at this; cases this
    exact yld_tup k hT (.cons (.int _) (.one (h2.mono e)))
/-- one list as the only argument -/
def wiA (f : List D → List D) (wa : WA) : WI := fun Γ Q X => wa Γ (fun rs Γ1 => frAll rs Γ1 fun ds Γ2 => match ds with
  | [.list l] => Q (f l) Γ2
  | _ => False) X
theorem simi_enum {t : TA} {w : WA} (h : SimA G W t w) : SimI G W (iEnum G.K t) (wiA enumD w) := by
  intro C Hi σ H Γ R Qd Xd c hw hQ hX
  refine h C Hi σ H Γ _ _ Xd c hw (fun vs rs H1 Hi1 Γ1 e1 c1 h1 q => ?_) hX
  obtain ⟨ds, Hi2, Γ2, e2, c2, rp, q⟩ := h1.share (Ext.refl _) c1 q
  split at q
  · rename_i l
    cases rp with
    | cons r1 rr =>
      cases rr
      cases r1 with
      | lst s r => exact ⟨_, _, rfl, SqL.of (c2.imm _ _ s), hQ _ _ H1 Hi2 Γ2 (e1.trans e2) c2 (.enum (SqL.of s) r) q⟩
  · exact q.elim
/-- reversed(list) -/
theorem Items.rev {K : Fg} {a : Addr} {xs : List V} {ds : List D} (h : SqL K Hi a xs) (r : Reps K Hi xs ds) : Items K Hi (Itv K a xs.length) ds.reverse where
  stop := fun Hi' H i e k hi => by
    rw [List.length_reverse, ← r.length] at hi
    exact hi
  go := fun Hi' H i e k hi => by
    rw [List.length_reverse, ← r.length] at hi
    exact ⟨hi, xs, _, (e.trans k).sqL h, List.getElem?_eq_getElem (by omega)⟩
  yld := fun Hi' H i x H' d e k hd y => by
    obtain ⟨rfl, y⟩ := y
    have hil : i < ds.length := by
      have := (List.getElem?_eq_some_iff.mp hd).1
      simpa using this
    rw [List.getElem?_reverse hil] at hd
    obtain ⟨v, h1, h2⟩ := r.get hd
    have := y xs ((e.trans k).sqL h)
    rw [r.length, h1] at this; cases this
    exact ⟨Hi', Ext.refl _, Ext.refl _, k, fun _ _ z => .inl z, h2.mono e⟩
theorem simi_rev {t : TA} {w : WA} (h : SimA G W t w) : SimI G W (iRev G.K t) (wiA List.reverse w) := by
  intro C Hi σ H Γ R Qd Xd c hw hQ hX
  refine h C Hi σ H Γ _ _ Xd c hw (fun vs rs H1 Hi1 Γ1 e1 c1 h1 q => ?_) hX
  obtain ⟨ds, Hi2, Γ2, e2, c2, rp, q⟩ := h1.share (Ext.refl _) c1 q
  split at q
  · rename_i l
    cases rp with
    | cons r1 rr =>
      cases rr
      cases r1 with
      | lst s r => exact ⟨_, _, rfl, SqL.of (c2.imm _ _ s), hQ _ _ H1 Hi2 Γ2 (e1.trans e2) c2 (.rev (SqL.of s) r) q⟩
  · exact q.elim
/-- zip of two lists -/
theorem Items.zip {K : Fg} {a b : Addr} {xs ys : List V} {ds es : List D} (h : SqL K Hi a xs) (r : Reps K Hi xs ds) (h2 : SqL K Hi b ys) (r2 : Reps K Hi ys es) : Items K Hi (Itz K a b) (List.zipWith (fun x y => .tuple [x, y]) ds es) where
  stop := fun Hi' H i e k hi => ⟨xs, ys, (e.trans k).sqL h, (e.trans k).sqL h2, by
    have := r.length
    have := r2.length
    simp at hi
    omega⟩
  go := fun Hi' H i e k hi => by
    rw [List.length_zipWith] at hi
    obtain ⟨v, q1, _⟩ := r.get (List.getElem?_eq_getElem (show i < ds.length by omega))
    obtain ⟨w, q2, _⟩ := r2.get (List.getElem?_eq_getElem (show i < es.length by omega))
    exact ⟨xs, ys, v, w, (e.trans k).sqL h, (e.trans k).sqL h2, q1, q2⟩
  yld := fun Hi' H i x H' d e k hd y => by
    obtain ⟨T, x1, x2, rfl, hT, rfl, y1, y2⟩ := y
    rw [List.getElem?_zipWith] at hd
    cases q1 : ds[i]? with
    | none => rw [q1] at hd; cases hd
    | some d1 =>
      cases q2 : es[i]? with
      | none => rw [q1, q2] at hd; cases hd
      | some d2 =>
        rw [q1, q2] at hd
        cases hd
        obtain ⟨v, z1, z2⟩ := r.get q1
        obtain ⟨w, z3, z4⟩ := r2.get q2
        have := y1 xs ((e.trans k).sqL h)
        rw [z1] at this; cases this
        have := y2 ys ((e.trans k).sqL h2)
        rw [z3] at this; cases this
        exact yld_tup k hT (.cons (z2.mono e) (.one (z4.mono e)))
def wiZ (wa : WA) : WI := fun Γ Q X => wa Γ (fun rs Γ1 => frAll rs Γ1 fun ds Γ2 => match ds with
  | [.list l, .list m] => Q (List.zipWith (fun x y => .tuple [x, y]) l m) Γ2
  | _ => False) X
theorem simi_zip {t : TA} {w : WA} (h : SimA G W t w) : SimI G W (iZip G.K t) (wiZ w) := by
  intro C Hi σ H Γ R Qd Xd c hw hQ hX
  refine h C Hi σ H Γ _ _ Xd c hw (fun vs rs H1 Hi1 Γ1 e1 c1 h1 q => ?_) hX
  obtain ⟨ds, Hi2, Γ2, e2, c2, rp, q⟩ := h1.share (Ext.refl _) c1 q
  split at q
  · cases rp with
    | cons r1 rr =>
      cases rr with
      | cons r2 rr =>
        cases rr
        cases r1 with
        | lst s r =>
          cases r2 with
          | lst s2 r2 => exact ⟨_, _, _, _, rfl, SqL.of (c2.imm _ _ s), SqL.of (c2.imm _ _ s2), hQ _ _ H1 Hi2 Γ2 (e1.trans e2) c2 (.zip (SqL.of s) r (SqL.of s2) r2) q⟩
  · exact q.elim
/-- the signs of a text -/
def signsD (z : Str) : List D := z.cps.toList.map fun c => .str ⟨#[c]⟩
theorem Items.str {K : Fg} {z : Str} : Items K Hi (Its z) (signsD z) where
  stop := fun Hi' H i e k hi => by
    have : z.cps.size ≤ i := by simpa [signsD] using hi
    exact this
  go := fun Hi' H i e k hi => by
    have : i < z.cps.size := by simpa [signsD] using hi
    exact this
  yld := fun Hi' H i x H' d e k hd y => by
    obtain ⟨rfl, c, hc, rfl⟩ := y
    unfold signsD at hd
    rw [List.getElem?_map, Array.getElem?_toList, hc] at hd
    cases hd
    exact ⟨Hi', Ext.refl _, Ext.refl _, k, fun _ _ z => .inl z, .str _⟩
def wiS (w : WE) : WI := fun Γ Q X => w Γ (fun r Γ1 => rdW r Γ1 fun d => isS d fun z => Q (signsD z) Γ1) X
theorem simi_str {t : TE} {w : WE} (h : SimE G W t w) : SimI G W (iStr t) (wiS w) := by
  intro C Hi σ H Γ R Qd Xd c hw hQ hX
  refine h C Hi σ H Γ _ _ Xd c hw (fun v r H1 Hi1 Γ1 e1 o1 q => ?_) hX
  obtain ⟨Hi2, e2, c2, h2⟩ := o1.hold
  obtain ⟨d, b1, q⟩ := h2.read c2 q
  obtain ⟨z, rfl, q⟩ := isS_inv q
  exact ⟨z, b1.str, hQ _ _ H1 Hi2 Γ1 (e1.trans e2) c2 .str q⟩

/-! ### while -/
def whileN (c : WT) (b : WS) (D : WD) (X : XW) : Nat → Ev → Prop
  | 0, _ => False
  | n + 1, Γ => c Γ (fun z Γ1 => if z = true then b Γ1 ⟨whileN c b D X n, D.rt, D.nx, whileN c b D X n⟩ X else D.nx Γ1) X
def wWhile (c : WT) (b : WS) : WS := fun Γ D X => ∃ n, whileN c b D X n Γ
theorem sim_while {tc : TT} {wc : WT} {tb : TS} {wb : WS} (hc : SimT G W tc wc) (hb : SimS G W tb wb) : SimS G W (tWhile tc tb) (wWhile wc wb) := by
  intro C Hi σ H Γ Dn Dd Xd c hw h1 h2 h3 h4 h5
  obtain ⟨n, hw⟩ := hw
  refine ⟨fun m σ' H' => ∃ Hi' Γ', Ext Hi Hi' ∧ Rel G C Hi' σ' H' Γ' ∧ whileN wc wb Dd Xd m Γ', ⟨n, Hi, Γ, Ext.refl _, c, hw⟩, ?_⟩
  rintro m σ1 H1 ⟨Hi1, Γ1, e1, c1, q1⟩
  cases m with
  | zero => exact q1.elim
  | succ m =>
    refine hc C Hi1 σ1 H1 Γ1 _ _ Xd c1 q1 (fun z H2 Hi2 Γ2 e2 c2 q2 => ?_) fun x c d H' Hi' Γ' e => h5 x c d σ1 H' Hi' Γ' (e1.trans e)
    have f2 := e1.trans e2
    cases z with
    | true =>
      refine ⟨fun σ' H' => ∃ Hi' Γ', Ext Hi Hi' ∧ Rel G C Hi' σ' H' Γ' ∧ whileN wc wb Dd Xd m Γ', fun σ' H' z => ⟨m, Nat.lt_succ_self _, z⟩, ?_⟩
      exact hb C Hi2 σ1 H2 Γ2 _ _ Xd c2 q2 (fun σ' H' Hi' Γ' e c' q' => ⟨Hi', Γ', f2.trans e, c', q'⟩) (fun v r σ' H' Hi' Γ' e => h2 v r σ' H' Hi' Γ' (f2.trans e))
        (fun σ' H' Hi' Γ' e => h1 σ' H' Hi' Γ' (f2.trans e)) (fun σ' H' Hi' Γ' e c' q' => ⟨Hi', Γ', f2.trans e, c', q'⟩) fun x c d σ' H' Hi' Γ' e => h5 x c d σ' H' Hi' Γ' (f2.trans e)
    | false => exact h1 σ1 H2 Hi2 Γ2 f2 c2 q2
end
end VL

set_option Elab.async false
set_option linter.all false
set_option maxRecDepth 100000
/-! VOps: operators, subscripts, built-ins of the value layer. -/
namespace VL
open PySem L2

/-! ### rules of the hand layer put together -/
section
variable {X : Cx}
def rAddA (K : Fg) : R2 := fun x y H Q => rI0 (fun i j => .int (i + j)) x y H Q ∨ (∃ i j, x = .str i ∧ y = .str j ∧ i.length + j.length ≤ sizeLine ∧ Q (.str (i ++ j)) H) ∨ rCat x y H Q ∨
  (∃ i k, x = .int i ∧ y = .bl k ∧ Q (.int (i + PyProof.Rows.b2i k)) H)
theorem op_addA : OpR X (binaryOp .Add) (rAddA X.K) := op_add.or (op_add_str.or (op_cat.or op_add_ib))
def rMulA : R2 := fun x y H Q => rI CMulW (fun i j => .int (i * j)) x y H Q ∨ rRep x y H Q
theorem op_mulA : OpR X (binaryOp .Mult) rMulA := op_mulW.or op_rep
/-- d[k] by values -/
def rIxD : R2 := fun x y H Q => ∃ a v, x = .ref a ∧ DGet H a y (some v) ∧ Q v H
theorem ix_dict (hu : X.A.units + 1 < cLine) : IxR X rIxD := by
  intro value slice pins s σ H x y v u Q I rx ry h hs
  obtain ⟨a, z, rfl, g, q⟩ := h
  cases rx
  exact PyProof.Rows.tail_any (dict_typeIs I g) PySem.F.slot_dict_getitem.lookup (d_getItem hu I g ry fun w' s3 I3 rw' => ⟨z, H, I3, rw', q⟩) hs
def rIxA (K : Fg) : R2 := fun x y H Q => rIx K x y H Q ∨ rIxD x y H Q
theorem ix_any (hu : X.A.units + 1 < cLine) : IxR X (rIxA X.K) := ix_seq.or (ix_dict hu)
def rInDk : R2 := fun y x H Q => ∃ a o, x = .ref a ∧ DGet H a y o ∧ Q (.bl o.isSome) H
def rNotInDk : R2 := fun y x H Q => ∃ a o, x = .ref a ∧ DGet H a y o ∧ Q (.bl (!o.isSome)) H
theorem op_inDk (hu : X.A.units + 1 < cLine) : OpR X (compareOp .In) rInDk := by
  intro pins s σ H x y v u Q I rx ry h
  obtain ⟨a, o, rfl, g, q⟩ := h
  cases ry
  exact d_in hu I g rx fun s3 I3 => ⟨.bl o.isSome, H, I3, rfl, q⟩
theorem op_notInDk (hu : X.A.units + 1 < cLine) : OpR X (compareOp .NotIn) rNotInDk := by
  intro pins s σ H x y v u Q I rx ry h
  obtain ⟨a, o, rfl, g, q⟩ := h
  cases ry
  exact d_notIn hu I g rx fun s3 I3 => ⟨.bl (!o.isSome), H, I3, rfl, q⟩
def rInA (K : Fg) : R2 := fun x y H Q => rInD K x y H Q ∨ rIn K false x y H Q ∨ rInDk x y H Q ∨ (∃ (c : Nat) (z : Str), x = .str ⟨#[c]⟩ ∧ y = .str z ∧ Q (.bl (decide (c ∈ z.cps.toList))) H)
def rNotInA (K : Fg) : R2 := fun x y H Q => rNotInD K x y H Q ∨ rIn K true x y H Q ∨ rNotInDk x y H Q ∨ (∃ (c : Nat) (z : Str), x = .str ⟨#[c]⟩ ∧ y = .str z ∧ Q (.bl (!decide (c ∈ z.cps.toList))) H)
theorem op_inA (hu : X.A.units + 65 < cLine) : OpR X (compareOp .In) (rInA X.K) := (op_inD hu).or (op_in_seq.or ((op_inDk (by omega)).or op_in_sign))
theorem op_notInA (hu : X.A.units + 65 < cLine) : OpR X (compareOp .NotIn) (rNotInA X.K) := (op_notInD hu).or (op_notIn_seq.or ((op_notInDk (by omega)).or op_notIn_sign))
theorem CallR.or2 {f : Value} {r r' : List V → Hp → VK → Prop} (h : CallR X f r) (h' : CallR X f r') : CallR X f (fun xs H Q => r xs H Q ∨ r' xs H Q) := CallR.or h h'
end

/-! ### dicts as data -/
def keyEq : D → D → Bool
  | .int i, .int j => i == j
  | .str x, .str y => decide (x = y)
  | _, _ => false
def dget (ps : List (D × D)) (k : D) : Option D := (ps.find? fun p => keyEq p.1 k).map (·.2)
def dput (ps : List (D × D)) (k v : D) : List (D × D) := if ps.any (fun p => keyEq p.1 k) then ps.map fun p => if keyEq p.1 k = true then (p.1, v) else p else ps ++ [(k, v)]
def ddrop (ps : List (D × D)) (k : D) : List (D × D) := ps.filter fun p => !keyEq p.1 k
theorem keyEq_kD (a b : Key) : keyEq (kD a) (kD b) = decide (a = b) := by
  cases a with
  | inl i =>
    cases b with
    | inl j => rw [key_ll]; rfl
    | inr y => rw [key_lr]; rfl
  | inr x =>
    cases b with
    | inl j => rw [key_rl]; rfl
    | inr y => rw [key_rr]; rfl
/-- a key told by data -/
def isK (d : D) (k : Prop) : Prop := match d with
  | .int _ => k
  | .str _ => k
  | _ => False
theorem isK_inv {d : D} {k : Prop} (h : isK d k) : (∃ key, d = kD key) ∧ k := by
  unfold isK at h
  split at h
  · exact ⟨⟨.inl _, rfl⟩, h⟩
  · exact ⟨⟨.inr _, rfl⟩, h⟩
  · exact h.elim
section
variable {K : Fg} {H Hi : Hp}
theorem dgetR {H : Hp} {a : Addr} {kvs : List (Key × V)} {k : Key} (e : Rd H a (.dK kvs)) : DGet H a (kV k) (valV kvs k) := .inl ⟨kvs, k, e, rfl, rfl⟩
theorem RepKV.get : ∀ {kvs : List (Key × V)} {ps : List (D × D)} {k : Key} {d : D}, RepKV K H kvs ps → dget ps (kD k) = some d → ∃ v, valV kvs k = some v ∧ Rep K H v d
  | _, _, k, d, .nil, e => by simp [dget] at e
  | _, _, k, d, @RepKV.cons _ _ k0 v0 kvs d0 ps h r, e => by
    by_cases hk : k0 = k
    · have h1 : keyEq (kD k0) (kD k) = true := by rw [keyEq_kD]; exact decide_eq_true hk
      have e2 : d0 = d := by simpa [dget, List.find?_cons, h1] using e
      subst e2
      exact ⟨v0, valV_pos hk, h⟩
    · have h1 : keyEq (kD k0) (kD k) = false := by rw [keyEq_kD]; exact decide_eq_false hk
      have e2 : dget ps (kD k) = some d := by simpa [dget, List.find?_cons, h1] using e
      obtain ⟨v, q1, q2⟩ := RepKV.get r e2
      exact ⟨v, by rw [valV_neg hk]; exact q1, q2⟩
theorem RepKV.none : ∀ {kvs : List (Key × V)} {ps : List (D × D)} {k : Key}, RepKV K H kvs ps → (dget ps (kD k) = none ↔ valV kvs k = none)
  | _, _, k, .nil => by simp [dget, valV]
  | _, _, k, @RepKV.cons _ _ k0 v0 kvs d0 ps h r => by
    by_cases hk : k0 = k
    · have h1 : keyEq (kD k0) (kD k) = true := by rw [keyEq_kD]; exact decide_eq_true hk
      have e1 : dget ((kD k0, d0) :: ps) (kD k) = some d0 := by simp [dget, List.find?_cons, h1]
      rw [e1, valV_pos (p := (k0, v0)) hk]
      simp
    · have h1 : keyEq (kD k0) (kD k) = false := by rw [keyEq_kD]; exact decide_eq_false hk
      have e1 : dget ((kD k0, d0) :: ps) (kD k) = dget ps (kD k) := by simp [dget, List.find?_cons, h1]
      rw [e1, valV_neg (p := (k0, v0)) hk]
      exact RepKV.none r
theorem RepKV.isSome {kvs : List (Key × V)} {ps : List (D × D)} {k : Key} (r : RepKV K H kvs ps) : (valV kvs k).isSome = (dget ps (kD k)).isSome := by
  cases e : dget ps (kD k) with
  | none => rw [r.none.mp e]; rfl
  | some d => obtain ⟨v, h, _⟩ := r.get e; rw [h]; rfl
theorem RepKV.any (k : Key) : ∀ {kvs : List (Key × V)} {ps : List (D × D)}, RepKV K H kvs ps → (kvs.any fun kv => decide (kv.1 = k)) = ps.any fun p => keyEq p.1 (kD k)
  | _, _, .nil => rfl
  | _, _, .cons _ r => by rw [List.any_cons, List.any_cons, RepKV.any k r, keyEq_kD]
theorem RepKV.repl {v : V} {d : D} (k : Key) (h : Rep K H v d) : ∀ {kvs : List (Key × V)} {ps : List (D × D)}, RepKV K H kvs ps →
    RepKV K H (kvs.map fun kv => if kv.1 = k then (kv.1, v) else kv) (ps.map fun p => if keyEq p.1 (kD k) = true then (p.1, d) else p)
  | _, _, .nil => .nil
  | _, _, @RepKV.cons _ _ k0 v0 kvs d0 ps h0 r => by
    rw [List.map_cons, List.map_cons]
    by_cases hk : k0 = k
    · have h1 : keyEq (kD k0) (kD k) = true := by rw [keyEq_kD]; exact decide_eq_true hk
      rw [if_pos hk, if_pos h1]
      exact .cons h (RepKV.repl k h r)
    · have h1 : ¬ keyEq (kD k0) (kD k) = true := by rw [keyEq_kD]; simpa using hk
      rw [if_neg hk, if_neg h1]
      exact .cons h0 (RepKV.repl k h r)
theorem RepKV.append : ∀ {kvs kvs' : List (Key × V)} {ps ps' : List (D × D)}, RepKV K H kvs ps → RepKV K H kvs' ps' → RepKV K H (kvs ++ kvs') (ps ++ ps')
  | _, _, _, _, .nil, s => s
  | _, _, _, _, .cons h r, s => .cons h (RepKV.append r s)
theorem RepKV.put {kvs : List (Key × V)} {ps : List (D × D)} {k : Key} {v : V} {d : D} (r : RepKV K H kvs ps) (h : Rep K H v d) : RepKV K H (putK kvs k v) (dput ps (kD k) d) := by
  unfold putK dput
  rw [r.any k]
  split
  · exact r.repl k h
  · exact r.append (.cons h .nil)
theorem RepKV.drop (k : Key) : ∀ {kvs : List (Key × V)} {ps : List (D × D)}, RepKV K H kvs ps → RepKV K H (dropK kvs k) (ddrop ps (kD k))
  | _, _, .nil => .nil
  | _, _, @RepKV.cons _ _ k0 v0 kvs d0 ps h r => by
    unfold dropK ddrop
    by_cases hk : k0 = k
    · have h1 : keyEq (kD k0) (kD k) = true := by rw [keyEq_kD]; exact decide_eq_true hk
      rw [List.filter_cons_of_neg (by simpa using hk), List.filter_cons_of_neg (by simp [h1])]
      exact RepKV.drop k r
    · have h1 : keyEq (kD k0) (kD k) = false := by rw [keyEq_kD]; exact decide_eq_false hk
      rw [List.filter_cons_of_pos (by simpa using hk), List.filter_cons_of_pos (by simp [h1])]
      exact .cons h (RepKV.drop k r)
theorem RepKV.length : ∀ {kvs : List (Key × V)} {ps : List (D × D)}, RepKV K H kvs ps → kvs.length = ps.length
  | _, _, .nil => rfl
  | _, _, .cons _ r => congrArg (· + 1) (RepKV.length r)
theorem Rep.key {y : V} {k : Key} (h : Rep K H y (kD k)) : y = kV k := by
  cases k with
  | inl i => cases h; rfl
  | inr x => cases h; rfl
theorem Rdb.key {y : V} {k : Key} (h : Rdb K Hi H y (kD k)) : y = kV k := by
  rcases h with h | ⟨p, _, h⟩
  · exact h.key
  · cases k <;> cases h
end

/-! ### the data's side -/
section
variable {G : Gb} {C : Cf} {Hi Hi' H H' : Hp} {σ : St} {Γ : Ev} {W : WX}
def oAdd : Op2 := fun a b k => match a, b with
  | .int i, .int j => k (.sh (.int (i + j)))
  | .str x, .str y => x.length + y.length ≤ sizeLine ∧ k (.sh (.str (x ++ y)))
  | .list xs, .list ys => xs.length + ys.length ≤ sizeLine ∧ k (.ow (.list (xs ++ ys)))
  | .int i, .bool b => k (.sh (.int (i + PyProof.Rows.b2i b)))
  | _, _ => False
theorem sem_add : Sem2 G (rAddA G.K) oAdd := by
  intro C Hi σ H Γ x y a b k Q c ha hb h q
  unfold oAdd at h
  split at h
  · exact .inl ⟨_, _, ha.int, hb.int, q _ _ H Hi (Ext.refl _) (out_int c _) h⟩
  · exact .inr (.inl ⟨_, _, ha.str, hb.str, h.1, q _ _ H Hi (Ext.refl _) (out_str c _) h.2⟩)
  · obtain ⟨p, xs, e1, s1, r1⟩ := ha.list c.imm
    obtain ⟨p', ys, e2, s2, r2⟩ := hb.list c.imm
    refine .inr (.inr (.inl ⟨p, p', xs, ys, e1, e2, s1, s2, by rw [r1.length, r2.length]; exact h.1, fun t ht => q _ _ _ Hi (Ext.refl _) (Out.newL c ht (r1.append r2)) h.2⟩))
  · exact .inr (.inr (.inr ⟨_, _, ha.int, hb.bl, q _ _ H Hi (Ext.refl _) (out_int c _) h⟩))
  · exact h.elim
theorem sem_sub : Sem2 G (rI0 fun i j => .int (i - j)) (oII (fun _ _ => True) (· - ·)) := sem_II0
def oMul : Op2 := fun a b k => match a, b with
  | .int i, .int j => CMulW i j ∧ k (.sh (.int (i * j)))
  | .list l, .int j => (-(2 ^ 63) ≤ j ∧ j < 2 ^ 63) ∧ l.length * j.toNat ≤ sizeLine ∧ k (.ow (.list (List.replicate j.toNat l).flatten))
  | _, _ => False
theorem sem_mul : Sem2 G rMulA oMul := by
  intro C Hi σ H Γ x y a b k Q c ha hb h q
  unfold oMul at h
  split at h
  · exact .inl ⟨_, _, ha.int, hb.int, h.1, q _ _ H Hi (Ext.refl _) (out_int c _) h.2⟩
  · obtain ⟨p, xs, rfl, s1, r1⟩ := ha.list c.imm
    exact .inr ⟨p, _, xs, rfl, hb.int, s1, h.1.1, h.1.2, by rw [r1.length]; exact h.2.1, fun p' hp => q _ _ _ Hi (Ext.refl _) (Out.newL c hp (r1.repl _)) h.2.2⟩
  · exact h.elim
/-- // and % by a positive number -/
theorem sem_fdiv : Sem2 G (rI CDivW fun i j => .int (i / j)) (oII CDivW (· / ·)) := sem_II (fun _ _ h => h) fun _ _ _ => rfl
theorem sem_mod : Sem2 G (rI (fun _ j => 0 < j) fun i j => .int (i % j)) (oII (fun _ j => 0 < j) (· % ·)) := sem_II (fun _ _ h => h) fun _ _ _ => rfl
theorem sem_pow : Sem2 G (rI CPow fun i j => .int (i ^ j.toNat)) (oII CPow fun i j => i ^ j.toNat) := sem_II (fun _ _ h => h) fun _ _ _ => rfl
theorem sem_neg : Sem1 G (rU fun i => .int (-i)) (fun a k => isI a fun i => k (.sh (.int (-i)))) := by
  intro C Hi σ H Γ x a k Q c ha h q
  obtain ⟨i, rfl, h⟩ := isI_inv h
  exact ⟨i, ha.int, q _ _ H Hi (Ext.refl _) (out_int c _) h⟩
/-- a subscript -/
def oIx : Op2 := fun a b k => match a with
  | .list l => isI b fun i => match atI l i with
    | some d => k (.sh d)
    | none => False
  | .tuple l => isI b fun i => match atI l i with
    | some d => k (.sh d)
    | none => False
  | .str z => isI b fun i => z.length ≤ sizeLine ∧ match atI z.cps.toList i with
    | some c => k (.sh (.str ⟨#[c]⟩))
    | none => False
  | .dict ps => isK b (match dget ps b with
    | some d => k (.sh d)
    | none => False)
  | _ => False
theorem atI_rep {K : Fg} {xs : List V} {ds : List D} {i : Int} {d : D} (r : Reps K Hi xs ds) (h : atI ds i = some d) : ∃ v, atI xs i = some v ∧ Rep K Hi v d := by
  unfold atI at h ⊢
  rw [r.length]
  obtain ⟨j, h1, h2⟩ := Option.bind_eq_some_iff.mp h
  obtain ⟨v, h3, h4⟩ := r.get h2
  exact ⟨v, by rw [h1]; exact h3, h4⟩
theorem sem_ix : Sem2 G (rIxA G.K) oIx := by
  intro C Hi σ H Γ x y a b k Q c ha hb h q
  unfold oIx at h
  split at h
  · obtain ⟨i, rfl, h1⟩ := isI_inv h
    split at h1
    · rename_i d e
      obtain ⟨p, xs, e1, s1, r1⟩ := ha.list c.imm
      obtain ⟨v, e2, r2⟩ := atI_rep r1 e
      exact .inl (.inl ⟨p, xs, i, v, e1, hb.int, SqL.of s1, e2, q v (.sh d) H Hi (Ext.refl _) ⟨c, r2⟩ h1⟩)
    · exact h1.elim
  · obtain ⟨i, rfl, h1⟩ := isI_inv h
    split at h1
    · rename_i d e
      obtain ⟨p, xs, e1, s1, r1⟩ := ha.tuple c.imm
      obtain ⟨v, e2, r2⟩ := atI_rep r1 e
      exact .inl (.inr (.inl ⟨p, xs, i, v, e1, hb.int, SqT.of s1, e2, q v (.sh d) H Hi (Ext.refl _) ⟨c, r2⟩ h1⟩))
    · exact h1.elim
  · obtain ⟨i, rfl, hz, h1⟩ := isI_inv h
    split at h1
    · rename_i z d e
      exact .inl (.inr (.inr ⟨_, i, d, ha.str, hb.int, hz, e, q _ _ H Hi (Ext.refl _) (out_str c _) h1⟩))
    · exact h1.elim
  · obtain ⟨⟨key, rfl⟩, h1⟩ := isK_inv h
    split at h1
    · rename_i d e
      obtain ⟨p, kvs, e1, s1, r1⟩ := ha.dict c.imm
      obtain ⟨v, e2, r2⟩ := r1.get e
      refine .inr ⟨p, v, e1, ?_, q v (.sh d) H Hi (Ext.refl _) ⟨c, r2⟩ h1⟩
      rw [hb.key, ← e2]
      exact dgetR s1
    · exact h1.elim
  · exact h.elim
/-- flat data -/
def flatD : D → Bool
  | .none => true
  | .bool _ => true
  | .int _ => true
  | .str _ => true
  | _ => false
theorem flat_v {K : Fg} {x : V} {d : D} (h : Rep K Hi x d) (f : flatD d = true) : flatV x = true := by
  cases h <;> first | rfl | cases f
theorem flat_eq {K : Fg} {x y : V} {d e : D} (h : Rep K Hi x d) (h2 : Rep K Hi y e) (f : flatD d = true) (f2 : flatD e = true) : eqV x y = PyData.eqv d e := by
  cases h <;> cases h2 <;> first | rfl | (simp [eqV, PyData.eqv]; done) | cases f | cases f2
theorem flat_all {K : Fg} : ∀ {xs : List V} {ds : List D}, Reps K Hi xs ds → ds.all flatD = true → xs.all flatV = true
  | _, _, .nil, _ => rfl
  | _, _, .cons h r, f => by
    rw [List.all_cons, Bool.and_eq_true] at f ⊢
    exact ⟨flat_v h f.1, flat_all r f.2⟩
theorem flat_in {K : Fg} {x : V} {d : D} (h : Rep K Hi x d) (f : flatD d = true) : ∀ {xs : List V} {ds : List D}, Reps K Hi xs ds → ds.all flatD = true → inV x xs = ds.any fun z => PyData.eqv z d
  | _, _, .nil, _ => rfl
  | _, _, .cons h1 r, g => by
    rw [List.all_cons, Bool.and_eq_true] at g
    have ih := flat_in h f r g.2
    unfold inV at ih ⊢
    rw [List.any_cons, List.any_cons, ih, flat_eq h1 h g.1 f]
/-- in (pos := false: not in) -/
def oIn (neg : Bool) : Op2 := fun a b k => match b with
  | .list ds => SeqAt.shaped a = true ∧ SeqAt.shaped (.list ds) = true ∧ k (.sh (.bool (if neg then !(ds.any fun z => PyData.eqv z a) else ds.any fun z => PyData.eqv z a)))
  | .tuple ds => flatD a = true ∧ ds.all flatD = true ∧ k (.sh (.bool (if neg then !(ds.any fun z => PyData.eqv z a) else ds.any fun z => PyData.eqv z a)))
  | .dict ps => isK a (k (.sh (.bool (if neg then !(dget ps a).isSome else (dget ps a).isSome))))
  | .str z => isS a fun y => ∃ c, y = ⟨#[c]⟩ ∧ k (.sh (.bool (if neg then !decide (c ∈ z.cps.toList) else decide (c ∈ z.cps.toList))))
  | _ => False
theorem Rdb.flat {K : Fg} {x : V} {d : D} (h : Rdb K Hi H x d) (f : flatD d = true) : Rep K Hi x d := by
  rcases h with h | ⟨p, _, h⟩
  · exact h
  · cases h <;> cases f
theorem sem_in : Sem2 G (rInA G.K) (oIn false) := by
  intro C Hi σ H Γ x y a b k Q c ha hb h q
  unfold oIn at h
  split at h
  · obtain ⟨s1, s2, h⟩ := h
    exact .inl ⟨a, _, ha.dp c.imm s1, hb.dp c.imm s2, s1, s2, q _ _ H Hi (Ext.refl _) (out_bl c _) h⟩
  · obtain ⟨s1, s2, h⟩ := h
    obtain ⟨p, xs, e1, t1, r1⟩ := hb.tuple c.imm
    refine .inr (.inl ⟨p, xs, e1, .inr (SqT.of t1), flat_v (ha.flat s1) s1, flat_all r1 s2, ?_⟩)
    rw [flat_in (ha.flat s1) s1 r1 s2]
    exact q _ _ H Hi (Ext.refl _) (out_bl c _) h
  · obtain ⟨⟨key, rfl⟩, h1⟩ := isK_inv h
    obtain ⟨p, kvs, e1, t1, r1⟩ := hb.dict c.imm
    refine .inr (.inr (.inl ⟨p, _, e1, by rw [ha.key]; exact dgetR t1, ?_⟩))
    rw [r1.isSome]
    exact q _ _ H Hi (Ext.refl _) (out_bl c _) h1
  · obtain ⟨z, rfl, ch, rfl, h1⟩ := isS_inv h
    exact .inr (.inr (.inr ⟨ch, _, ha.str, hb.str, q _ _ H Hi (Ext.refl _) (out_bl c _) h1⟩))
  · exact h.elim
theorem sem_notin : Sem2 G (rNotInA G.K) (oIn true) := by
  intro C Hi σ H Γ x y a b k Q c ha hb h q
  unfold oIn at h
  split at h
  · obtain ⟨s1, s2, h⟩ := h
    exact .inl ⟨a, _, ha.dp c.imm s1, hb.dp c.imm s2, s1, s2, q _ _ H Hi (Ext.refl _) (out_bl c _) h⟩
  · obtain ⟨s1, s2, h⟩ := h
    obtain ⟨p, xs, e1, t1, r1⟩ := hb.tuple c.imm
    refine .inr (.inl ⟨p, xs, e1, .inr (SqT.of t1), flat_v (ha.flat s1) s1, flat_all r1 s2, ?_⟩)
    rw [flat_in (ha.flat s1) s1 r1 s2]
    exact q _ _ H Hi (Ext.refl _) (out_bl c _) h
  · obtain ⟨⟨key, rfl⟩, h1⟩ := isK_inv h
    obtain ⟨p, kvs, e1, t1, r1⟩ := hb.dict c.imm
    refine .inr (.inr (.inl ⟨p, _, e1, by rw [ha.key]; exact dgetR t1, ?_⟩))
    rw [r1.isSome]
    exact q _ _ H Hi (Ext.refl _) (out_bl c _) h1
  · obtain ⟨z, rfl, ch, rfl, h1⟩ := isS_inv h
    exact .inr (.inr (.inr ⟨ch, _, ha.str, hb.str, q _ _ H Hi (Ext.refl _) (out_bl c _) h1⟩))
  · exact h.elim

/-! ### slices -/
def SimO (G : Gb) (W : WX) (t : TO) (w : Ev → (Option Int → Ev → Prop) → XW → Prop) : Prop := ∀ (C : Cf) (Hi : Hp) (σ : St) (H : Hp) (Γ : Ev) (Q : Option Int → Hp → Prop) (Qd : Option Int → Ev → Prop) (Xd : XW), Rel G C Hi σ H Γ → w Γ Qd Xd →
  (∀ o H' Hi' Γ', Ext Hi Hi' → Rel G C Hi' σ H' Γ' → Qd o Γ' → Q o H') →
  (∀ x c d H' Hi' Γ', Ext Hi Hi' → Rel G C Hi' σ H' Γ' → G.xr x c d Hi' → Xd x Γ' → W c d σ H') → t σ H Q
abbrev WO := Ev → (Option Int → Ev → Prop) → XW → Prop
def wNoP : WO := fun Γ Q _ => Q none Γ
def wPart (w : WE) : WO := fun Γ Q X => w Γ (fun r Γ1 => rdW r Γ1 fun d => isI d fun i => Q (some i) Γ1) X
theorem simo_none : SimO G W tNoPart wNoP := fun C Hi σ H Γ Q Qd Xd c hw hQ hX => hQ none H Hi Γ (Ext.refl _) c hw
theorem simo_some {t : TE} {w : WE} (h : SimE G W t w) : SimO G W (tPart t) (wPart w) := by
  intro C Hi σ H Γ Q Qd Xd c hw hQ hX
  refine h C Hi σ H Γ _ _ Xd c hw (fun v r H1 Hi1 Γ1 e1 o1 q => ?_) hX
  obtain ⟨Hi2, e2, c2, h2⟩ := o1.hold
  obtain ⟨d, b1, q⟩ := h2.read c2 q
  obtain ⟨i, rfl, q⟩ := isI_inv q
  exact ⟨i, b1.int, hQ _ H1 Hi2 Γ1 (e1.trans e2) c2 q⟩
def cutD (xs : List D) (lo hi : Option Int) : List D := (xs.drop (HT.sIx xs.length 0 lo)).take (HT.sIx xs.length xs.length hi - HT.sIx xs.length 0 lo)
theorem cut_rep {K : Fg} {xs : List V} {ds : List D} (r : Reps K Hi xs ds) (lo hi : Option Int) : Reps K Hi (cutV xs lo hi) (cutD ds lo hi) := by
  unfold cutV cutD
  rw [r.length]
  exact (r.drop _).take _
/-- a slice of a list -/
def wSlL (wa : WE) (wl wh : WO) : WE := fun Γ Q X => wa Γ (fun r Γ1 => wl Γ1 (fun lo Γ2 => wh Γ2 (fun hi Γ3 => rdW r Γ3 fun d => isL d fun ds => Q (.ow (.list (cutD ds lo hi))) Γ3) X) X) X
theorem sim_slL {te : TE} {wa : WE} {tl th : TO} {wl wh : WO} (ha : SimE G W te wa) (h1 : SimO G W tl wl) (h2 : SimO G W th wh) : SimE G W (tSl (rSlL G.K) te tl th) (wSlL wa wl wh) := by
  intro C Hi σ H Γ Q Qd Xd c hw hQ hX
  refine ha C Hi σ H Γ _ _ Xd c hw (fun v1 r1 H1 Hi1 Γ1 e1 o1 q1 => ?_) hX
  obtain ⟨Hi2, e2, c2, hh2⟩ := o1.hold
  have f2 := e1.trans e2
  refine h1 C Hi2 σ H1 Γ1 _ _ Xd c2 q1 (fun lo H3 Hi3 Γ3 e3 c3 q3 => ?_) fun x c d H' Hi' Γ' e' => hX x c d H' Hi' Γ' (f2.trans e')
  refine h2 C Hi3 σ H3 Γ3 _ _ Xd c3 q3 (fun hi H4 Hi4 Γ4 e4 c4 q4 => ?_) fun x c d H' Hi' Γ' e' => hX x c d H' Hi' Γ' ((f2.trans e3).trans e')
  obtain ⟨d, b, q5⟩ := (hh2.mono (e3.trans e4)).read c4 q4
  obtain ⟨ds, rfl, q5⟩ := isL_inv q5
  obtain ⟨p, xs, e5, s5, r5⟩ := b.list c4.imm
  exact ⟨p, xs, e5, SqL.of s5, fun t ht => hQ _ _ _ Hi4 Γ4 ((f2.trans e3).trans e4) (Out.newL c4 ht (cut_rep r5 lo hi)) q5⟩

/-! ### built-ins -/
/-- one argument -/
def o1 (o : Op1) : OpN := fun ds k => match ds with
  | [d] => o d k
  | _ => False
def o2 (o : Op2) : OpN := fun ds k => match ds with
  | [a, b] => o a b k
  | _ => False
theorem semN_1 {r : List V → Hp → VK → Prop} {o : Op1} (h : ∀ {C : Cf} {Hi : Hp} {σ : St} {H : Hp} {Γ : Ev} {x : V} {a : D} {k : R → Prop} {Q : VK}, Rel G C Hi σ H Γ → Rdb G.K Hi H x a → o a k →
    (∀ v r H' Hi', Ext Hi Hi' → Out G C Hi' σ H' Γ v r → k r → Q v H') → r [x] H Q) : SemN G r (o1 o) := by
  intro C Hi σ H Γ xs ds k Q c hb hw q
  cases hb with
  | nil => exact hw.elim
  | cons b1 br =>
    cases br with
    | nil => exact h c b1 hw q
    | cons b2 br => exact hw.elim
theorem semN_2 {r : List V → Hp → VK → Prop} {o : Op2} (h : ∀ {C : Cf} {Hi : Hp} {σ : St} {H : Hp} {Γ : Ev} {x y : V} {a b : D} {k : R → Prop} {Q : VK}, Rel G C Hi σ H Γ → Rdb G.K Hi H x a → Rdb G.K Hi H y b → o a b k →
    (∀ v r H' Hi', Ext Hi Hi' → Out G C Hi' σ H' Γ v r → k r → Q v H') → r [x, y] H Q) : SemN G r (o2 o) := by
  intro C Hi σ H Γ xs ds k Q c hb hw q
  cases hb with
  | nil => exact hw.elim
  | cons b1 br =>
    cases br with
    | nil => exact hw.elim
    | cons b2 br =>
      cases br with
      | nil => exact h c b1 b2 hw q
      | cons b3 br => exact hw.elim
/-- len -/
def oLen : Op1 := fun d k => match d with
  | .list l => k (.sh (.int l.length))
  | .tuple l => k (.sh (.int l.length))
  | .str z => z.length ≤ sizeLine ∧ k (.sh (.int z.length))
  | .dict ps => k (.sh (.int ps.length))
  | _ => False
def rLenA (K : Fg) : List V → Hp → VK → Prop := fun xs H Q => (∃ x n, xs = [x] ∧ LenV K x H n ∧ Q (.int n) H) ∨ ∃ d kvs, xs = [.ref d] ∧ Rd H d (.dK kvs) ∧ Q (.int kvs.length) H
end
end VL

set_option Elab.async false
set_option linter.all false
set_option maxRecDepth 100000
/-! VBlt: built-ins, methods that change a variable's list or dict, the value layer. -/
namespace VL
open PySem L2

def rIntA : List V → Hp → VK → Prop := fun xs H Q => (∃ i, xs = [.int i] ∧ Q (.int i) H) ∨ ∃ k, xs = [.bl k] ∧ Q (.int (if k then 1 else 0)) H
def rMax2A : List V → Hp → VK → Prop := fun xs H Q => ∃ i j, xs = [.int i, .int j] ∧ Q (.int (if j > i then j else i)) H
def rMin2A : List V → Hp → VK → Prop := fun xs H Q => ∃ i j, xs = [.int i, .int j] ∧ Q (.int (if j < i then j else i)) H
def rAbsA : List V → Hp → VK → Prop := fun xs H Q => ∃ i, xs = [.int i] ∧ Q (.int (if i < 0 then -i else i)) H
def rStrIA : List V → Hp → VK → Prop := fun xs H Q => ∃ i, xs = [.int i] ∧ i.natAbs.log2 < 1920 ∧ Q (.str (toString i)) H
def rListA (K : Fg) : List V → Hp → VK → Prop := fun xs H Q => ∃ p ys, xs = [.ref p] ∧ (SqL K H p ys ∨ SqT K H p ys) ∧ ∀ l, H l = none → Q (.ref l) (upd H l (.lst ys))
def rSortDSA : List V → Hp → VK → Prop := fun xs H Q => ∃ (a : Addr) (kvs : List (Key × V)) (ks : List Str), xs = [.ref a] ∧ Rd H a (.dK kvs) ∧ kvs.map (·.1) = ks.map Sum.inr ∧ ks.length < 64 ∧
    ∀ ys p, ys.Perm ks → PyProof.Rows.sortedS ys = true → H p = none → Q (.ref p) (upd H p (.lst (ys.map V.str)))
section
variable {X : Cx}
theorem call_lenR : CallR X (.builtin "len") (fun xs H Q => ∃ d kvs, xs = [V.ref d] ∧ Rd H d (.dK kvs) ∧ Q (.int kvs.length) H) := by
  intro pins s σ H xs us Q I r h
  obtain ⟨d, kvs, rfl, hd, q⟩ := h
  obtain ⟨u, rfl, ru⟩ := vals1 r
  cases ru
  exact d_len I hd fun t s' I' => ⟨.int kvs.length, H, I', ⟨t, rfl⟩, q⟩
theorem call_lenA : CallR X (.builtin "len") (rLenA X.K) := CallR.or call_len call_lenR
theorem call_intA : CallR X (.type "int") rIntA := call_int1
theorem call_max2A (hc : X.calm = true) : CallR X (.builtin "max") rMax2A := call_max2 hc
theorem call_min2A (hc : X.calm = true) : CallR X (.builtin "min") rMin2A := call_min2 hc
theorem call_absA : CallR X (.builtin "abs") rAbsA := call_abs
theorem call_strIA : CallR X (.type "str") rStrIA := call_str_int
theorem call_listA : CallR X (.type "list") (rListA X.K) := call_list_of
theorem call_sortDSA (hc : X.calm = true) : CallR X (.builtin "sorted") rSortDSA := call_sortedD hc
end
section
variable {G : Gb} {C : Cf} {Hi Hi' H H' : Hp} {σ : St} {Γ : Ev} {W : WX}
theorem sem_len : SemN G (rLenA G.K) (o1 oLen) := by
  refine semN_1 ?_
  intro C Hi σ H Γ x a k Q c ha h q
  unfold oLen at h
  split at h
  · obtain ⟨p, xs, rfl, s1, r1⟩ := ha.list c.imm
    refine .inl ⟨_, xs.length, rfl, .inl ⟨xs, SqL.of s1, rfl⟩, ?_⟩
    rw [r1.length]
    exact q _ _ H Hi (Ext.refl _) (out_int c _) h
  · obtain ⟨p, xs, rfl, s1, r1⟩ := ha.tuple c.imm
    refine .inl ⟨_, xs.length, rfl, .inr ⟨xs, SqT.of s1, rfl⟩, ?_⟩
    rw [r1.length]
    exact q _ _ H Hi (Ext.refl _) (out_int c _) h
  · rename_i z
    have e := ha.str
    subst e
    exact .inl ⟨_, z.length, rfl, ⟨h.1, rfl⟩, q _ _ H Hi (Ext.refl _) (out_int c _) h.2⟩
  · obtain ⟨p, kvs, rfl, s1, r1⟩ := ha.dict c.imm
    refine .inr ⟨p, kvs, rfl, s1, ?_⟩
    rw [r1.length]
    exact q _ _ H Hi (Ext.refl _) (out_int c _) h
  · exact h.elim

/-! ### is True, is False -/
def oIsB : Op2 := fun a b k => isB a fun x => isB b fun y => k (.sh (.bool (decide (x = y))))
def oNotIsB : Op2 := fun a b k => isB a fun x => isB b fun y => k (.sh (.bool (!decide (x = y))))
theorem sem_isB : Sem2 G rIsB oIsB := by
  intro C Hi σ H Γ x y a b k Q c ha hb h q
  obtain ⟨i, rfl, h1⟩ := isB_inv h
  obtain ⟨j, rfl, h2⟩ := isB_inv h1
  exact ⟨i, j, ha.bl, hb.bl, q _ _ H Hi (Ext.refl _) (out_bl c _) h2⟩
theorem sem_notIsB : Sem2 G rNotB oNotIsB := by
  intro C Hi σ H Γ x y a b k Q c ha hb h q
  obtain ⟨i, rfl, h1⟩ := isB_inv h
  obtain ⟨j, rfl, h2⟩ := isB_inv h1
  exact ⟨i, j, ha.bl, hb.bl, q _ _ H Hi (Ext.refl _) (out_bl c _) h2⟩

/-! ### isinstance -/
def tyN : D → String
  | .none => "NoneType"
  | .bool _ => "bool"
  | .int _ => "int"
  | .str _ => "str"
  | .list _ => "list"
  | .tuple _ => "tuple"
  | .dict _ => "dict"
def tyNs : List String := ["NoneType", "bool", "int", "str", "list", "tuple", "dict"]
theorem tyN_mem (d : D) : tyN d ∈ tyNs := by cases d <;> simp [tyN, tyNs]
/-- isinstance of data, by the name of the class -/
def isT (a T : String) : Bool := decide (a = T) || (decide (T = "int") && decide (a = "bool"))
theorem ty_x {K : Fg} {x : V} {d : D} (h : Rep K H x d) : TyX K H x (.type (tyN d)) := by
  cases h with
  | non => exact .base .non
  | bl b => exact .base (.bl b)
  | int i => exact .base (.int i)
  | str z => exact .base (.str z)
  | lst h _ => exact .base (.lst h)
  | tup h _ => exact .base (.tup h)
  | dct h _ =>
    rcases h with h | ⟨o, h⟩
    · exact .base (.dK h)
    · exact .fDict h
def KitOk (T : String) : Prop := ∀ a ∈ tyNs, kitB a T = some (isT a T)
theorem kit_int : KitOk "int" := by unfold KitOk tyNs; decide +kernel
theorem kit_bool : KitOk "bool" := by unfold KitOk tyNs; decide +kernel
theorem kit_str : KitOk "str" := by unfold KitOk tyNs; decide +kernel
theorem kit_list : KitOk "list" := by unfold KitOk tyNs; decide +kernel
theorem kit_tuple : KitOk "tuple" := by unfold KitOk tyNs; decide +kernel
theorem kit_dict : KitOk "dict" := by unfold KitOk tyNs; decide +kernel
def wIsi (T : String) (w : WE) : WE := fun Γ Q X => w Γ (fun r Γ1 => rdW r Γ1 fun d => Q (.sh (.bool (isT (tyN d) T))) Γ1) X
theorem sim_isi {t : TE} {w : WE} {T : String} (hT : KitOk T) (h : SimE G W t w) : SimE G W (tCB (rIsi G.K) (tCons t (tCons (tC (.ty T)) tNil))) (wIsi T w) := by
  intro C Hi σ H Γ Q Qd Xd c hw hQ hX
  refine h C Hi σ H Γ _ _ Xd c hw (fun v r H1 Hi1 Γ1 e1 o1 q => ?_) hX
  obtain ⟨Hi2, e2, c2, h2⟩ := o1.hold
  obtain ⟨d, b1, q⟩ := h2.read c2 q
  exact ⟨v, .ty T, _, _, _, rfl, .ty T, ty_x (b1.rep c2.imm), kit_ty (hT _ (tyN_mem d)), hQ _ _ H1 Hi2 Γ1 (e1.trans e2) (out_bl c2 _) q⟩
def wIsi2 (T U : String) (w : WE) : WE := fun Γ Q X => w Γ (fun r Γ1 => rdW r Γ1 fun d => Q (.sh (.bool (isT (tyN d) T || isT (tyN d) U))) Γ1) X
theorem sim_isi2 {t : TE} {w : WE} {T U : String} (hT : KitOk T) (hU : KitOk U) (h : SimE G W t w) : SimE G W (tCB (rIsiT G.K) (tCons t (tCons (tTup (tCons (tC (.ty T)) (tCons (tC (.ty U)) tNil))) tNil))) (wIsi2 T U w) := by
  intro C Hi σ H Γ Q Qd Xd c hw hQ hX
  refine h C Hi σ H Γ _ _ Xd c hw (fun v r H1 Hi1 Γ1 e1 o1 q => ?_) hX
  obtain ⟨Hi2, e2, c2, h2⟩ := o1.hold
  obtain ⟨d, b1, q⟩ := h2.read c2 q
  refine ⟨le_line (show 2 ≤ 1000 by decide), fun p hp => ⟨v, p, _, _, _, isT (tyN d) T || isT (tyN d) U, rfl, upd_same, .cons (.ty T) (.cons (.ty U) .nil), ty_x ((b1.rep c2.imm).mono (Ext.new hp)), ?_, ?_⟩⟩
  · refine kitAny_cons (kit_ty (hT _ (tyN_mem d))) (fun e => ?_) (fun e => by rw [e]; rfl)
    rw [e, Bool.false_or]
    exact kitAny_cons (kit_ty (hU _ (tyN_mem d))) (fun e => by rw [e]; exact kitAny_nil) (fun e => by rw [e])
  · exact hQ _ _ _ Hi2 Γ1 (e1.trans e2) (out_bl (c2.grow (Ext.new hp) (Ext.refl _) (c2.imm.trans (Ext.new hp)) fun _ _ z => .inl z) _) q

/-! ### all, any, sum, int, abs, max, min, str, list, sorted -/
theorem reps_bools {K : Fg} : ∀ {bs : List Bool} {xs : List V}, Reps K Hi xs (bs.map .bool) → xs = bs.map .bl
  | [], _, h => by cases h; rfl
  | b :: bs, _, h => by
    cases h with
    | cons h r => cases h; rw [reps_bools r]; rfl
theorem reps_ints {K : Fg} : ∀ {bs : List Int} {xs : List V}, Reps K Hi xs (bs.map .int) → xs = bs.map .int
  | [], _, h => by cases h; rfl
  | b :: bs, _, h => by
    cases h with
    | cons h r => cases h; rw [reps_ints r]; rfl
theorem ints_reps {K : Fg} : ∀ bs : List Int, Reps K Hi (bs.map .int) (bs.map .int)
  | [] => .nil
  | b :: bs => .cons (.int b) (ints_reps bs)
theorem reps_strs {K : Fg} : ∀ {bs : List Str} {xs : List V}, Reps K Hi xs (bs.map .str) → xs = bs.map .str
  | [], _, h => by cases h; rfl
  | b :: bs, _, h => by
    cases h with
    | cons h r => cases h; rw [reps_strs r]; rfl
theorem strs_reps {K : Fg} : ∀ bs : List Str, Reps K Hi (bs.map .str) (bs.map .str)
  | [] => .nil
  | b :: bs => .cons (.str b) (strs_reps bs)
def oAll : Op1 := fun d k => isL d fun l => ∃ bs : List Bool, l = bs.map .bool ∧ k (.sh (.bool (bs.all id)))
def oAny : Op1 := fun d k => isL d fun l => ∃ bs : List Bool, l = bs.map .bool ∧ k (.sh (.bool (bs.any id)))
def oSum : Op1 := fun d k => isL d fun l => ∃ bs : List Int, l = bs.map .int ∧ k (.sh (.int bs.sum))
theorem sem_all : SemN G (rAll G.K) (o1 oAll) := by
  refine semN_1 ?_
  intro C Hi σ H Γ x a k Q c ha h q
  obtain ⟨l, rfl, bs, rfl, h1⟩ := isL_inv h
  obtain ⟨p, xs, rfl, s1, r1⟩ := ha.list c.imm
  exact ⟨p, bs, rfl, SqL.of (by rw [s1, reps_bools r1]), q _ _ H Hi (Ext.refl _) (out_bl c _) h1⟩
theorem sem_any : SemN G (rAny G.K) (o1 oAny) := by
  refine semN_1 ?_
  intro C Hi σ H Γ x a k Q c ha h q
  obtain ⟨l, rfl, bs, rfl, h1⟩ := isL_inv h
  obtain ⟨p, xs, rfl, s1, r1⟩ := ha.list c.imm
  exact ⟨p, bs, rfl, SqL.of (by rw [s1, reps_bools r1]), q _ _ H Hi (Ext.refl _) (out_bl c _) h1⟩
theorem sem_sum : SemN G (rSum G.K) (o1 oSum) := by
  refine semN_1 ?_
  intro C Hi σ H Γ x a k Q c ha h q
  obtain ⟨l, rfl, bs, rfl, h1⟩ := isL_inv h
  obtain ⟨p, xs, rfl, s1, r1⟩ := ha.list c.imm
  exact ⟨p, bs, rfl, SqL.of (by rw [s1, reps_ints r1]), q _ _ H Hi (Ext.refl _) (out_int c _) h1⟩
def oInt : Op1 := fun d k => match d with
  | .int i => k (.sh (.int i))
  | .bool b => k (.sh (.int (if b then 1 else 0)))
  | _ => False
theorem sem_int : SemN G rIntA (o1 oInt) := by
  refine semN_1 ?_
  intro C Hi σ H Γ x a k Q c ha h q
  unfold oInt at h
  split at h
  · exact .inl ⟨_, by rw [ha.int], q _ _ H Hi (Ext.refl _) (out_int c _) h⟩
  · exact .inr ⟨_, by rw [ha.bl], q _ _ H Hi (Ext.refl _) (out_int c _) h⟩
  · exact h.elim
def oMax : Op2 := fun a b k => isI a fun i => isI b fun j => k (.sh (.int (if j > i then j else i)))
def oMin : Op2 := fun a b k => isI a fun i => isI b fun j => k (.sh (.int (if j < i then j else i)))
theorem sem_max : SemN G rMax2A (o2 oMax) := by
  refine semN_2 ?_
  intro C Hi σ H Γ x y a b k Q c ha hb h q
  obtain ⟨i, rfl, h1⟩ := isI_inv h
  obtain ⟨j, rfl, h2⟩ := isI_inv h1
  exact ⟨i, j, by rw [ha.int, hb.int], q _ _ H Hi (Ext.refl _) (out_int c _) h2⟩
theorem sem_min : SemN G rMin2A (o2 oMin) := by
  refine semN_2 ?_
  intro C Hi σ H Γ x y a b k Q c ha hb h q
  obtain ⟨i, rfl, h1⟩ := isI_inv h
  obtain ⟨j, rfl, h2⟩ := isI_inv h1
  exact ⟨i, j, by rw [ha.int, hb.int], q _ _ H Hi (Ext.refl _) (out_int c _) h2⟩
def oAbs : Op1 := fun d k => isI d fun i => k (.sh (.int (if i < 0 then -i else i)))
theorem sem_abs : SemN G rAbsA (o1 oAbs) := by
  refine semN_1 ?_
  intro C Hi σ H Γ x a k Q c ha h q
  obtain ⟨i, rfl, h1⟩ := isI_inv h
  exact ⟨i, by rw [ha.int], q _ _ H Hi (Ext.refl _) (out_int c _) h1⟩
def oStrI : Op1 := fun d k => isI d fun i => i.natAbs.log2 < 1920 ∧ k (.sh (.str (toString i)))
theorem sem_strI : SemN G rStrIA (o1 oStrI) := by
  refine semN_1 ?_
  intro C Hi σ H Γ x a k Q c ha h q
  obtain ⟨i, rfl, h1⟩ := isI_inv h
  exact ⟨i, by rw [ha.int], h1.1, q _ _ H Hi (Ext.refl _) (out_str c _) h1.2⟩
/-- list(list), list(tuple) -/
def oList : Op1 := fun d k => match d with
  | .list l => k (.ow (.list l))
  | .tuple l => k (.ow (.list l))
  | _ => False
theorem sem_list : SemN G (rListA G.K) (o1 oList) := by
  refine semN_1 ?_
  intro C Hi σ H Γ x a k Q c ha h q
  unfold oList at h
  split at h
  · obtain ⟨p, xs, rfl, s1, r1⟩ := ha.list c.imm
    exact ⟨p, xs, rfl, .inl (SqL.of s1), fun l hl => q _ _ _ Hi (Ext.refl _) (Out.newL c hl r1) h⟩
  · obtain ⟨p, xs, rfl, s1, r1⟩ := ha.tuple c.imm
    exact ⟨p, xs, rfl, .inr (SqT.of s1), fun l hl => q _ _ _ Hi (Ext.refl _) (Out.newL c hl r1) h⟩
  · exact h.elim
/-- sorted of ints -/
def oSortI : Op1 := fun d k => isL d fun l => ∃ ns : List Int, l = ns.map .int ∧ ∀ ns' : List Int, ns'.Perm ns → ns'.Pairwise (· ≤ ·) → k (.ow (.list (ns'.map .int)))
theorem sem_sortI : SemN G (rSortedI G.K) (o1 oSortI) := by
  refine semN_1 ?_
  intro C Hi σ H Γ x a k Q c ha h q
  obtain ⟨l, rfl, ns, rfl, h1⟩ := isL_inv h
  obtain ⟨p, xs, rfl, s1, r1⟩ := ha.list c.imm
  exact ⟨p, ns, rfl, SqL.of (by rw [s1, reps_ints r1]), fun ns' p' hp hs hn => q _ _ _ Hi (Ext.refl _) (Out.newL c hn (ints_reps ns')) (h1 ns' hp hs)⟩
theorem repKV_keysS {K : Fg} : ∀ {kvs : List (Key × V)} {ps : List (D × D)} {ks : List Str}, RepKV K H kvs ps → ps.map (·.1) = ks.map .str → kvs.map (·.1) = ks.map Sum.inr
  | _, _, ks, .nil, e => by
    cases ks with
    | nil => rfl
    | cons k ks => cases e
  | _, _, ks, @RepKV.cons _ _ k0 v0 kvs d0 ps h r, e => by
    cases ks with
    | nil => cases e
    | cons k ks =>
      rw [List.map_cons, List.map_cons] at e
      injection e with e1 e2
      rw [List.map_cons, List.map_cons, repKV_keysS r e2]
      cases k0 with
      | inl i => cases e1
      | inr x => cases e1; rfl
theorem repKV_keysI {K : Fg} : ∀ {kvs : List (Key × V)} {ps : List (D × D)} {ks : List Int}, RepKV K H kvs ps → ps.map (·.1) = ks.map .int → kvs.map (·.1) = ks.map Sum.inl
  | _, _, ks, .nil, e => by
    cases ks with
    | nil => rfl
    | cons k ks => cases e
  | _, _, ks, @RepKV.cons _ _ k0 v0 kvs d0 ps h r, e => by
    cases ks with
    | nil => cases e
    | cons k ks =>
      rw [List.map_cons, List.map_cons] at e
      injection e with e1 e2
      rw [List.map_cons, List.map_cons, repKV_keysI r e2]
      cases k0 with
      | inl i => cases e1; rfl
      | inr x => cases e1
/-- sorted of a dict with text keys (fewer than 64), with int keys -/
def isD (d : D) (k : List (D × D) → Prop) : Prop := match d with
  | .dict ps => k ps
  | _ => False
theorem isD_inv {d : D} {k : List (D × D) → Prop} (h : isD d k) : ∃ ps, d = .dict ps ∧ k ps := by
  unfold isD at h; split at h
  · exact ⟨_, rfl, h⟩
  · exact h.elim
def oSortDS : Op1 := fun d k => isD d fun ps => ∃ ks : List Str, ps.map (·.1) = ks.map .str ∧ ks.length < 64 ∧ ∀ ys : List Str, ys.Perm ks → PyProof.Rows.sortedS ys = true → k (.ow (.list (ys.map .str)))
theorem sem_sortDS : SemN G rSortDSA (o1 oSortDS) := by
  refine semN_1 ?_
  intro C Hi σ H Γ x a k Q c ha h q
  obtain ⟨ps, rfl, ks, e1, e2, h1⟩ := isD_inv h
  obtain ⟨p, kvs, rfl, s1, r1⟩ := ha.dict c.imm
  exact ⟨p, kvs, ks, rfl, s1, repKV_keysS r1 e1, e2, fun ys p' hp hs hn => q _ _ _ Hi (Ext.refl _) (Out.newL c hn (strs_reps ys)) (h1 ys hp hs)⟩

/-! ### what changes a variable's list or dict -/
theorem Rel.write {i : Nat} {d d' : D} {o : HO} {p : Addr} (c : Rel G C Hi σ H Γ) (h : Γ[i]? = some (.ow d)) (hp : σ[i]? = some (some (.ref p))) (ow : Own G.K Hi (upd H p o) p d') :
    Rel G C Hi σ (upd H p o) (Γ.set i (.ow d')) := by
  obtain ⟨fp, c⟩ := c
  obtain ⟨x, hx, p', hf, e, w, h0⟩ := c.sl i _ h
  rw [e, hp] at hx
  have ep : p' = p := by injection hx with h1; injection h1 with h1; injection h1 with h1; exact h1.symm
  subst ep
  have hi : i < Γ.length := (List.getElem?_eq_some_iff.mp h).1
  have hin : Hi p' = none := c.av i p' hi (by rw [hf]; simp)
  have hs : σ.set i (some (.ref p')) = σ := by
    obtain ⟨hl, e1⟩ := List.getElem?_eq_some_iff.mp hp
    rw [← e1]; exact List.set_getElem_self hl
  have st := c.step (H' := upd H p' o) (Hi' := Hi) (x := some (.ref p')) (l := [p']) (s := .ow d') hi (Ext.refl _)
    (fun a u hu hn => by rw [upd_ne (fun z => hn (by rw [hf, z]; simp))]; exact hu)
    (fun a ha => by
      rw [hf] at ha
      have : a = p' := by simpa using ha
      rw [this, upd_same]; simp)
    (fun a u hu => by
      have : a ≠ p' := fun z => by rw [z, hin] at hu; cases hu
      rw [upd_ne this]; exact c.imm a u hu)
    (fun _ _ z => .inl z) ⟨p', rfl, rfl, ow, h0⟩
    (fun a ha => by
      have : a = p' := by simpa using ha
      subst this
      exact ⟨hin, fun j hj hne hm => hne (c.dj j i a hj hi hm (by rw [hf]; simp))⟩)
    (fun j a hj hne ha => c.av j a hj ha)
  rw [hs] at st
  exact ⟨_, st⟩
theorem Rel.writeIo {i : Nat} {d d' : D} {o : HO} {p : Addr} (c : Rel G C Hi σ H Γ) (h : Γ[i]? = some (.io d)) (hp : σ[i]? = some (some (.ref p))) (ow : Own G.K Hi (upd H p o) p d') :
    Rel G C Hi σ (upd H p o) (Γ.set i (.io d')) := by
  obtain ⟨fp, c⟩ := c
  obtain ⟨x, hx, p', hf, e, w, h0⟩ := c.sl i _ h
  rw [e, hp] at hx
  have ep : p' = p := by injection hx with h1; injection h1 with h1; injection h1 with h1; exact h1.symm
  subst ep
  have hi : i < Γ.length := (List.getElem?_eq_some_iff.mp h).1
  have hin : Hi p' = none := c.av i p' hi (by rw [hf]; simp)
  have hs : σ.set i (some (.ref p')) = σ := by
    obtain ⟨hl, e1⟩ := List.getElem?_eq_some_iff.mp hp
    rw [← e1]; exact List.set_getElem_self hl
  have st := c.step (H' := upd H p' o) (Hi' := Hi) (x := some (.ref p')) (l := [p']) (s := .io d') hi (Ext.refl _)
    (fun a u hu hn => by rw [upd_ne (fun z => hn (by rw [hf, z]; simp))]; exact hu)
    (fun a ha => by
      rw [hf] at ha
      have : a = p' := by simpa using ha
      rw [this, upd_same]; simp)
    (fun a u hu => by
      have : a ≠ p' := fun z => by rw [z, hin] at hu; cases hu
      rw [upd_ne this]; exact c.imm a u hu)
    (fun _ _ z => .inl z) ⟨p', rfl, rfl, ow, h0⟩
    (fun a ha => by
      have : a = p' := by simpa using ha
      subst this
      exact ⟨hin, fun j hj hne hm => hne (c.dj j i a hj hi hm (by rw [hf]; simp))⟩)
    (fun j a hj hne ha => c.av j a hj ha)
  rw [hs] at st
  exact ⟨_, st⟩
/-- the owned data of a slot, and how it is put back -/
def owW (i : Nat) (Γ : Ev) (k : D → (D → Ev) → Prop) : Prop := match Γ[i]? with
  | some (.ow d) => k d fun d' => Γ.set i (.ow d')
  | some (.io d) => k d fun d' => Γ.set i (.io d')
  | _ => False
theorem Rel.owned {i : Nat} {k : D → (D → Ev) → Prop} (c : Rel G C Hi σ H Γ) (h : owW i Γ k) : ∃ d p f, σ[i]? = some (some (.ref p)) ∧ Own G.K Hi H p d ∧ k d f ∧
    ∀ d' o, Own G.K Hi (upd H p o) p d' → Rel G C Hi σ (upd H p o) (f d') := by
  unfold owW at h
  split at h
  · rename_i d e
    obtain ⟨p, h1, h2⟩ := c.at_ow e
    exact ⟨d, p, _, h1, h2, h, fun d' o ow => c.write e h1 ow⟩
  · rename_i d e
    obtain ⟨p, h1, h2⟩ := c.at_io e
    exact ⟨d, p, _, h1, h2, h, fun d' o ow => c.writeIo e h1 ow⟩
  · exact h.elim
/-- a list's methods: what it was, the arguments; what it is, the answer -/
abbrev OpM := List D → List D → (List D → D → Prop) → Prop
def SemM (G : Gb) (r : V → List V → Hp → VK → Prop) (f : OpM) : Prop := ∀ {Hi H : Hp} {p : Addr} {vs xs : List V} {l ds : List D} {k : List D → D → Prop} {Q : VK}, H p = some (.lst vs) → Reps G.K Hi vs l → Reps G.K Hi xs ds → f l ds k →
  (∀ v d vs' l', Reps G.K Hi vs' l' → Rep G.K Hi v d → k l' d → Q v (upd H p (.lst vs'))) → r (.ref p) xs H Q
def wMut (i : Nat) (f : OpM) (wa : WA) : WE := fun Γ Q X => owW i Γ fun d _ => isL d fun _ => wa Γ (fun rs Γ1 => frAll rs Γ1 fun ds Γ2 => owW i Γ2 fun d f' => isL d fun l => f l ds fun l' r => Q (.sh r) (f' (.list l'))) X
theorem sim_mut {r : V → List V → Hp → VK → Prop} {f : OpM} {ta : TA} {wa : WA} (i : Nat) (hr : SemM G r f) (ha : SimA G W ta wa) : SimE G W (tBM G.K "list" r (tVar i) ta) (wMut i f wa) := by
  intro C Hi σ H Γ Q Qd Xd c hw hQ hX
  obtain ⟨d0, p, _, hp, ow0, hw, _⟩ := c.owned hw
  obtain ⟨l0, rfl, hw⟩ := isL_inv hw
  cases ow0 with
  | lst hl0 _ =>
    refine ⟨.ref p, hp, .inl ⟨rfl, _, SqL.of hl0⟩, ha C Hi σ H Γ _ _ Xd c hw (fun vs rs H1 Hi1 Γ1 e1 c1 h1 q1 => ?_) hX⟩
    obtain ⟨ds, Hi2, Γ2, e2, c2, r2, q2⟩ := h1.share (Ext.refl _) c1 q1
    obtain ⟨d, p', f', hp', ow, q3, put⟩ := c2.owned q2
    rw [hp] at hp'; cases hp'
    obtain ⟨l, rfl, q3⟩ := isL_inv q3
    cases ow with
    | lst hl rl =>
      refine hr hl rl r2 q3 fun v d vs' l' r' rv q4 => hQ v (.sh d) _ Hi2 _ (e1.trans e2) ⟨put _ _ (.lst upd_same r'), rv⟩ q4
def wMut0 (i : Nat) (f : OpM) : WE := fun Γ Q X => owW i Γ fun d f' => isL d fun l => f l [] fun l' r => Q (.sh r) (f' (.list l'))
theorem sim_mut0 {r : V → List V → Hp → VK → Prop} {f : OpM} (i : Nat) (hr : SemM G r f) : SimE G W (tBM0 G.K "list" r (tVar i)) (wMut0 i f) := by
  intro C Hi σ H Γ Q Qd Xd c hw hQ hX
  obtain ⟨d0, p, f', hp, ow0, hw, put⟩ := c.owned hw
  obtain ⟨l0, rfl, hw⟩ := isL_inv hw
  cases ow0 with
  | lst hl rl =>
    exact ⟨.ref p, hp, .inl ⟨rfl, _, SqL.of hl⟩, hr hl rl .nil hw fun v d vs' l' r' rv q4 => hQ v (.sh d) _ Hi _ (Ext.refl _) ⟨put _ _ (.lst upd_same r'), rv⟩ q4⟩
def fAppend : OpM := fun l ds k => match ds with
  | [x] => l.length < sizeLine ∧ k (l ++ [x]) .none
  | _ => False
theorem sem_append : SemM G rAppend fAppend := by
  intro Hi H p vs xs l ds k Q h r ra hw q
  cases ra with
  | nil => exact hw.elim
  | cons r1 rr =>
    cases rr with
    | nil => exact ⟨p, vs, _, rfl, rfl, h, by rw [r.length]; exact hw.1, q _ _ _ _ (r.append (.one r1)) .non hw.2⟩
    | cons _ _ => exact hw.elim
def fPop : OpM := fun l ds k => match ds with
  | [] => match l.getLast? with
    | some x => k l.dropLast x
    | none => False
  | [.int i] => match ixN l.length i with
    | some j => match l[j]? with
      | some x => l.length < 2 ^ 62 ∧ k (l.eraseIdx j) x
      | none => False
    | none => False
  | _ => False
theorem sem_pop : SemM G (fun x vs H Q => rPop x vs H Q ∨ rPopAt x vs H Q) fPop := by
  intro Hi H p vs xs l ds k Q h r ra hw q
  unfold fPop at hw
  split at hw
  · cases ra
    split at hw
    · rename_i x e
      rw [List.getLast?_eq_getElem?] at e
      obtain ⟨v, h1, h2⟩ := r.get e
      refine .inl ⟨p, vs, v, rfl, rfl, h, by rw [r.length]; exact h1, q _ _ _ _ r.dropLast h2 hw⟩
    · exact hw.elim
  · rename_i i
    cases ra with
    | cons r1 rr =>
      cases rr
      cases r1
      split at hw
      · rename_i j ej
        split at hw
        · rename_i x e
          obtain ⟨v, h1, h2⟩ := r.get e
          obtain ⟨s1, s2, s3, s4⟩ := ixN_seq ej
          have := hw.1
          refine .inr ⟨p, vs, i, j, v, rfl, rfl, h, by omega, by omega, by rw [r.length]; exact s1, h1, q _ _ _ _ (r.eraseIdx j) h2 hw.2⟩
        · exact hw.elim
      · exact hw.elim
  · exact hw.elim
end
end VL

set_option Elab.async false
set_option linter.all false
set_option maxRecDepth 100000
/-! VComp: dicts, stores, several targets, comprehensions of the value layer. -/
namespace VL
open PySem L2

section
variable {G : Gb} {C : Cf} {Hi Hi' H H' : Hp} {σ : St} {Γ : Ev} {W : WX}
/-! ### dicts -/
def wDict0 : WE := fun Γ Q _ => Q (.ow (.dict [])) Γ
theorem sim_dict0 : SimE G W tDNewK wDict0 := fun C Hi σ H Γ Q Qd Xd c hw hQ hX p hp => hQ _ _ _ Hi Γ (Ext.refl _) (Out.new c hp (.dct upd_same .nil)) hw
def wDGet1 (wd wk : WE) : WE := fun Γ Q X => wd Γ (fun r Γ1 => rdW r Γ1 fun d => isD d fun _ => wk Γ1 (fun rk Γ2 => rdW r Γ2 fun d => isD d fun ps => rdW rk Γ2 fun key => isK key (Q (.sh ((dget ps key).getD .none)) Γ2)) X) X
theorem RepKV.getD {K : Fg} {kvs : List (Key × V)} {ps : List (D × D)} {k : Key} {v : V} {d : D} (r : RepKV K Hi kvs ps) (h : Rep K Hi v d) : Rep K Hi ((valV kvs k).getD v) ((dget ps (kD k)).getD d) := by
  cases e : dget ps (kD k) with
  | none => rw [r.none.mp e]; exact h
  | some d' => obtain ⟨v', h1, h2⟩ := r.get e; rw [h1]; exact h2
theorem sim_dget1 {td ty : TE} {wd wk : WE} (hd : SimE G W td wd) (hk : SimE G W ty wk) : SimE G W (tDGet1 td ty) (wDGet1 wd wk) := by
  intro C Hi σ H Γ Q Qd Xd c hw hQ hX
  refine hd C Hi σ H Γ _ _ Xd c hw (fun v1 r1 H1 Hi1 Γ1 e1 o1 q1 => ?_) hX
  obtain ⟨Hi2, e2, c2, h2⟩ := o1.hold
  obtain ⟨d, b1, q2⟩ := h2.read c2 q1
  obtain ⟨ps, rfl, q2⟩ := isD_inv q2
  obtain ⟨p, kvs, rfl, s1, rr⟩ := b1.dict c2.imm
  have f2 := e1.trans e2
  refine ⟨p, rfl, .inl ⟨kvs, s1⟩, hk C Hi2 σ H1 Γ1 _ _ Xd c2 q2 (fun v3 r3 H3 Hi3 Γ3 e3 o3 q3 => ?_) fun x c d H' Hi' Γ' e' => hX x c d H' Hi' Γ' (f2.trans e')⟩
  obtain ⟨Hi4, e4, c4, h4⟩ := o3.hold
  obtain ⟨d1, b1, q4⟩ := (h2.mono (e3.trans e4)).read c4 q3
  obtain ⟨ps', rfl, q4⟩ := isD_inv q4
  obtain ⟨d2, b2, q5⟩ := h4.read c4 q4
  obtain ⟨⟨key, rfl⟩, q5⟩ := isK_inv q5
  obtain ⟨p', kvs', e5, s5, r5⟩ := b1.dict c4.imm
  cases e5
  exact ⟨_, by rw [b2.key]; exact dgetR s5, hQ _ (.sh _) H3 Hi4 Γ3 ((f2.trans e3).trans e4) ⟨c4, r5.getD .non⟩ q5⟩
def wDGet2 (wd wk wx : WE) : WE := fun Γ Q X => wd Γ (fun r Γ1 => rdW r Γ1 fun d => isD d fun _ => wk Γ1 (fun rk Γ2 => wx Γ2 (fun rx Γ3 => frW rx Γ3 fun dx Γ4 =>
  rdW r Γ4 fun d => isD d fun ps => rdW rk Γ4 fun key => isK key (Q (.sh ((dget ps key).getD dx)) Γ4)) X) X) X
theorem sim_dget2 {td ty tx : TE} {wd wk wx : WE} (hd : SimE G W td wd) (hk : SimE G W ty wk) (hx : SimE G W tx wx) : SimE G W (tDGet2 td ty tx) (wDGet2 wd wk wx) := by
  intro C Hi σ H Γ Q Qd Xd c hw hQ hX
  refine hd C Hi σ H Γ _ _ Xd c hw (fun v1 r1 H1 Hi1 Γ1 e1 o1 q1 => ?_) hX
  obtain ⟨Hi2, e2, c2, h2⟩ := o1.hold
  obtain ⟨d, b1, q2⟩ := h2.read c2 q1
  obtain ⟨ps, rfl, q2⟩ := isD_inv q2
  obtain ⟨p, kvs, rfl, s1, rr⟩ := b1.dict c2.imm
  have f2 := e1.trans e2
  refine ⟨p, rfl, .inl ⟨kvs, s1⟩, hk C Hi2 σ H1 Γ1 _ _ Xd c2 q2 (fun v3 r3 H3 Hi3 Γ3 e3 o3 q3 => ?_) fun x c d H' Hi' Γ' e' => hX x c d H' Hi' Γ' (f2.trans e')⟩
  obtain ⟨Hi4, e4, c4, h4⟩ := o3.hold
  have f4 := (f2.trans e3).trans e4
  refine hx C Hi4 σ H3 Γ3 _ _ Xd c4 q3 (fun v5 r5 H5 Hi5 Γ5 e5 o5 q5 => ?_) fun x c d H' Hi' Γ' e' => hX x c d H' Hi' Γ' (f4.trans e')
  obtain ⟨dx, Hi6, Γ6, e6, c6, rx, q6⟩ := o5.share q5
  have f56 := e5.trans e6
  obtain ⟨d1, b1, q7⟩ := (h2.mono ((e3.trans e4).trans f56)).read c6 q6
  obtain ⟨ps', rfl, q7⟩ := isD_inv q7
  obtain ⟨d2, b2, q8⟩ := (h4.mono f56).read c6 q7
  obtain ⟨⟨key, rfl⟩, q8⟩ := isK_inv q8
  obtain ⟨p', kvs', e7, s7, r7⟩ := b1.dict c6.imm
  cases e7
  exact ⟨_, by rw [b2.key]; exact dgetR s7, hQ _ (.sh _) H5 Hi6 Γ6 (f4.trans f56) ⟨c6, r7.getD rx⟩ q8⟩
/-- d[k] = v, d an owned variable -/
def wDPut (i : Nat) (wk wv : WE) : WS := fun Γ D X => wv Γ (fun rv Γ1 => owW i Γ1 fun _ _ => wk Γ1 (fun rk Γ2 => frW rv Γ2 fun dv Γ3 => rdW rk Γ3 fun key => isK key (owW i Γ3 fun d f => isD d fun ps => ps.length < sizeLine ∧ D.nx (f (.dict (dput ps key dv))))) X) X
theorem sim_dput {ty tv : TE} {wk wv : WE} (i : Nat) (hk : SimE G W ty wk) (hv : SimE G W tv wv) : SimS G W (sDPut (tVar i) ty tv) (wDPut i wk wv) := by
  intro C Hi σ H Γ Dn Dd Xd c hw h1 _ _ _ h5
  refine hv C Hi σ H Γ _ _ Xd c hw (fun v1 r1 H1 Hi1 Γ1 e1 o1 q1 => ?_) fun x c d => h5 x c d σ
  obtain ⟨Hi2, e2, c2, h2⟩ := o1.hold
  have f2 := e1.trans e2
  obtain ⟨_, p, _, hp, _, q1, _⟩ := c2.owned q1
  refine ⟨_, hp, hk C Hi2 σ H1 Γ1 _ _ Xd c2 q1 (fun v3 r3 H3 Hi3 Γ3 e3 o3 q3 => ?_) fun x c d H' Hi' Γ' e' => h5 x c d σ H' Hi' Γ' (f2.trans e')⟩
  obtain ⟨Hi4, e4, c4, h4⟩ := o3.hold
  obtain ⟨dv, Hi5, Γ5, e5, c5, rv, q5⟩ := (h2.mono (e3.trans e4)).share c4 q3
  obtain ⟨dk, bk, q6⟩ := (h4.mono e5).read c5 q5
  obtain ⟨⟨k, rfl⟩, q6'⟩ := isK_inv q6
  obtain ⟨d, p', f', hp', ow, q7, put⟩ := c5.owned q6'
  rw [hp] at hp'; cases hp'
  obtain ⟨ps, rfl, hl, q8⟩ := isD_inv q7
  cases ow with
  | dct hd rd =>
    refine ⟨p, _, rfl, by rw [bk.key]; exact DPut.k hd (by rw [rd.length]; exact hl), ?_⟩
    exact h1 σ _ Hi5 _ (((f2.trans e3).trans e4).trans e5) (put _ _ (.dct upd_same (rd.put rv))) q8
/-- xs[i] = v, xs an owned list -/
def wLPut (i : Nat) (wk wv : WE) : WS := fun Γ D X => wv Γ (fun rv Γ1 => owW i Γ1 fun _ _ => wk Γ1 (fun rk Γ2 => frW rv Γ2 fun dv Γ3 => rdW rk Γ3 fun key => isI key fun n => owW i Γ3 fun d f => isL d fun l =>
  match ixN l.length n with
  | some j => D.nx (f (.list (l.set j dv)))
  | none => False) X) X
theorem sim_lput {ty tv : TE} {wk wv : WE} (i : Nat) (hk : SimE G W ty wk) (hv : SimE G W tv wv) : SimS G W (tAsg tv (gSub (tVar i) ty rSetL)) (wLPut i wk wv) := by
  intro C Hi σ H Γ Dn Dd Xd c hw h1 _ _ _ h5
  refine hv C Hi σ H Γ _ _ Xd c hw (fun v1 r1 H1 Hi1 Γ1 e1 o1 q1 => ?_) fun x c d => h5 x c d σ
  obtain ⟨Hi2, e2, c2, h2⟩ := o1.hold
  have f2 := e1.trans e2
  obtain ⟨_, p, _, hp, _, q1, _⟩ := c2.owned q1
  refine ⟨_, hp, hk C Hi2 σ H1 Γ1 _ _ Xd c2 q1 (fun v3 r3 H3 Hi3 Γ3 e3 o3 q3 => ?_) fun x c d H' Hi' Γ' e' => h5 x c d σ H' Hi' Γ' (f2.trans e')⟩
  obtain ⟨Hi4, e4, c4, h4⟩ := o3.hold
  obtain ⟨dv, Hi5, Γ5, e5, c5, rv, q5⟩ := (h2.mono (e3.trans e4)).share c4 q3
  obtain ⟨dk, bk, q6⟩ := (h4.mono e5).read c5 q5
  obtain ⟨n, rfl, q6'⟩ := isI_inv q6
  obtain ⟨d, p', f', hp', ow, q7, put⟩ := c5.owned q6'
  rw [hp] at hp'; cases hp'
  obtain ⟨l, rfl, q8⟩ := isL_inv q7
  cases ow with
  | lst hl rl =>
    split at q8
    · rename_i j ej
      refine ⟨p, _, n, j, rfl, bk.int, hl, by rw [rl.length]; exact ej, ?_⟩
      exact h1 σ _ Hi5 _ (((f2.trans e3).trans e4).trans e5) (put _ _ (.lst upd_same (rl.set rv j))) q8
    · exact q8.elim
/-- xs.extend(new list) -/
def wExt (i : Nat) (w : WE) : WE := fun Γ Q X => owW i Γ fun d _ => isL d fun _ => w Γ (fun r Γ1 => frW r Γ1 fun d Γ2 => isL d fun ys => owW i Γ2 fun d f => isL d fun l => l.length + ys.length ≤ sizeLine ∧ Q (.sh .none) (f (.list (l ++ ys)))) X
theorem sim_ext {t : TE} {w : WE} (i : Nat) (h : SimE G W t w) : SimE G W (tBM G.K "list" rExtend (tVar i) (tCons t tNil)) (wExt i w) := by
  intro C Hi σ H Γ Q Qd Xd c hw hQ hX
  obtain ⟨d0, p, _, hp, ow0, hw, _⟩ := c.owned hw
  obtain ⟨l0, rfl, hw⟩ := isL_inv hw
  cases ow0 with
  | lst hl0 _ =>
    refine ⟨.ref p, hp, .inl ⟨rfl, _, SqL.of hl0⟩, h C Hi σ H Γ _ _ Xd c hw (fun v1 r1 H1 Hi1 Γ1 e1 o1 q1 => ?_) hX⟩
    obtain ⟨d, Hi2, Γ2, e2, c2, r2, q2⟩ := o1.share q1
    obtain ⟨ys, rfl, q2'⟩ := isL_inv q2
    obtain ⟨d', p', f', hp', ow, q3, put⟩ := c2.owned q2'
    rw [hp] at hp'; cases hp'
    obtain ⟨l, rfl, hz, q4⟩ := isL_inv q3
    cases ow with
    | lst hl rl =>
      cases r2 with
      | lst s2 ry =>
        exact ⟨p, _, _, _, rfl, rfl, hl, c2.imm _ _ s2, by rw [rl.length, ry.length]; exact hz, hQ _ (.sh .none) _ Hi2 _ (e1.trans e2) ⟨put _ _ (.lst upd_same (rl.append ry)), .non⟩ q4⟩

/-! ### a, b, .. = e1, e2, .. -/
/-- a result, as the slot that takes it -/
def slW (r : R) (Γ : Ev) (k : Sl → Ev → Prop) : Prop := match r with
  | .sh d => k (.sh d) Γ
  | .ow d => k (.ow d) Γ
  | .vr i => frW (.vr i) Γ fun d Γ1 => k (.sh d) Γ1
  | .op t d => 10 ≤ t ∧ k (.op t d) Γ
abbrev WSl := Ev → (List Sl → Ev → Prop) → XW → Prop
def wsNil : WSl := fun Γ Q _ => Q [] Γ
def wsCons (w : WE) (ws : WSl) : WSl := fun Γ Q X => w Γ (fun r Γ1 => slW r Γ1 fun s Γ2 => ws Γ2 (fun ss Γ3 => Q (s :: ss) Γ3) X) X
theorem Out.slot {v : V} {r : R} {k : Sl → Ev → Prop} (o : Out G C Hi σ H Γ v r) (q : slW r Γ k) :
    ∃ Hi' Γ' s, Ext Hi Hi' ∧ Γ'.length = σ.length ∧ Rel G C Hi' (σ ++ [some v]) H (Γ' ++ [s]) ∧ ((∃ d, s = .sh d) ∨ (∃ d, s = .ow d) ∨ ∃ t d, 10 ≤ t ∧ s = .op t d) ∧ k s Γ' := by
  cases r with
  | sh d => exact ⟨Hi, Γ, .sh d, Ext.refl _, o.1.len, o.1.push_sh o.2, .inl ⟨d, rfl⟩, q⟩
  | ow d => exact ⟨Hi, Γ, .ow d, Ext.refl _, o.1, o.2, .inr (.inl ⟨d, rfl⟩), q⟩
  | op t d => exact ⟨Hi, Γ, .op t d, Ext.refl _, o.1, o.2, .inr (.inr ⟨t, d, q.1, rfl⟩), q.2⟩
  | vr i =>
    obtain ⟨d, Hi', Γ', e, c, r, q⟩ := o.share (k := fun d Γ1 => k (.sh d) Γ1) q
    exact ⟨Hi', Γ', .sh d, e, c.len, c.push_sh r, .inl ⟨d, rfl⟩, q⟩
def SimSl (G : Gb) (W : WX) (t : TA) (w : WSl) : Prop := ∀ (C : Cf) (Hi : Hp) (σ : St) (H : Hp) (Γ : Ev) (Q : List V → Hp → Prop) (Qd : List Sl → Ev → Prop) (Xd : XW), Rel G C Hi σ H Γ → w Γ Qd Xd →
  (∀ vs ss H' Hi' Γ', Ext Hi Hi' → Γ'.length = σ.length → Rel G C Hi' (σ ++ vs.reverse.map some) H' (Γ' ++ ss.reverse) → Plain ss → vs.length = ss.length → Qd ss Γ' → Q vs H') →
  (∀ x c d H' Hi' Γ', Ext Hi Hi' → Rel G C Hi' σ H' Γ' → G.xr x c d Hi' → Xd x Γ' → W c d σ H') → t σ H Q
theorem sims_nil : SimSl G W tNil wsNil := fun C Hi σ H Γ Q Qd Xd c hw hQ hX => hQ [] [] H Hi Γ (Ext.refl _) c.len (by simpa using c) (fun s h => nomatch h) rfl hw
theorem sims_cons {te : TE} {ta : TA} {we : WE} {ws : WSl} (he : SimE G W te we) (ha : SimSl G W ta ws) : SimSl G W (tCons te ta) (wsCons we ws) := by
  intro C Hi σ H Γ Q Qd Xd c hw hQ hX
  refine he C Hi σ H Γ _ _ Xd c hw (fun v1 r1 H1 Hi1 Γ1 e1 o1 q1 => ?_) hX
  obtain ⟨Hi2, Γ2, s, e2, hl, c2, pl, q2⟩ := o1.slot q1
  have f2 := e1.trans e2
  obtain ⟨fp, c2⟩ := c2
  have pl1 : Plain [s] := fun s' h => by
    have : s' = s := by simpa using h
    rw [this]; exact pl
  refine ha _ Hi2 σ H1 Γ2 _ _ Xd ⟨_, c2.aside hl⟩ q2 (fun vs ss H3 Hi3 Γ3 e3 hl3 c3 pl3 hle q3 => ?_) fun x c d H' Hi' Γ' e' c' => ?_
  · obtain ⟨fp3, c3⟩ := c3
    have c4 := c2.back hl pl1 e3 c3
    refine hQ (v1 :: vs) (s :: ss) H3 Hi3 Γ3 (f2.trans e3) hl3 ?_ ?_ (by simp [hle]) q3
    · rw [List.reverse_cons, List.reverse_cons, List.map_append, ← List.append_assoc, ← List.append_assoc]
      exact c4
    · intro s' h
      rcases List.mem_cons.mp h with rfl | h
      · exact pl
      · exact pl3 s' h
  · obtain ⟨fp', c'⟩ := c'
    have c4 := c2.back hl pl1 e' c'
    exact hX x c d H' Hi' Γ' (f2.trans e') (c4.trunc c'.len)
/-- the slots is := the last things, the first one last -/
theorem Rel.moves {n : Nat} : ∀ (is : List Nat) (vs : List V) (ss : List Sl) {σ : St} {Γ : Ev}, is.length = vs.length → vs.length = ss.length → Γ.length = σ.length → (∀ i ∈ is, i < Γ.length) →
    Rel G C Hi (σ ++ vs.reverse.map some) H (Γ ++ ss.reverse) → Rel G C Hi ((is.zip vs).foldl (fun σ p => σ.set p.1 (some p.2)) σ) H ((is.zip ss).foldl (fun Γ p => Γ.set p.1 p.2) Γ)
  | [], [], [], σ, Γ, _, _, _, _, c => by simpa using c
  | i :: is, v :: vs, s :: ss, σ, Γ, h1, h2, hl, hi, c => by
    rw [List.reverse_cons, List.reverse_cons, List.map_append, ← List.append_assoc, ← List.append_assoc] at c
    have h2' : vs.length = ss.length := by simpa using h2
    have hil : i < Γ.length := hi i List.mem_cons_self
    have c1 := Rel.move (i := i) (x := some v) c (by simp; omega) (by simp; omega)
    rw [List.set_append_left i _ (by omega), List.set_append_left i _ hil] at c1
    exact Rel.moves (n := n) is vs ss (by simpa using h1) h2' (by simpa using hl) (fun j hj => by rw [List.length_set]; exact hi j (List.mem_cons_of_mem _ hj)) c1
  | [], _ :: _, _, _, _, h1, _, _, _, _ => by simp at h1
  | _ :: _, [], _, _, _, h1, _, _, _, _ => by simp at h1
  | [], [], _ :: _, _, _, _, h2, _, _, _ => by simp at h2
  | _ :: _, _ :: _, [], _, _, _, h2, _, _, _ => by simp at h2
theorem two_of {α : Type} : ∀ {l : List α}, l.length = 2 → ∃ a b, l = [a, b]
  | [a, b], _ => ⟨a, b, rfl⟩
  | [], h => by simp at h
  | [_], h => by simp at h
  | _ :: _ :: _ :: _, h => by simp at h
theorem three_of {α : Type} : ∀ {l : List α}, l.length = 3 → ∃ a b c, l = [a, b, c]
  | [a, b, c], _ => ⟨a, b, c, rfl⟩
  | [], h => by simp at h
  | [_], h => by simp at h
  | [_, _], h => by simp at h
  | _ :: _ :: _ :: _ :: _, h => by simp at h
def wPar (is : List Nat) (ws : WSl) : WS := fun Γ D X => ws Γ (fun ss Γ1 => ss.length = is.length ∧ (∀ i ∈ is, i < Γ1.length) ∧ D.nx ((is.zip ss).foldl (fun Γ p => Γ.set p.1 p.2) Γ1)) X
theorem sim_par {i j : Nat} {ta : TA} {ws : WSl} (h : SimSl G W ta ws) : SimS G W (tPar i j ta) (wPar [i, j] ws) := by
  intro C Hi σ H Γ Dn Dd Xd c hw h1 _ _ _ h5
  refine h C Hi σ H Γ _ _ Xd c hw (fun vs ss H1 Hi1 Γ1 e1 hl c1 pl hle ⟨q1, q2, q3⟩ => ?_) fun x c d => h5 x c d σ
  have m := Rel.moves (n := 0) [i, j] vs ss (by rw [hle, q1]) hle hl q2 c1
  obtain ⟨v1, v2, rfl⟩ := two_of (show vs.length = 2 by rw [hle, q1]; rfl)
  obtain ⟨s1, s2, rfl⟩ := two_of (show ss.length = 2 by rw [q1]; rfl)
  exact ⟨v1, v2, rfl, h1 _ H1 Hi1 _ e1 m q3⟩
theorem sim_par3 {i j l : Nat} {ta : TA} {ws : WSl} (h : SimSl G W ta ws) : SimS G W (tPar3 i j l ta) (wPar [i, j, l] ws) := by
  intro C Hi σ H Γ Dn Dd Xd c hw h1 _ _ _ h5
  refine h C Hi σ H Γ _ _ Xd c hw (fun vs ss H1 Hi1 Γ1 e1 hl c1 pl hle ⟨q1, q2, q3⟩ => ?_) fun x c d => h5 x c d σ
  have m := Rel.moves (n := 0) [i, j, l] vs ss (by rw [hle, q1]) hle hl q2 c1
  obtain ⟨v1, v2, v3, rfl⟩ := three_of (show vs.length = 3 by rw [hle, q1]; rfl)
  obtain ⟨s1, s2, s3, rfl⟩ := three_of (show ss.length = 3 by rw [q1]; rfl)
  exact ⟨v1, v2, v3, rfl, h1 _ H1 Hi1 _ e1 m q3⟩
/-- four and more: by a tuple -/
def gNames : List Nat → TGs
  | [] => gNil
  | i :: is => gCons (gName i) (gNames is)
theorem gNames_run {H : Hp} {Q : St → Hp → Prop} : ∀ (is : List Nat) (vs : List V) (σ : St), is.length = vs.length → Q ((is.zip vs).foldl (fun σ p => σ.set p.1 (some p.2)) σ) H → gNames is vs σ H Q
  | [], [], σ, _, h => ⟨rfl, h⟩
  | i :: is, v :: vs, σ, hl, h => ⟨v, vs, rfl, gNames_run is vs _ (by simpa using hl) h⟩
  | [], _ :: _, _, hl, _ => by simp at hl
  | _ :: _, [], _, hl, _ => by simp at hl
theorem sim_parT {is : List Nat} {n : Nat} {ta : TA} {ws : WSl} (hn : is.length = n) (hs : n ≤ 1000) (h : SimSl G W ta ws) : SimS G W (tAsg (tTup ta) (gTup G.K n (gNames is))) (wPar is ws) := by
  intro C Hi σ H Γ Dn Dd Xd c hw h1 _ _ _ h5
  refine h C Hi σ H Γ _ _ Xd c hw (fun vs ss H1 Hi1 Γ1 e1 hl c1 pl hle ⟨q1, q2, q3⟩ => ?_) fun x c d => h5 x c d σ
  have hv : vs.length = n := by rw [hle, q1, hn]
  refine ⟨le_line (by rw [hv]; exact hs), fun p hp => ⟨p, vs, rfl, SqT.of upd_same, hv, ?_⟩⟩
  refine gNames_run is vs σ (by rw [hv, hn]) (h1 _ _ Hi1 _ e1 ?_ q3)
  have m := Rel.moves (n := 0) is vs ss (by rw [hle, q1]) hle hl q2 c1
  exact m.grow (Ext.new hp) (Ext.refl _) (m.imm.trans (Ext.new hp)) fun _ _ z => .inl z
end
end VL

set_option Elab.async false
set_option linter.all false
set_option maxRecDepth 100000
/-! VLc: list and dict comprehensions of the value layer. -/
namespace VL
open PySem L2

section
variable {G : Gb} {C : Cf} {Hi Hi' Hi1 H H' H1 : Hp} {σ τ : St} {Γ Γ1 Γ2 Δ : Ev} {W : WX}
/-! ### the block's own slots -/
def wipeE (Γ : Ev) : List Nat → Ev
  | [] => Γ
  | v :: vs => (wipeE Γ vs).set v .no
def restE (Γ0 : Ev) : Ev → List Nat → Ev
  | Γ, [] => Γ
  | Γ, v :: vs => restE Γ0 (Γ.set v ((Γ0[v]?).getD .no)) vs
def okW (Γ : Ev) : List Nat → Prop
  | [] => True
  | v :: vs => (match Γ[v]? with
    | some .no => True
    | some (.sh _) => True
    | _ => False) ∧ okW Γ vs
theorem wipeE_length (Γ : Ev) : ∀ vs, (wipeE Γ vs).length = Γ.length
  | [] => rfl
  | v :: vs => by unfold wipeE; rw [List.length_set, wipeE_length Γ vs]
theorem restE_length (Γ0 : Ev) : ∀ (vs : List Nat) (Γ : Ev), (restE Γ0 Γ vs).length = Γ.length
  | [], _ => rfl
  | v :: vs, Γ => by unfold restE; rw [restE_length Γ0 vs, List.length_set]
theorem okW_lt : ∀ {vs : List Nat}, okW Γ vs → ∀ v ∈ vs, v < Γ.length ∧ ((Γ[v]? = some .no) ∨ ∃ d, Γ[v]? = some (.sh d))
  | [], _, v, h => nomatch h
  | w :: vs, ⟨h1, h2⟩, v, h => by
    rcases List.mem_cons.mp h with rfl | h
    · split at h1
      · rename_i e
        exact ⟨(List.getElem?_eq_some_iff.mp e).1, .inl e⟩
      · rename_i d e
        exact ⟨(List.getElem?_eq_some_iff.mp e).1, .inr ⟨d, e⟩⟩
      · exact h1.elim
    · exact okW_lt h2 v h
theorem wipe_get (σ : St) (j : Nat) : ∀ vs : List Nat, (wipe σ vs)[j]? = if j ∈ vs then (σ[j]?).map (fun _ => none) else σ[j]?
  | [] => by simp [wipe]
  | v :: vs => by
    unfold wipe
    by_cases hj : v = j
    · subst hj
      rw [List.getElem?_set_self', wipe_get σ v vs, if_pos List.mem_cons_self]
      split
      · cases σ[v]? <;> rfl
      · rfl
    · rw [List.getElem?_set_ne hj, wipe_get σ j vs]
      have : (j ∈ v :: vs) ↔ j ∈ vs := by
        rw [List.mem_cons]
        exact ⟨fun h => h.resolve_left fun e => hj e.symm, .inr⟩
      by_cases hm : j ∈ vs
      · rw [if_pos hm, if_pos (this.mpr hm)]
      · rw [if_neg hm, if_neg fun h => hm (this.mp h)]
theorem wipe_set {i : Nat} {x : Option V} {vs : List Nat} (h : i ∈ vs) : wipe (σ.set i x) vs = wipe σ vs := by
  apply List.ext_getElem?
  intro j
  rw [wipe_get, wipe_get]
  by_cases hj : j ∈ vs
  · rw [if_pos hj, if_pos hj]
    by_cases e : i = j
    · subst e
      rw [List.getElem?_set_self']
      cases σ[i]? <;> rfl
    · rw [List.getElem?_set_ne e]
  · rw [if_neg hj, if_neg hj, List.getElem?_set_ne (show i ≠ j from fun e => by subst e; exact hj h)]
theorem wipe_wipe (vs : List Nat) : wipe (wipe σ vs) vs = wipe σ vs := by
  apply List.ext_getElem?
  intro j
  rw [wipe_get, wipe_get]
  split
  · cases σ[j]? <;> rfl
  · rfl
theorem wipe_append : ∀ {vs : List Nat}, (∀ v ∈ vs, v < σ.length) → wipe (σ ++ τ) vs = wipe σ vs ++ τ
  | [], _ => rfl
  | v :: vs, h => by
    unfold wipe
    rw [wipe_append fun w hw => h w (List.mem_cons_of_mem _ hw), List.set_append_left _ _ (by rw [wipe_length]; exact h v List.mem_cons_self)]
theorem wipeE_append : ∀ {vs : List Nat}, (∀ v ∈ vs, v < Γ.length) → wipeE (Γ ++ Δ) vs = wipeE Γ vs ++ Δ
  | [], _ => rfl
  | v :: vs, h => by
    unfold wipeE
    rw [wipeE_append fun w hw => h w (List.mem_cons_of_mem _ hw), List.set_append_left _ _ (by rw [wipeE_length]; exact h v List.mem_cons_self)]
theorem Rel.setNo {i : Nat} {x : Option V} (c : Rel G C Hi σ H Γ) : Rel G C Hi (σ.set i x) H (Γ.set i .no) := by
  by_cases hi : i < Γ.length
  · exact c.put_no hi
  · rw [set_far hi, set_far (by rw [← c.len]; exact hi)]; exact c
theorem Rel.wipe (c : Rel G C Hi σ H Γ) : ∀ vs : List Nat, Rel G C Hi (L2.wipe σ vs) H (wipeE Γ vs)
  | [] => c
  | v :: vs => (c.wipe vs).setNo
theorem Rel.unwipe (c1 : Rel G C Hi1 σ H1 Γ1) (e : Ext Hi1 Hi) (hd : τ.length = Δ.length) : ∀ (vs : List Nat) {Γ2 : Ev}, okW Γ1 vs → vs.Nodup → Γ2.length = σ.length → Rel G C Hi (L2.wipe σ vs ++ τ) H (Γ2 ++ Δ) →
    Rel G C Hi (σ ++ τ) H (restE Γ1 Γ2 vs ++ Δ)
  | [], Γ2, _, _, _, c => c
  | v :: vs, Γ2, ok, nd, hl, c => by
    obtain ⟨hv, hs⟩ := okW_lt ok v List.mem_cons_self
    have hvs : v < σ.length := by rw [← c1.len]; exact hv
    obtain ⟨nd1, nd2⟩ := List.nodup_cons.mp nd
    have ew : ((L2.wipe σ (v :: vs)).set v σ[v]) = L2.wipe σ vs := by
      show (((L2.wipe σ vs).set v none).set v σ[v]) = L2.wipe σ vs
      rw [List.set_set]
      apply List.ext_getElem?
      intro j
      by_cases hj : v = j
      · subst hj
        rw [List.getElem?_set_self (by rw [wipe_length]; exact hvs), wipe_get, if_neg nd1, List.getElem?_eq_getElem hvs]
      · rw [List.getElem?_set_ne hj]
    have step : Rel G C Hi (((L2.wipe σ (v :: vs)) ++ τ).set v σ[v]) H ((Γ2 ++ Δ).set v ((Γ1[v]?).getD .no)) := by
      rcases hs with hs | ⟨d, hs⟩
      · rw [hs]
        exact c.setNo
      · rw [hs]
        obtain ⟨x, hx, rx⟩ := c1.at_sh hs
        rw [List.getElem?_eq_getElem hvs] at hx
        rw [Option.some.inj hx]
        exact c.setSh (rx.mono e)
    rw [List.set_append_left _ _ (by rw [wipe_length]; exact hvs), ew, List.set_append_left _ _ (by rw [hl]; exact hvs)] at step
    exact Rel.unwipe c1 e hd vs ok.2 nd2 (by rw [List.length_set]; exact hl) step

/-! ### targets within a block -/
def SimGw (G : Gb) (g : TG) (w : WG) (vs : List Nat) : Prop := ∀ (C : Cf) (Hi : Hp) (σ : St) (H : Hp) (Γ : Ev) (v : V) (d : D) (Q : St → Hp → Prop) (Qd : Ev → Prop), Rel G C Hi σ H Γ → Rep G.K Hi v d → w d Γ Qd →
  (∀ σ' Γ', Rel G C Hi σ' H Γ' → L2.wipe σ' vs = L2.wipe σ vs → Qd Γ' → Q σ' H) → g v σ H Q
def SimGsw (G : Gb) (g : TGs) (w : WGs) (vs : List Nat) : Prop := ∀ (C : Cf) (Hi : Hp) (σ : St) (H : Hp) (Γ : Ev) (xs : List V) (ds : List D) (Q : St → Hp → Prop) (Qd : Ev → Prop), Rel G C Hi σ H Γ → Reps G.K Hi xs ds → w ds Γ Qd →
  (∀ σ' Γ', Rel G C Hi σ' H Γ' → L2.wipe σ' vs = L2.wipe σ vs → Qd Γ' → Q σ' H) → g xs σ H Q
theorem simgw_name (i : Nat) {vs : List Nat} (h : i ∈ vs) : SimGw G (gName i) (wgName i) vs := fun C Hi σ H Γ v d Q Qd c r hw q => q _ _ (c.setSh r) (wipe_set h) hw
theorem simgw_nil {vs : List Nat} : SimGsw G gNil wgNil vs := by
  intro C Hi σ H Γ xs ds Q Qd c r hw h
  cases r with
  | nil => exact ⟨rfl, h _ _ c rfl hw⟩
  | cons _ _ => exact hw.elim
theorem simgw_cons {vs : List Nat} {g : TG} {a : WG} {gs : TGs} {b : WGs} (ha : SimGw G g a vs) (hb : SimGsw G gs b vs) : SimGsw G (gCons g gs) (wgCons a b) vs := by
  intro C Hi σ H Γ xs ds Q Qd c r hw h
  cases r with
  | nil => exact hw.elim
  | cons r1 rr => exact ⟨_, _, rfl, ha C Hi σ H Γ _ _ _ _ c r1 hw fun σ' Γ' c' e' q => hb C Hi σ' H Γ' _ _ _ _ c' rr q fun σ2 Γ2 c2 e2 q2 => h σ2 Γ2 c2 (e2.trans e') q2⟩
theorem simgw_tup {vs : List Nat} {n : Nat} {gs : TGs} {b : WGs} (hb : SimGsw G gs b vs) : SimGw G (gTup G.K n gs) (wgTup n b) vs := by
  intro C Hi σ H Γ v d Q Qd c r hw h
  cases r with
  | tup s r =>
    obtain ⟨hl, hw⟩ := hw
    exact ⟨_, _, rfl, SqT.of (c.imm _ _ s), by rw [r.length]; exact hl, hb C Hi σ H Γ _ _ _ _ c r hw h⟩
  | _ => exact hw.elim

/-! ### list comprehensions -/
def noX : XW := fun _ _ => False
abbrev noW : WX := fun _ _ _ _ => False
def wYes : WT := fun Γ Q _ => Q true Γ
theorem sim_yes : SimT G W tYes wYes := fun C Hi σ H Γ Q Qd Xd c hw hQ hX => hQ true H Hi Γ (Ext.refl _) c hw
def lcW (vs : List Nat) (g : WG) (t : WT) (w : WE) (k : List D → Ev → Prop) : List PyData → List D → Ev → Prop
  | [], acc, Γ => k acc Γ
  | d :: ds, acc, Γ => g d Γ fun Γ1 => t Γ1 (fun b Γ2 => if b = true then w Γ2 (fun r Γ3 => frW r Γ3 fun e Γ4 => acc.length < sizeLine ∧ lcW vs g t w k ds (acc ++ [e]) (wipeE Γ4 vs)) noX
      else lcW vs g t w k ds acc (wipeE Γ2 vs)) noX
def wLc (vs : List Nat) (wi : WI) (g : WG) (t : WT) (w : WE) : WE := fun Γ Q X => wi Γ (fun ds Γ1 => okW Γ1 vs ∧ lcW vs g t w (fun acc Γ2 => Q (.ow (.list acc)) (restE Γ1 Γ2 vs)) ds [] (wipeE Γ1 vs)) X
theorem plain1 {d : D} : Plain [.ow d] := fun s h => by
  have : s = .ow d := by simpa using h
  exact .inr (.inl ⟨d, this⟩)
theorem lc_run {g : TG} {wg : WG} {tt : TT} {wt : WT} {te : TE} {we : WE} {vs : List Nat} (nd : vs.Nodup) (hg : SimGw G g wg vs) (ht : SimT G noW tt wt) (he : SimE G noW te we) {J : It} {ds : List D} {Q : VK} {Qd : R → Ev → Prop}
    (c1 : Rel G C Hi1 σ H1 Γ1) (it : Items G.K Hi1 J ds) (ok : okW Γ1 vs) (q : lcW vs wg wt we (fun acc Γ2 => Qd (.ow (.list acc)) (restE Γ1 Γ2 vs)) ds [] (wipeE Γ1 vs))
    (hQ : ∀ v r H' Hi' Γ', Ext Hi1 Hi' → Out G C Hi' σ H' Γ' v r → Qd r Γ' → Q v H') : tLc (fun σ H R => R J H) g tt te vs σ H1 Q := by
  intro Dp hD
  have hvl : ∀ v ∈ vs, v < σ.length := fun v hv => by rw [← c1.len]; exact (okW_lt ok v hv).1
  have c3 := (c1.wipe vs).alloc hD (d := .list []) (.lst upd_same .nil)
  refine ⟨fun i m H' => m = ds.length - i ∧ i ≤ ds.length ∧ ∃ Hi' Γ' acc, Ext Hi1 Hi' ∧ Γ'.length = σ.length ∧ Rel G C Hi' (L2.wipe σ vs ++ [some (.ref Dp)]) H' (Γ' ++ [.ow (.list acc)]) ∧
      lcW vs wg wt we (fun acc Γ2 => Qd (.ow (.list acc)) (restE Γ1 Γ2 vs)) (ds.drop i) acc Γ',
    ⟨ds.length, by simp, Nat.zero_le _, Hi1, _, [], Ext.refl _, by rw [wipeE_length]; exact c1.len, c3, q⟩, ?_⟩
  rintro i m H2 ⟨rfl, hil, Hi2, Γ2, acc, e2, hl2, c2, q2⟩
  have hl2' : Γ2.length = (L2.wipe σ vs).length := by rw [wipe_length]; exact hl2
  by_cases hlt : i < ds.length
  · have hd : ds.drop i = ds[i] :: ds.drop (i + 1) := List.drop_eq_getElem_cons hlt
    rw [hd] at q2
    refine .inr ⟨it.go Hi2 H2 i e2 c2.imm hlt, fun H' => ∃ Hi' Γ' acc, Ext Hi1 Hi' ∧ Γ'.length = σ.length ∧ Rel G C Hi' (L2.wipe σ vs ++ [some (.ref Dp)]) H' (Γ' ++ [.ow (.list acc)]) ∧
      lcW vs wg wt we (fun acc Γ2 => Qd (.ow (.list acc)) (restE Γ1 Γ2 vs)) (ds.drop (i + 1)) acc Γ', fun H' z => ⟨ds.length - (i + 1), by omega, rfl, hlt, z⟩, fun x H3 y => ?_⟩
    obtain ⟨Hi3, e3, k3, im3, ov3, r3⟩ := it.yld Hi2 H2 i x H3 ds[i] e2 c2.imm (List.getElem?_eq_getElem hlt) y
    obtain ⟨fp, c4⟩ := c2.grow k3 e3 im3 ov3
    have f3 := e2.trans e3
    refine hg _ Hi3 (L2.wipe σ vs) H3 Γ2 x _ _ _ ⟨_, c4.aside hl2'⟩ r3 q2 fun σ5 Γ5 c5 w5 q5 => ?_
    have w5' : L2.wipe σ5 vs = L2.wipe σ vs := w5.trans (wipe_wipe vs)
    have l5 : σ5.length = σ.length := by
      have := congrArg List.length w5'
      rw [wipe_length, wipe_length] at this
      exact this
    have hv5 : ∀ v ∈ vs, v < σ5.length := fun v hv => by rw [l5]; exact hvl v hv
    refine ⟨w5.trans (by rw [wipe_wipe]), ht _ Hi3 σ5 H3 Γ5 _ _ noX c5 q5 (fun b H6 Hi6 Γ6 e6 c6 q6 => ?_) fun _ _ _ _ _ _ _ _ _ z => z.elim⟩
    cases b with
    | false =>
      obtain ⟨fp6, c6⟩ := c6
      have c9 := (c4.back hl2' plain1 e6 c6).wipe vs
      rw [wipe_append hv5, wipeE_append (fun v hv => by rw [c6.len]; exact hv5 v hv), w5'] at c9
      exact ⟨Hi6, _, acc, f3.trans e6, by rw [wipeE_length, c6.len, l5], c9, q6⟩
    | true =>
      refine he _ Hi6 σ5 H6 Γ6 _ _ noX c6 q6 (fun v7 r7 H7 Hi7 Γ7 e7 o7 q7 => ?_) fun _ _ _ _ _ _ _ _ _ z => z.elim
      obtain ⟨d, Hi8, Γ8, e8, c8, r8, hz, q8⟩ := o7.share q7
      obtain ⟨fp8, c8⟩ := c8
      have f8 := (e6.trans e7).trans e8
      have c9 := c4.back hl2' plain1 f8 c8
      have hat : (Γ8 ++ [Sl.ow (.list acc)])[Γ8.length]? = some (.ow (.list acc)) := by simp
      obtain ⟨p, hp, ow⟩ := c9.at_ow hat
      have ep : p = Dp := by
        rw [c8.len] at hp
        simpa using hp.symm
      subst ep
      cases ow with
      | lst hl rl =>
        refine ⟨_, hl, by rw [rl.length]; exact hz, ?_⟩
        have c10 := c9.write hat hp (d' := .list (acc ++ [d])) (.lst upd_same (rl.append (.one r8)))
        have e10 : (Γ8 ++ [Sl.ow (.list acc)]).set Γ8.length (.ow (.list (acc ++ [d]))) = Γ8 ++ [.ow (.list (acc ++ [d]))] := by simp
        rw [e10] at c10
        have c11 := c10.wipe vs
        rw [wipe_append hv5, wipeE_append (fun v hv => by rw [c8.len]; exact hv5 v hv), w5'] at c11
        exact ⟨Hi8, _, acc ++ [d], f3.trans f8, by rw [wipeE_length, c8.len, l5], c11, q8⟩
  · have e : i = ds.length := by omega
    subst e
    rw [List.drop_length] at q2
    refine .inl ⟨it.stop Hi2 H2 _ e2 c2.imm (Nat.le_refl _), hQ (.ref Dp) (.ow (.list acc)) H2 Hi2 _ e2 ⟨by rw [restE_length]; exact hl2, ?_⟩ q2⟩
    exact Rel.unwipe c1 e2 rfl vs ok nd hl2 c2

theorem sim_lc {ti : TI} {wi : WI} {g : TG} {wg : WG} {tt : TT} {wt : WT} {te : TE} {we : WE} {vs : List Nat} (nd : vs.Nodup) (hi : SimI G W ti wi) (hg : SimGw G g wg vs) (ht : SimT G noW tt wt) (he : SimE G noW te we) :
    SimE G W (tLc ti g tt te vs) (wLc vs wi wg wt we) := by
  intro C Hi σ H Γ Q Qd Xd c hw hQ hX
  exact hi C Hi σ H Γ _ _ Xd c hw (fun J ds H1 Hi1 Γ1 e1 c1 it q => lc_run nd hg ht he c1 it q.1 q.2 fun v r H' Hi' Γ' e o q => hQ v r H' Hi' Γ' (e1.trans e) o q) hX

/-! ### dict comprehensions -/
def dcW (vs : List Nat) (g : WG) (t : WT) (wk wv : WE) (k : List (D × D) → Ev → Prop) : List PyData → List (D × D) → Ev → Prop
  | [], acc, Γ => k acc Γ
  | d :: ds, acc, Γ => g d Γ fun Γ1 => t Γ1 (fun b Γ2 => if b = true then wk Γ2 (fun rk Γ3 => wv Γ3 (fun rv Γ4 => frW rk Γ4 fun ek Γ5 => frW rv Γ5 fun e Γ6 => isK ek (acc.length < sizeLine ∧ dcW vs g t wk wv k ds (dput acc ek e) (wipeE Γ6 vs))) noX) noX
      else dcW vs g t wk wv k ds acc (wipeE Γ2 vs)) noX
def wDc (vs : List Nat) (wi : WI) (g : WG) (t : WT) (wk wv : WE) : WE := fun Γ Q X => wi Γ (fun ds Γ1 => okW Γ1 vs ∧ dcW vs g t wk wv (fun acc Γ2 => Q (.ow (.dict acc)) (restE Γ1 Γ2 vs)) ds [] (wipeE Γ1 vs)) X
theorem sim_dc {ti : TI} {wi : WI} {g : TG} {wg : WG} {tt : TT} {wt : WT} {tk tv : TE} {wk wv : WE} {vs : List Nat} (nd : vs.Nodup) (hi : SimI G W ti wi) (hg : SimGw G g wg vs) (ht : SimT G noW tt wt) (hk : SimE G noW tk wk) (hv : SimE G noW tv wv) :
    SimE G W (tDc ti g tt tk tv vs) (wDc vs wi wg wt wk wv) := by
  intro C Hi σ H Γ Q Qd Xd c hw hQ hX
  refine hi C Hi σ H Γ _ _ Xd c hw (fun J ds H1 Hi1 Γ1 e1 c1 it q => ?_) hX
  obtain ⟨ok, q⟩ := q
  intro Dp hD
  have hvl : ∀ v ∈ vs, v < σ.length := fun v hv => by rw [← c1.len]; exact (okW_lt ok v hv).1
  have c3 := (c1.wipe vs).alloc hD (d := .dict []) (.dct upd_same .nil)
  refine ⟨fun i m H' => m = ds.length - i ∧ i ≤ ds.length ∧ ∃ Hi' Γ' acc, Ext Hi1 Hi' ∧ Γ'.length = σ.length ∧ Rel G C Hi' (L2.wipe σ vs ++ [some (.ref Dp)]) H' (Γ' ++ [.ow (.dict acc)]) ∧
      dcW vs wg wt wk wv (fun acc Γ2 => Qd (.ow (.dict acc)) (restE Γ1 Γ2 vs)) (ds.drop i) acc Γ',
    ⟨ds.length, by simp, Nat.zero_le _, Hi1, _, [], Ext.refl _, by rw [wipeE_length]; exact c1.len, c3, q⟩, ?_⟩
  rintro i m H2 ⟨rfl, hil, Hi2, Γ2, acc, e2, hl2, c2, q2⟩
  have hl2' : Γ2.length = (L2.wipe σ vs).length := by rw [wipe_length]; exact hl2
  by_cases hlt : i < ds.length
  · have hd : ds.drop i = ds[i] :: ds.drop (i + 1) := List.drop_eq_getElem_cons hlt
    rw [hd] at q2
    refine .inr ⟨it.go Hi2 H2 i e2 c2.imm hlt, fun H' => ∃ Hi' Γ' acc, Ext Hi1 Hi' ∧ Γ'.length = σ.length ∧ Rel G C Hi' (L2.wipe σ vs ++ [some (.ref Dp)]) H' (Γ' ++ [.ow (.dict acc)]) ∧
      dcW vs wg wt wk wv (fun acc Γ2 => Qd (.ow (.dict acc)) (restE Γ1 Γ2 vs)) (ds.drop (i + 1)) acc Γ', fun H' z => ⟨ds.length - (i + 1), by omega, rfl, hlt, z⟩, fun x H3 y => ?_⟩
    obtain ⟨Hi3, e3, k3, im3, ov3, r3⟩ := it.yld Hi2 H2 i x H3 ds[i] e2 c2.imm (List.getElem?_eq_getElem hlt) y
    obtain ⟨fp, c4⟩ := c2.grow k3 e3 im3 ov3
    have f3 := e2.trans e3
    refine hg _ Hi3 (L2.wipe σ vs) H3 Γ2 x _ _ _ ⟨_, c4.aside hl2'⟩ r3 q2 fun σ5 Γ5 c5 w5 q5 => ?_
    have w5' : L2.wipe σ5 vs = L2.wipe σ vs := w5.trans (wipe_wipe vs)
    have l5 : σ5.length = σ.length := by
      have := congrArg List.length w5'
      rw [wipe_length, wipe_length] at this
      exact this
    have hv5 : ∀ v ∈ vs, v < σ5.length := fun v hv => by rw [l5]; exact hvl v hv
    refine ⟨w5.trans (by rw [wipe_wipe]), ht _ Hi3 σ5 H3 Γ5 _ _ noX c5 q5 (fun b H6 Hi6 Γ6 e6 c6 q6 => ?_) fun _ _ _ _ _ _ _ _ _ z => z.elim⟩
    cases b with
    | false =>
      obtain ⟨fp6, c6⟩ := c6
      have c9 := (c4.back hl2' plain1 e6 c6).wipe vs
      rw [wipe_append hv5, wipeE_append (fun v hv => by rw [c6.len]; exact hv5 v hv), w5'] at c9
      exact ⟨Hi6, _, acc, f3.trans e6, by rw [wipeE_length, c6.len, l5], c9, q6⟩
    | true =>
      refine hk _ Hi6 σ5 H6 Γ6 _ _ noX c6 q6 (fun v7 r7 H7 Hi7 Γ7 e7 o7 q7 => ?_) fun _ _ _ _ _ _ _ _ _ z => z.elim
      obtain ⟨Hi8, e8, c8, h8⟩ := o7.hold
      refine hv _ Hi8 σ5 H7 Γ7 _ _ noX c8 q7 (fun v9 r9 H9 Hi9 Γ9 e9 o9 q9 => ?_) fun _ _ _ _ _ _ _ _ _ z => z.elim
      obtain ⟨Hi10, e10, c10, h10⟩ := o9.hold
      obtain ⟨dk, Hi11, Γ11, e11, c11, r11, q11⟩ := (h8.mono (e9.trans e10)).share c10 q9
      obtain ⟨dv, Hi12, Γ12, e12, c12, r12, q12⟩ := (h10.mono e11).share c11 q11
      obtain ⟨⟨key, rfl⟩, hz, q13⟩ := isK_inv q12
      obtain ⟨fp8, c12⟩ := c12
      have f8 := ((((e6.trans e7).trans e8).trans e9).trans e10).trans (e11.trans e12)
      have c13 := c4.back hl2' plain1 f8 c12
      have hat : (Γ12 ++ [Sl.ow (.dict acc)])[Γ12.length]? = some (.ow (.dict acc)) := by simp
      obtain ⟨p, hp, ow⟩ := c13.at_ow hat
      have ep : p = Dp := by
        rw [c12.len] at hp
        simpa using hp.symm
      subst ep
      cases ow with
      | dct hl rl =>
        refine ⟨_, key, r11.key, hl, by rw [rl.length]; exact hz, ?_⟩
        have c14 := c13.write hat hp (d' := .dict (dput acc (kD key) dv)) (.dct upd_same (rl.put r12))
        have e14 : (Γ12 ++ [Sl.ow (.dict acc)]).set Γ12.length (.ow (.dict (dput acc (kD key) dv))) = Γ12 ++ [.ow (.dict (dput acc (kD key) dv))] := by simp
        rw [e14] at c14
        have c15 := c14.wipe vs
        rw [wipe_append hv5, wipeE_append (fun v hv => by rw [c12.len]; exact hv5 v hv), w5'] at c15
        exact ⟨Hi12, _, _, f3.trans f8, by rw [wipeE_length, c12.len, l5], c15, q13⟩
  · have e : i = ds.length := by omega
    subst e
    rw [List.drop_length] at q2
    refine .inl ⟨it.stop Hi2 H2 _ e2 c2.imm (Nat.le_refl _), hQ (.ref Dp) (.ow (.dict acc)) H2 Hi2 _ (e1.trans e2) ⟨by rw [restE_length]; exact hl2, ?_⟩ q2⟩
    exact Rel.unwipe c1 e2 rfl vs ok nd hl2 c2
end
end VL

set_option Elab.async false
set_option linter.all false
set_option maxRecDepth 100000
/-! VCall: what a def promises in the value layer; its body; its calls. -/
namespace VL
open PySem L2

/-- a def, by data: the thing handed in to be changed (if there is one), the other arguments; the answer and the thing behind it; an exception -/
abbrev FS := Option Sl → List D → (R → Option Sl → Prop) → (Exn → Option Sl → Prop) → Prop

section
variable {G : Gb} {C : Cf} {Hi Hi' H H' : Hp} {σ : St} {Γ : Ev} {W : WX}
def IoOne (G : Gb) (Hi H : Hp) : Sl → Addr → List Addr → Prop
  | .io d, p, fp => fp = [p] ∧ Own G.K Hi H p d
  | .op t d, p, fp => t < 10 ∧ G.Op.ok t d Hi H p fp
  | _, _, _ => False
/-- by what a thing that is handed in is known -/
def keyS : Sl → Nat
  | .io _ => 100
  | .op t _ => t
  | _ => 200
def IoAt (G : Gb) (Hi H : Hp) : Option Sl → List V → List Addr → Prop
  | none, pre, fp => pre = [] ∧ fp = []
  | some (.io d), pre, fp => ∃ p, pre = [.ref p] ∧ fp = [p] ∧ Own G.K Hi H p d
  | some (.op t d), pre, fp => t < 10 ∧ ∃ p, pre = [.ref p] ∧ G.Op.ok t d Hi H p fp
  | some (.two a b), pre, fp => ∃ p1 p2 f1 f2, pre = [.ref p1, .ref p2] ∧ fp = f1 ++ f2 ∧ IoOne G Hi H a p1 f1 ∧ IoOne G Hi H b p2 f2 ∧ (∀ x ∈ f1, x ∉ f2) ∧ keyS a ≠ keyS b
  | _, _, _ => False
def ResAt (G : Gb) (Hi H H' : Hp) (fp : List Addr) (v : V) : R → Prop
  | .sh d => Rep G.K Hi v d
  | .ow d => ∃ p, v = .ref p ∧ Own G.K Hi H' p d ∧ Hi p = none ∧ H p = none ∧ p ∉ fp
  | .vr _ => False
  | .op t d => 10 ≤ t ∧ ∃ p fp2, v = .ref p ∧ G.Op.ok t d Hi H' p fp2 ∧ ∀ a ∈ fp2, Hi a = none ∧ H a = none ∧ a ∉ fp
/-- what a call leaves: nothing but the cells at fp changed, the immutable part grown by new things, the thing handed in at fp' -/
structure Left (G : Gb) (Hi H : Hp) (pre : List V) (fp : List Addr) (Hi' H' : Hp) (io : Option Sl) (fp' : List Addr) : Prop where
  e : Ext Hi Hi'
  imm : Ext Hi' H'
  ov : ∀ a o, Hi' a = some o → Hi a = some o ∨ H a = none
  keep : ∀ a o, H a = some o → a ∉ fp → H' a = some o
  live : ∀ a, H a ≠ none → H' a ≠ none
  at_ : IoAt G Hi' H' io pre fp'
  cells : ∀ a ∈ fp', Hi' a = none ∧ (a ∈ fp ∨ H a = none)
def lift (G : Gb) (fs : FS) : Sp := fun vs H Q E => ∃ (io : Option Sl) (ds : List D) (Hi : Hp) (Qd : R → Option Sl → Prop) (Xd : Exn → Option Sl → Prop) (pre post : List V) (fp : List Addr),
  vs = pre ++ post ∧ IoAt G Hi H io pre fp ∧ Reps G.K Hi post ds ∧ Ext Hi H ∧ (∀ a ∈ fp, Hi a = none) ∧ fs io ds Qd Xd ∧
  (∀ v r H' Hi' io' fp', Left G Hi H pre fp Hi' H' io' fp' → ResAt G Hi' H H' fp' v r → Qd r io' → Q v H') ∧
  (∀ x c d H' Hi' io' fp', Left G Hi H pre fp Hi' H' io' fp' → G.xr x c d Hi' → Xd x io' → E c d H')

/-! ### the body -/
def ioL : Option Sl → Ev
  | none => []
  | some (.two a b) => [a, b]
  | some s => [s]
def Γ0 (io : Option Sl) (ds : List D) (n : Nat) : Ev := ioL io ++ ds.map Sl.sh ++ List.replicate (n - (ioL io ++ ds.map Sl.sh).length) .no
def ioOf (io : Option Sl) (Γ : Ev) : Option Sl := match io with
  | none => none
  | some (.two _ _) => (match Γ[0]?, Γ[1]? with
    | some a, some b => some (.two a b)
    | _, _ => none)
  | some _ => Γ[0]?
/-- what a return hands out -/
def retW (r : R) (Γ : Ev) (k : R → Ev → Prop) : Prop := match r with
  | .sh d => k (.sh d) Γ
  | .ow d => k (.ow d) Γ
  | .vr i => match Γ[i]? with
    | some (.sh d) => k (.sh d) Γ
    | some (.ow d) => k (.ow d) (Γ.set i .no)
    | some (.op t d) => 10 ≤ t ∧ k (.op t d) (Γ.set i .no)
    | _ => False
  | .op t d => 10 ≤ t ∧ k (.op t d) Γ
def SameOne : Sl → Sl → Prop
  | .io _, .io _ => True
  | .op t _, .op u _ => t = u
  | _, _ => False
/-- the thing handed in is still that thing -/
def SameIo : Option Sl → Option Sl → Prop
  | none, none => True
  | some (.io _), some (.io _) => True
  | some (.op t _), some (.op u _) => t = u
  | some (.two a b), some (.two c d) => SameOne a c ∧ SameOne b d
  | _, _ => False
def FnV (fs : FS) (n : Nat) (ws : WS) : Prop := ∀ (io : Option Sl) (ds : List D) (Qd : R → Option Sl → Prop) (Xd : Exn → Option Sl → Prop), fs io ds Qd Xd →
  ws (Γ0 io ds n) ⟨fun Γ => SameIo io (ioOf io Γ) ∧ Qd (.sh .none) (ioOf io Γ), fun r Γ => retW r Γ fun r' Γ' => SameIo io (ioOf io Γ') ∧ Qd r' (ioOf io Γ'), fun _ => False, fun _ => False⟩ fun x Γ => SameIo io (ioOf io Γ) ∧ Xd x (ioOf io Γ)
def FnL (fs : FS) (m : Nat) : Prop := ∀ io ds Qd Xd, fs io ds Qd Xd → (ioL io ++ ds.map Sl.sh).length = m
theorem lift_len {fs : FS} {m : Nat} (h : FnL fs m) {vs : List V} {Q : VK} {E : XK} (l : lift G fs vs H Q E) : vs.length = m := by
  obtain ⟨io, ds, Hi, Qd, Xd, pre, post, fp, rfl, hio, hr, _, _, hf, _⟩ := l
  have := h io ds Qd Xd hf
  rw [← this, List.length_append, List.length_append, List.length_map, hr.length]
  congr 1
  cases io with
  | none => obtain ⟨rfl, _⟩ := hio; rfl
  | some s =>
    cases s with
    | io d => obtain ⟨p, rfl, _⟩ := hio; rfl
    | op t d => obtain ⟨_, p, rfl, _⟩ := hio; rfl
    | two a b => obtain ⟨p1, p2, f1, f2, rfl, _⟩ := hio; rfl
    | _ => exact hio.elim
theorem IoOne.trk {s : Sl} {p : Addr} {fp : List Addr} (h : IoOne G Hi H s p fp) : ∀ a ∈ fp, ∃ o, H a = some o := by
  cases s with
  | io d =>
    obtain ⟨rfl, ow⟩ := h
    intro a ha
    have : a = p := by simpa using ha
    rw [this]; exact ow.trk
  | op t d => exact G.Op.trk h.2
  | _ => exact h.elim
theorem IoAt.trk {io : Option Sl} {pre : List V} {fp : List Addr} (h : IoAt G Hi H io pre fp) : ∀ a ∈ fp, ∃ o, H a = some o := by
  cases io with
  | none => obtain ⟨_, rfl⟩ := h; intro a ha; cases ha
  | some s =>
    cases s with
    | io d =>
      obtain ⟨p, _, rfl, ow⟩ := h
      intro a ha
      have : a = p := by simpa using ha
      rw [this]; exact ow.trk
    | op t d => obtain ⟨_, p, _, ok⟩ := h; exact G.Op.trk ok
    | two a b =>
      obtain ⟨p1, p2, f1, f2, _, rfl, h1, h2, _⟩ := h
      intro a ha
      rcases List.mem_append.mp ha with ha | ha
      · exact h1.trk a ha
      · exact h2.trk a ha
    | _ => exact h.elim
/-- where a def begins -/
def cfOf (Hi H : Hp) (io : Option Sl) (pre : List V) (fp : List Addr) (h : ∀ a ∈ fp, ∃ o, H a = some o) : Cf :=
  ⟨H, Hi, fun a => a ∈ fp, fun a ha => by obtain ⟨o, e⟩ := h a ha; rw [e]; simp, fun t => match io, pre with
    | some (.op u _), [.ref p] => if t = u then some p else none
    | some (.io _), [.ref p] => if t = 100 then some p else none
    | some (.two a b), [.ref p, .ref q] => if t = keyS a then some p else if t = keyS b then some q else none
    | _, _ => none⟩
theorem slots_sh {C : Cf} : ∀ {vs : List V} {ds : List D}, Reps G.K Hi vs ds → ∀ (i : Nat) s, (ds.map Sl.sh)[i]? = some s → ∃ x, (vs.map some)[i]? = some x ∧ SlOk G C Hi H x [] s := by
  intro vs ds r i s h
  rw [List.getElem?_map] at h
  cases q : ds[i]? with
  | none => rw [q] at h; cases h
  | some d =>
    rw [q] at h; cases h
    obtain ⟨v, h1, h2⟩ := r.get q
    exact ⟨some v, by rw [List.getElem?_map, h1]; rfl, rfl, v, rfl, h2⟩
theorem begin_sh (C : Cf) (hC : C.H0 = H) (hI : C.I0 = Hi) {vs : List V} {ds : List D} (r : Reps G.K Hi vs ds) (im : Ext Hi H) : Core G C Hi (vs.map some) H (ds.map Sl.sh) fun _ => [] := by
  subst hC hI
  exact ⟨fun a o h _ => h, fun a h => h, im, Ext.refl _, fun a o h => .inl h, by simp [r.length], slots_sh r, fun i j a _ _ h => (nomatch h), fun i a _ h => (nomatch h)⟩
theorem Core.front {C : Cf} {x : Option V} {l : List Addr} {s : Sl} {fp : Nat → List Addr} (c : Core G C Hi σ H Γ fp) (ok : SlOk G C Hi H x l s) (nw : ∀ a ∈ l, Hi a = none ∧ ∀ j, j < Γ.length → a ∉ fp j) :
    Core G C Hi (x :: σ) H (s :: Γ) (fun j => match j with | 0 => l | j + 1 => fp j) := by
  refine ⟨c.frame, c.live, c.imm, c.base, c.ov, by simp [c.len], fun j s' h => ?_, fun i j a hi hj h1 h2 => ?_, fun i a hi h => ?_⟩
  · cases j with
    | zero => simp at h; subst h; exact ⟨x, rfl, ok⟩
    | succ j =>
      obtain ⟨y, h1, h2⟩ := c.sl j s' (by simpa using h)
      exact ⟨y, by simpa using h1, h2⟩
  · cases i with
    | zero =>
      cases j with
      | zero => rfl
      | succ j => exact absurd h2 ((nw a h1).2 j (by simpa using hj))
    | succ i =>
      cases j with
      | zero => exact absurd h1 ((nw a h2).2 i (by simpa using hi))
      | succ j => exact congrArg (· + 1) (c.dj i j a (by simpa using hi) (by simpa using hj) h1 h2)
  · cases i with
    | zero => exact (nw a h).1
    | succ i => exact c.av i a (by simpa using hi) h
theorem Rel.more {C : Cf} (c : Rel G C Hi σ H Γ) : ∀ n : Nat, Rel G C Hi (σ ++ List.replicate n none) H (Γ ++ List.replicate n .no)
  | 0 => by simpa using c
  | n + 1 => by
    rw [List.replicate_succ', List.replicate_succ', ← List.append_assoc, ← List.append_assoc]
    obtain ⟨fp, c'⟩ := c.more n
    exact ⟨_, c'.push (l := []) (Ext.refl _) rfl fun a ha => (nomatch ha)⟩
theorem begin_rel {io : Option Sl} {pre post : List V} {ds : List D} {fp : List Addr} (hio : IoAt G Hi H io pre fp) (r : Reps G.K Hi post ds) (im : Ext Hi H) (av : ∀ a ∈ fp, Hi a = none) :
    Rel G (cfOf Hi H io pre fp hio.trk) Hi ((pre ++ post).map some) H (ioL io ++ ds.map Sl.sh) := by
  have sh0 := begin_sh (cfOf Hi H io pre fp hio.trk) rfl rfl r im
  cases io with
  | none =>
    obtain ⟨rfl, _⟩ := hio
    exact ⟨_, sh0⟩
  | some s =>
    cases s with
    | io d =>
      obtain ⟨p, rfl, rfl, ow⟩ := id hio
      exact ⟨_, sh0.front (x := some (.ref p)) (l := [p]) (s := .io d) ⟨p, rfl, rfl, ow, show p ∈ [p] from List.mem_singleton.mpr rfl, fun q hq => by
        have hq : (if 100 = 100 then some p else none) = some q := hq
        rw [if_pos rfl] at hq
        exact Option.some.inj hq⟩ fun a ha => ⟨av a ha, fun j _ h => (nomatch h)⟩⟩
    | op t d =>
      obtain ⟨ht, p, rfl, ok⟩ := id hio
      refine ⟨_, sh0.front (x := some (.ref p)) (l := fp) (s := .op t d) ⟨p, rfl, ok, fun a ha => .inr ⟨by assumption, ha⟩, fun q _ hq => ?_⟩ fun a ha => ⟨av a ha, fun j _ h => (nomatch h)⟩⟩
      have hq : (if t = t then some p else none) = some q := hq
      rw [if_pos rfl] at hq
      exact Option.some.inj hq
    | two a b =>
      obtain ⟨p1, p2, f1, f2, rfl, rfl, h1, h2, dj, ky⟩ := id hio
      have pa1 : ∀ q, (cfOf Hi H (some (.two a b)) [.ref p1, .ref p2] (f1 ++ f2) hio.trk).pa (keyS a) = some q → p1 = q := fun q hq => by
        have hq : (if keyS a = keyS a then some p1 else if keyS a = keyS b then some p2 else none) = some q := hq
        rw [if_pos rfl] at hq
        exact Option.some.inj hq
      have pa2 : ∀ q, (cfOf Hi H (some (.two a b)) [.ref p1, .ref p2] (f1 ++ f2) hio.trk).pa (keyS b) = some q → p2 = q := fun q hq => by
        have hq : (if keyS b = keyS a then some p1 else if keyS b = keyS b then some p2 else none) = some q := hq
        rw [if_neg (Ne.symm ky), if_pos rfl] at hq
        exact Option.some.inj hq
      have mk : ∀ (s : Sl) (p : Addr) (f : List Addr), IoOne G Hi H s p f → (∀ x ∈ f, x ∈ f1 ++ f2) → (∀ q, (cfOf Hi H (some (.two a b)) [.ref p1, .ref p2] (f1 ++ f2) hio.trk).pa (keyS s) = some q → p = q) → SlOk G (cfOf Hi H (some (.two a b)) [.ref p1, .ref p2] (f1 ++ f2) hio.trk) Hi H (some (.ref p)) f s := fun s p f h hf hp => by
        cases s with
        | io d =>
          obtain ⟨rfl, ow⟩ := h
          exact ⟨p, rfl, rfl, ow, hf p (List.mem_singleton.mpr rfl), hp⟩
        | op t d => exact ⟨p, rfl, h.2, fun x hx => .inr ⟨h.1, hf x hx⟩, fun q _ hq => hp q hq⟩
        | _ => exact h.elim
      have c2 := sh0.front (x := some (.ref p2)) (l := f2) (s := b) (mk b p2 f2 h2 (fun x hx => List.mem_append_right _ hx) pa2) fun x hx => ⟨av x (List.mem_append_right _ hx), fun j _ h => (nomatch h)⟩
      have c1 := c2.front (x := some (.ref p1)) (l := f1) (s := a) (mk a p1 f1 h1 (fun x hx => List.mem_append_left _ hx) pa1) fun x hx => ⟨av x (List.mem_append_left _ hx), fun j _ h => by
        cases j with
        | zero => exact dj x hx h
        | succ j => exact nomatch h⟩
      exact ⟨_, c1⟩
    | _ => exact hio.elim
/-- what stands at the end, for the caller -/
theorem end_left {io : Option Sl} {pre : List V} {fp : List Addr} {Γ' : Ev} {σ' : St} {fpf : Nat → List Addr} (hio : IoAt G Hi H io pre fp) {h : ∀ a ∈ fp, ∃ o, H a = some o} (c : Core G (cfOf Hi H io pre fp h) Hi' σ' H' Γ' fpf) (e : Ext Hi Hi')
    (h0 : SameIo io (ioOf io Γ')) : ∃ fp', Left G Hi H pre fp Hi' H' (ioOf io Γ') fp' ∧ ∀ a ∈ fp', ∃ j, j < Γ'.length ∧ a ∈ fpf j := by
  have base : ∀ fp', IoAt G Hi' H' (ioOf io Γ') pre fp' → (∀ a ∈ fp', Hi' a = none ∧ (a ∈ fp ∨ H a = none)) → Left G Hi H pre fp Hi' H' (ioOf io Γ') fp' := fun fp' ia ce =>
    ⟨e, c.imm, c.ov, fun a o q n => c.frame a o q n, c.live, ia, ce⟩
  have cell : ∀ j, j < Γ'.length → ∀ a ∈ fpf j, Hi' a = none ∧ (a ∈ fp ∨ H a = none) := fun j hj a ha => ⟨c.av j a hj ha, by
    rcases c.home hj ha with q | q
    · exact .inr q
    · exact .inl q⟩
  have single : ∀ s0, io = some s0 → (∀ a b, s0 ≠ .two a b) → ioOf io Γ' = Γ'[0]? → ∃ fp', Left G Hi H pre fp Hi' H' (ioOf io Γ') fp' ∧ ∀ a ∈ fp', ∃ j, j < Γ'.length ∧ a ∈ fpf j := by
    rintro s0 rfl hne ei
    cases hs : Γ'[0]? with
    | none =>
      rw [ei, hs] at h0
      cases s0 <;> exact h0.elim
    | some s =>
      have h0l : 0 < Γ'.length := (List.getElem?_eq_some_iff.mp hs).1
      obtain ⟨x, hx, ok⟩ := c.sl 0 s hs
      refine ⟨fpf 0, base _ ?_ (cell 0 h0l), fun a ha => ⟨0, h0l, ha⟩⟩
      rw [ei, hs]
      rw [ei, hs] at h0
      cases s0 with
      | io d0 =>
        cases s with
        | io d =>
          obtain ⟨p, rfl, rfl, _⟩ := id hio
          obtain ⟨p', e0, e1, ow, hio', _⟩ := ok
          have : p' = p := by
            have z : p' ∈ [p] := hio'
            simpa using z
          subst this
          exact ⟨p', rfl, e0, ow⟩
        | _ => exact h0.elim
      | op t0 d0 =>
        cases s with
        | op t d =>
          obtain ⟨ht, p, rfl, _⟩ := id hio
          obtain ⟨p', e1, ok', _, hpa⟩ := ok
          have h0 : t0 = t := h0
          subst h0
          have : p' = p := hpa p ht (show (if t0 = t0 then some p else none) = some p from if_pos rfl)
          subst this
          exact ⟨ht, p', rfl, ok'⟩
        | _ => exact h0.elim
      | two a b => exact absurd rfl (hne a b)
      | _ => exact h0.elim
  cases io with
  | none =>
    obtain ⟨rfl, rfl⟩ := id hio
    exact ⟨[], base [] ⟨rfl, rfl⟩ (fun a ha => (nomatch ha)), fun a ha => (nomatch ha)⟩
  | some s0 =>
    cases s0 with
    | two a b =>
      obtain ⟨p1, p2, f1, f2, rfl, rfl, h1, h2, dj, ky⟩ := id hio
      have ei : ioOf (some (.two a b)) Γ' = (match Γ'[0]?, Γ'[1]? with
        | some a, some b => some (.two a b)
        | _, _ => none) := rfl
      cases hs1 : Γ'[0]? with
      | none => rw [ei, hs1] at h0; exact h0.elim
      | some a' =>
        cases hs2 : Γ'[1]? with
        | none => rw [ei, hs1, hs2] at h0; exact h0.elim
        | some b' =>
          have l1 : 1 < Γ'.length := (List.getElem?_eq_some_iff.mp hs2).1
          have l0 : 0 < Γ'.length := by omega
          obtain ⟨x1, hx1, ok1⟩ := c.sl 0 a' hs1
          obtain ⟨x2, hx2, ok2⟩ := c.sl 1 b' hs2
          rw [ei, hs1, hs2] at h0
          have h0 : SameOne a a' ∧ SameOne b b' := h0
          have pa1 : (cfOf Hi H (some (.two a b)) [.ref p1, .ref p2] (f1 ++ f2) h).pa (keyS a) = some p1 := by
            show (if keyS a = keyS a then some p1 else if keyS a = keyS b then some p2 else none) = some p1
            rw [if_pos rfl]
          have pa2 : (cfOf Hi H (some (.two a b)) [.ref p1, .ref p2] (f1 ++ f2) h).pa (keyS b) = some p2 := by
            show (if keyS b = keyS a then some p1 else if keyS b = keyS b then some p2 else none) = some p2
            rw [if_neg (Ne.symm ky), if_pos rfl]
          have one : ∀ (s s' : Sl) (p : Addr) (f f' : List Addr) (x : Option V), IoOne G Hi H s p f → SameOne s s' → (cfOf Hi H (some (.two a b)) [.ref p1, .ref p2] (f1 ++ f2) h).pa (keyS s) = some p → SlOk G (cfOf Hi H (some (.two a b)) [.ref p1, .ref p2] (f1 ++ f2) h) Hi' H' x f' s' → IoOne G Hi' H' s' p f' ∧ keyS s = keyS s' := fun s s' p f f' x hs ss hp ok => by
            cases s with
            | io d =>
              cases s' with
              | io d' =>
                obtain ⟨p', e0, e1, ow, _, hpa⟩ := ok
                have : p' = p := hpa p hp
                subst this
                exact ⟨⟨e0, ow⟩, rfl⟩
              | _ => exact ss.elim
            | op t d =>
              cases s' with
              | op t' d' =>
                obtain ⟨p', e1, ok', _, hpa⟩ := ok
                have ss : t = t' := ss
                subst ss
                have : p' = p := hpa p hs.1 hp
                subst this
                exact ⟨⟨hs.1, ok'⟩, rfl⟩
              | _ => exact ss.elim
            | _ => exact hs.elim
          obtain ⟨o1, k1⟩ := one a a' p1 f1 (fpf 0) x1 h1 h0.1 pa1 ok1
          obtain ⟨o2, k2⟩ := one b b' p2 f2 (fpf 1) x2 h2 h0.2 pa2 ok2
          refine ⟨fpf 0 ++ fpf 1, base _ ?_ (fun x hx => ?_), fun x hx => ?_⟩
          · rw [ei, hs1, hs2]
            exact ⟨p1, p2, _, _, rfl, rfl, o1, o2, fun x hx hx' => (by have := c.dj 0 1 x l0 l1 hx hx'; omega), by rw [← k1, ← k2]; exact ky⟩
          · rcases List.mem_append.mp hx with hx | hx
            · exact cell 0 l0 x hx
            · exact cell 1 l1 x hx
          · rcases List.mem_append.mp hx with hx | hx
            · exact ⟨0, l0, hx⟩
            · exact ⟨1, l1, hx⟩
    | io d => exact single _ rfl (fun a b e => nomatch e) rfl
    | op t d => exact single _ rfl (fun a b e => nomatch e) rfl
    | _ => exact hio.elim

theorem Core.trunc {C : Cf} {σ2 : St} {Γ2 : Ev} {fp : Nat → List Addr} (c : Core G C Hi (σ ++ σ2) H (Γ ++ Γ2) fp) (hl : Γ.length = σ.length) : Core G C Hi σ H Γ fp := by
  refine ⟨c.frame, c.live, c.imm, c.base, c.ov, hl, fun j s h => ?_, fun i j a hi hj => c.dj i j a (by simp; omega) (by simp; omega), fun i a hi => c.av i a (by simp; omega)⟩
  have hj : j < Γ.length := (List.getElem?_eq_some_iff.mp h).1
  obtain ⟨x, h1, h2⟩ := c.sl j s (by rw [List.getElem?_append_left hj]; exact h)
  exact ⟨x, by rw [List.getElem?_append_left (by omega)] at h1; exact h1, h2⟩
/-- one slot more, its cells in no other -/
theorem Core.push2 {C : Cf} {x : Option V} {l : List Addr} {s : Sl} {fp : Nat → List Addr} (c : Core G C Hi σ H Γ fp) (sok : SlOk G C Hi H x l s) (nw : ∀ a ∈ l, Hi a = none ∧ ∀ j, j < Γ.length → a ∉ fp j) :
    Core G C Hi (σ ++ [x]) H (Γ ++ [s]) (fun j => if j = Γ.length then l else fp j) where
  frame := c.frame
  live := c.live
  imm := c.imm
  base := c.base
  ov := c.ov
  len := by simp [c.len]
  sl := fun j s' h => by
    by_cases hj : j < Γ.length
    · rw [List.getElem?_append_left hj] at h
      obtain ⟨y, h1, h2⟩ := c.sl j s' h
      refine ⟨y, by rw [List.getElem?_append_left (by rw [← c.len]; exact hj)]; exact h1, ?_⟩
      rw [if_neg (Nat.ne_of_lt hj)]
      exact h2
    · rw [List.getElem?_append_right (Nat.le_of_not_lt hj)] at h
      have hj0 : j - Γ.length = 0 := by
        have := (List.getElem?_eq_some_iff.mp h).1
        simp at this; omega
      rw [hj0] at h
      simp at h; subst h
      have : j = Γ.length := by omega
      subst this
      refine ⟨x, by rw [c.len]; simp, ?_⟩
      rw [if_pos rfl]; exact sok
  dj := fun j m a hj hm h1 h2 => by
    simp at hj hm
    by_cases ej : j = Γ.length <;> by_cases em : m = Γ.length
    · rw [ej, em]
    · rw [if_pos ej] at h1; rw [if_neg em] at h2
      exact absurd h2 ((nw a h1).2 m (by omega))
    · rw [if_neg ej] at h1; rw [if_pos em] at h2
      exact absurd h1 ((nw a h2).2 j (by omega))
    · rw [if_neg ej] at h1; rw [if_neg em] at h2
      exact c.dj j m a (by omega) (by omega) h1 h2
  av := fun j a hj h => by
    simp at hj
    by_cases ej : j = Γ.length
    · rw [if_pos ej] at h; exact (nw a h).1
    · rw [if_neg ej] at h; exact c.av j a (by omega) h
/-- what a def's return hands out, seen by its caller -/
theorem end_ret {io : Option Sl} {pre : List V} {fp : List Addr} {Γ' : Ev} {σ' : St} {v : V} {r : R} {k : R → Option Sl → Prop} (hio : IoAt G Hi H io pre fp) {h : ∀ a ∈ fp, ∃ o, H a = some o} (e : Ext Hi Hi')
    (o : Out G (cfOf Hi H io pre fp h) Hi' σ' H' Γ' v r) (q : retW r Γ' fun r' Γ2 => SameIo io (ioOf io Γ2) ∧ k r' (ioOf io Γ2)) :
    ∃ r' io' fp', Left G Hi H pre fp Hi' H' io' fp' ∧ ResAt G Hi' H H' fp' v r' ∧ k r' io' := by
  cases r with
  | sh d =>
    obtain ⟨⟨fpf, c⟩, rp⟩ := o
    obtain ⟨s, q⟩ := q
    obtain ⟨fp', L, _⟩ := end_left hio c e s
    exact ⟨.sh d, _, fp', L, rp, q⟩
  | ow d =>
    obtain ⟨hl, fpf, c⟩ := o
    obtain ⟨s, q⟩ := q
    obtain ⟨fp', L, hfp⟩ := end_left hio (c.trunc hl) e s
    obtain ⟨x, hx, p, f1, e1, ow, h0⟩ := c.sl Γ'.length (.ow d) (by simp)
    have hx : x = some v := by
      rw [hl] at hx
      simpa using hx.symm
    rw [hx] at e1
    cases e1
    have h0 : H p = none := h0
    refine ⟨.ow d, _, fp', L, ⟨p, rfl, ow, c.av Γ'.length p (by simp) (by rw [f1]; simp), h0, fun hm => ?_⟩, q⟩
    obtain ⟨j, hj, hm⟩ := hfp _ hm
    have := c.dj j Γ'.length p (by simp; omega) (by simp) hm (by rw [f1]; simp)
    omega
  | vr i =>
    obtain ⟨⟨fpf, c⟩, hv⟩ := o
    unfold retW at q
    dsimp only at q
    split at q
    · rename_i d ed
      obtain ⟨s, q⟩ := q
      obtain ⟨fp', L, _⟩ := end_left hio c e s
      obtain ⟨w, h1, h2⟩ := Rel.at_sh ⟨fpf, c⟩ ed
      rw [hv] at h1; cases h1
      exact ⟨.sh d, _, fp', L, h2, q⟩
    · rename_i d ed
      obtain ⟨s, q⟩ := q
      have hi : i < Γ'.length := (List.getElem?_eq_some_iff.mp ed).1
      obtain ⟨x, hx, p, f1, e1, ow, h0⟩ := c.sl i _ ed
      rw [hx] at hv
      cases hv
      cases e1
      have h0 : H p = none := h0
      have c2 := c.put (x := none) (l := []) (s := .no) hi rfl fun a ha => (nomatch ha)
      obtain ⟨fp', L, hfp⟩ := end_left hio c2 e s
      refine ⟨.ow d, _, fp', L, ⟨p, rfl, ow, c.av i p hi (by rw [f1]; simp), h0, fun hm => ?_⟩, q⟩
      obtain ⟨j, hj, hm⟩ := hfp _ hm
      by_cases h0i : j = i
      · rw [if_pos h0i] at hm; cases hm
      · rw [if_neg h0i] at hm
        exact h0i (c.dj j i p (by rw [List.length_set] at hj; exact hj) hi hm (by rw [f1]; simp))
    · rename_i t d ed
      obtain ⟨ht, s, q⟩ := q
      have hi : i < Γ'.length := (List.getElem?_eq_some_iff.mp ed).1
      obtain ⟨x, hx, p, e1, okk, hh, _⟩ := c.sl i _ ed
      rw [hx] at hv
      cases hv
      cases e1
      have c2 := c.put (x := none) (l := []) (s := .no) hi rfl fun a ha => (nomatch ha)
      obtain ⟨fp', L, hfp⟩ := end_left hio c2 e s
      refine ⟨.op t d, _, fp', L, ⟨ht, p, fpf i, rfl, okk, fun a ha => ⟨c.av i a hi ha, ?_, fun hm => ?_⟩⟩, q⟩
      · rcases hh a ha with z | ⟨z, _⟩
        · exact z
        · omega
      · obtain ⟨j, hj, hm⟩ := hfp _ hm
        by_cases h0i : j = i
        · rw [if_pos h0i] at hm; cases hm
        · rw [if_neg h0i] at hm
          exact h0i (c.dj j i a (by rw [List.length_set] at hj; exact hj) hi hm ha)
    · exact q.elim
  | op t d =>
    obtain ⟨hl, fpf, c⟩ := o
    obtain ⟨ht, s, q⟩ := q
    obtain ⟨fp', L, hfp⟩ := end_left hio (c.trunc hl) e s
    obtain ⟨x, hx, p, e1, okk, hh, _⟩ := c.sl Γ'.length (.op t d) (by simp)
    have hx : x = some v := by
      rw [hl] at hx
      simpa using hx.symm
    rw [hx] at e1
    cases e1
    refine ⟨.op t d, _, fp', L, ⟨ht, p, fpf Γ'.length, rfl, okk, fun a ha => ⟨c.av Γ'.length a (by simp) ha, ?_, fun hm => ?_⟩⟩, q⟩
    · rcases hh a ha with z | ⟨z, _⟩
      · exact z
      · omega
    · obtain ⟨j, hj, hm⟩ := hfp _ hm
      have := c.dj j Γ'.length a (by simp; omega) (by simp) hm ha
      omega
/-- a body's run, from its promise -/
theorem vbody {N : List Str} {fs : FS} {ws : WS} {t : TS} {vs : List V} {Q : VK} {E : XK} (hV : FnV fs N.length ws) (hs : SimS G (fun c d _ H => E c d H) t ws) (hsp : lift G fs vs H Q E) : t { nx := fun _ H' => Q .non H', rt := Q } (start N vs) H := by
  obtain ⟨io, ds, Hi, Qd, Xd, pre, post, fp, rfl, hio, hrep, im, av, hf, hQ, hX⟩ := hsp
  have c := (begin_rel hio hrep im av).more (N.length - (pre ++ post).length)
  have el : (pre ++ post).length = (ioL io ++ ds.map Sl.sh).length := by
    have := (begin_rel hio hrep im av).len
    rw [this, List.length_map]
  have eG : ioL io ++ ds.map Sl.sh ++ List.replicate (N.length - (pre ++ post).length) Sl.no = Γ0 io ds N.length := by rw [el]; rfl
  rw [eG] at c
  have wv := hV io ds Qd Xd hf
  exact hs _ Hi _ H _ _ _ _ c wv (fun σ' H' Hi' Γ' e c' ⟨s1, q⟩ => by
      obtain ⟨fpf, c'⟩ := c'
      obtain ⟨fp', L, _⟩ := end_left hio c' e s1
      exact hQ .non (.sh .none) H' Hi' _ fp' L .non q)
    (fun v r σ' H' Hi' Γ' e o q => by
      obtain ⟨r', io', fp', L, ra, q'⟩ := end_ret hio e o q
      exact hQ v r' H' Hi' io' fp' L ra q')
    (fun _ _ _ _ _ _ z => z.elim) (fun _ _ _ _ _ _ z => z.elim)
    (fun x c d σ' H' Hi' Γ' e c' hx ⟨s1, q⟩ => by
      obtain ⟨fpf, c'⟩ := c'
      obtain ⟨fp', L, _⟩ := end_left hio c' e s1
      exact hX x c d H' Hi' _ fp' L hx q)
/-- THE RULE for a def -/
theorem vfn {P : Program} {w : World} {K : Fg} {mg : Str → Option Value} {base : Heap} {x qual : Str} {params : Arguments} {body : List Stmt} {scope : Scope} {dvs : List V} {kws : List (Str × V)} {f : Addr} {fd : FuncData} {N ps : List Str} {k : Nat} {Op : OpSem} {ca : Str → Addr} {fs : FS} {ws : WS}
    (F : FunD K x qual params body scope dvs kws f fd) (S : FnScope N ps scope) (hL : FnL fs ps.length) (hV : FnV fs N.length ws)
    (hb : ∀ (cdv : Value) (A : Around) (outer : List Env) (s : Shared) (H : Hp) (E : XK), Room k (A.deeper (PyProof.Rows.envOfC qual scope s.heap.objs.size f cdv)) →
      ∃ t, PSs (cxOf (L2N.CX P w) P w K mg base N qual scope f cdv A outer s H E) body t ∧ SimS ⟨K, Op, ca⟩ (fun c d _ H => E c d H) t ws) : FnOk P w K mg base (L2N.CX P w) (k + 1) f fd ps (lift ⟨K, Op, ca⟩ fs) := by
  refine FunD.ok F S (fun vs H Q E h => lift_len hL h) fun cdv A outer s H vs Q E hr hsp => ?_
  obtain ⟨t, hp, hs⟩ := hb cdv A outer s H E hr
  exact ⟨t, hp, vbody hV hs hsp⟩

/-! ### calls -/
theorem Left.io_none {fp' : List Addr} {io' : Option Sl} (L : Left G Hi H [] [] Hi' H' io' fp') : io' = none := by
  have := L.at_
  cases io' with
  | none => rfl
  | some s =>
    cases s with
    | io d => obtain ⟨p, h, _⟩ := this; cases h
    | op t d => obtain ⟨_, p, h, _⟩ := this; cases h
    | two a b => obtain ⟨_, _, _, _, h, _⟩ := this; cases h
    | _ => exact this.elim
/-- f(e, ..): no thing handed in to be changed -/
def wCall (fs : FS) (dv : List D) (wa : WA) : WE := fun Γ Q X => wa Γ (fun rs Γ1 => frAll rs Γ1 fun ds Γ2 => fs none (ds ++ dv) (fun r _ => Q r Γ2) fun x _ => X x Γ2) X
theorem sim_callSD {fs : FS} {ta : TA} {wa : WA} {dvs : List V} {dv : List D} (hd : ∀ Hi, Reps G.K Hi dvs dv) (ha : SimA G W ta wa) : SimE G W (tCallSD (lift G fs) dvs (L2.WE W) ta) (wCall fs dv wa) := by
  intro C Hi σ H Γ Q Qd Xd c hw hQ hX
  refine ha C Hi σ H Γ _ _ Xd c hw (fun vs rs H1 Hi1 Γ1 e1 c1 h1 q1 => ?_) hX
  obtain ⟨ds, Hi2, Γ2, e2, c2, rp, q2⟩ := h1.share (Ext.refl _) c1 q1
  have f2 := e1.trans e2
  refine ⟨none, ds ++ dv, Hi2, _, _, [], vs ++ dvs, [], rfl, ⟨rfl, rfl⟩, rp.append (hd Hi2), c2.imm, fun a ha => (nomatch ha), q2, fun v r H' Hi' io' fp' L ra q => ?_, fun x cl d H' Hi' io' fp' L hx q => ?_⟩
  · have c3 := c2.grow (fun a o h => L.keep a o h (fun z => nomatch z)) L.e L.imm L.ov
    cases r with
    | sh d => exact hQ v (.sh d) H' Hi' Γ2 (f2.trans L.e) ⟨c3, ra⟩ q
    | vr i => exact ra.elim
    | ow d =>
      obtain ⟨p, rfl, ow, hn, h0, hnf⟩ := ra
      obtain ⟨fpc, c2⟩ := c2
      obtain ⟨n1, n2⟩ := c2.fresh h0
      have c4 := c2.grow (fun a o h => L.keep a o h (fun z => nomatch z)) L.e L.imm L.ov
      refine hQ _ (.ow d) H' Hi' Γ2 (f2.trans L.e) ⟨c4.len, _, c4.push2 (x := some (.ref p)) (l := [p]) (s := .ow d) ⟨p, rfl, rfl, ow, n2⟩ fun a ha => ?_⟩ q
      have : a = p := by simpa using ha
      subst this
      exact ⟨hn, fun j hj hm => by obtain ⟨o, z⟩ := c2.trk hj hm; rw [h0] at z; cases z⟩
    | op t d =>
      obtain ⟨ht, p, fp2, rfl, okk, hn⟩ := ra
      obtain ⟨fpc, c2⟩ := c2
      have c4 := c2.grow (fun a o h => L.keep a o h (fun z => nomatch z)) L.e L.imm L.ov
      refine hQ _ (.op t d) H' Hi' Γ2 (f2.trans L.e) ⟨c4.len, _, c4.push2 (x := some (.ref p)) (l := fp2) (s := .op t d) ⟨p, rfl, okk, fun a ha => .inl (c2.fresh (hn a ha).2.1).2, fun q hq => by omega⟩ fun a ha => ?_⟩ q
      exact ⟨(hn a ha).1, fun j hj hm => by obtain ⟨o, z⟩ := c2.trk hj hm; rw [(hn a ha).2.1] at z; cases z⟩
  · have c3 := c2.grow (fun a o h => L.keep a o h (fun z => nomatch z)) L.e L.imm L.ov
    exact hX x cl d H' Hi' Γ2 (f2.trans L.e) c3 hx q
theorem sim_callS {fs : FS} {ta : TA} {wa : WA} (ha : SimA G W ta wa) : SimE G W (tCallS (lift G fs) (L2.WE W) ta) (wCall fs [] wa) := by
  have h := sim_callSD (fs := fs) (dvs := []) (dv := []) (fun _ => .nil) ha
  intro C Hi σ H Γ Q Qd Xd c hw hQ hX
  have e : tCallSD (lift G fs) [] (L2.WE W) ta = tCallS (lift G fs) (L2.WE W) ta := by
    funext σ H Q
    show ta σ H _ = ta σ H _
    congr 1
    funext vs H1
    rw [List.append_nil]
  rw [← e]
  exact h C Hi σ H Γ Q Qd Xd c hw hQ hX
/-- the kind of a thing, handed in -/
def hand (t : Nat) : Nat := t % 10
theorem hand_lt (t : Nat) : hand t < 10 := Nat.mod_lt _ (by decide)
/-- the thing of the i-th slot, handed in to be changed -/
def ioW (i : Nat) (Γ : Ev) (k : Sl → (Option Sl → Ev) → Prop) : Prop := match Γ[i]? with
  | some (.ow d) => k (.io d) fun s => match s with
    | some (.io d') => Γ.set i (.ow d')
    | _ => Γ
  | some (.io d) => k (.io d) fun s => match s with
    | some (.io d') => Γ.set i (.io d')
    | _ => Γ
  | some (.op t d) => k (.op (hand t) d) fun s => match s with
    | some (.op _ d') => Γ.set i (.op t d')
    | _ => Γ
  | _ => False
def isOwn (Γ : Ev) (i : Nat) : Prop := match Γ[i]? with
  | some (.ow _) => True
  | some (.io _) => True
  | some (.op _ _) => True
  | _ => False
theorem Core.after {C : Cf} {fpf : Nat → List Addr} {i : Nat} {p : Addr} {s0 s1 : Sl} {io' : Option Sl} {fp' : List Addr} (c : Core G C Hi σ H Γ fpf) (h : Γ[i]? = some s0) (hp : σ[i]? = some (some (.ref p))) (L : Left G Hi H [.ref p] (fpf i) Hi' H' io' fp')
    (ok : SlOk G C Hi' H' (some (.ref p)) fp' s1) : Core G C Hi' σ H' (Γ.set i s1) (fun j => if j = i then fp' else fpf j) := by
  have hi : i < Γ.length := (List.getElem?_eq_some_iff.mp h).1
  have hs : σ.set i (some (.ref p)) = σ := by
    obtain ⟨hl, e1⟩ := List.getElem?_eq_some_iff.mp hp
    rw [← e1]; exact List.set_getElem_self hl
  have st := c.step (H' := H') (Hi' := Hi') (x := some (.ref p)) (l := fp') (s := s1) hi L.e (fun a o h n => L.keep a o h n) (fun a ha => by
      obtain ⟨o, z⟩ := c.trk hi ha
      exact L.live a (by rw [z]; simp)) L.imm
    (fun a o z => by
      rcases L.ov a o z with q | q
      · exact .inl q
      · exact .inr (c.fresh q).2) ok
    (fun a ha => ⟨(L.cells a ha).1, fun j hj hne hm => by
      rcases (L.cells a ha).2 with q | q
      · exact hne (c.dj j i a hj hi hm q)
      · obtain ⟨o, z⟩ := c.trk hj hm
        rw [q] at z; cases z⟩)
    (fun j a hj hne hm => by
      cases q : Hi' a with
      | none => rfl
      | some o =>
        rcases L.ov a o q with z | z
        · rw [c.av j a hj hm] at z; cases z
        · obtain ⟨u, hu⟩ := c.trk hj hm
          rw [z] at hu; cases hu)
  rw [hs] at st
  exact st
/-- where it stands, ahead of the call and behind it -/
theorem Core.ioAt {C : Cf} {fpf : Nat → List Addr} {i : Nat} {k : Sl → (Option Sl → Ev) → Prop} (c : Core G C Hi σ H Γ fpf) (h : ioW i Γ k) : ∃ p s0 s f, Γ[i]? = some s0 ∧ σ[i]? = some (some (.ref p)) ∧ IoAt G Hi H (some s) [.ref p] (fpf i) ∧ k s f ∧
    ∀ Hi' H' io' fp', Left G Hi H [.ref p] (fpf i) Hi' H' io' fp' → SameIo (some s) io' → Core G C Hi' σ H' (f io') (fun j => if j = i then fp' else fpf j) := by
  unfold ioW at h
  split at h
  · rename_i d e
    obtain ⟨x, hx, p, hf, e1, ow, h0⟩ := c.sl i _ e
    subst e1
    refine ⟨p, _, .io d, _, e, hx, ⟨p, rfl, hf, ow⟩, h, fun Hi' H' io' fp' L si => ?_⟩
    cases io' with
    | none => exact si.elim
    | some s =>
      cases s with
      | io d' =>
        obtain ⟨p', e2, e3, ow'⟩ := L.at_
        cases e2
        exact c.after e hx L ⟨p, e3, rfl, ow', h0⟩
      | _ => exact si.elim
  · rename_i d e
    obtain ⟨x, hx, p, hf, e1, ow, h0⟩ := c.sl i _ e
    subst e1
    refine ⟨p, _, .io d, _, e, hx, ⟨p, rfl, hf, ow⟩, h, fun Hi' H' io' fp' L si => ?_⟩
    cases io' with
    | none => exact si.elim
    | some s =>
      cases s with
      | io d' =>
        obtain ⟨p', e2, e3, ow'⟩ := L.at_
        cases e2
        exact c.after e hx L ⟨p, e3, rfl, ow', h0⟩
      | _ => exact si.elim
  · rename_i t d e
    obtain ⟨x, hx, p, e1, ok, hm, hpa⟩ := c.sl i _ e
    subst e1
    have hi : i < Γ.length := (List.getElem?_eq_some_iff.mp e).1
    refine ⟨p, _, .op (hand t) d, _, e, hx, ⟨hand_lt t, p, rfl, G.Op.hnd.mp ok⟩, h, fun Hi' H' io' fp' L si => ?_⟩
    cases io' with
    | none => exact si.elim
    | some s =>
      cases s with
      | op t' d' =>
        have si : hand t = t' := si
        subst si
        obtain ⟨_, p', e2, ok'⟩ := L.at_
        cases e2
        refine c.after e hx L ⟨p, rfl, G.Op.hnd.mpr ok', fun a ha => ?_, hpa⟩
        rcases (L.cells a ha).2 with q | q
        · exact hm a q
        · exact .inl (c.fresh q).2
      | _ => exact si.elim
  · exact h.elim
/-- f(x, e, ..): the thing of the i-th slot is handed in to be changed -/
def wCallIo (fs : FS) (i : Nat) (dv : List D) (wa : WA) : WE := fun Γ Q X => isOwn Γ i ∧ wa Γ (fun rs Γ1 => frAll rs Γ1 fun ds Γ2 => ioW i Γ2 fun s f => fs (some s) (ds ++ dv) (fun r io => SameIo (some s) io ∧ Q r (f io)) fun x io => SameIo (some s) io ∧ X x (f io)) X
theorem sim_callIoSD {fs : FS} {ta : TA} {wa : WA} {dvs : List V} {dv : List D} (i : Nat) (hd : ∀ Hi, Reps G.K Hi dvs dv) (ha : SimA G W ta wa) : SimE G W (tCallSD (lift G fs) dvs (L2.WE W) (tCons (tVar i) ta)) (wCallIo fs i dv wa) := by
  intro C Hi σ H Γ Q Qd Xd c hw hQ hX
  obtain ⟨ho, hw⟩ := hw
  have hp : ∃ p, σ[i]? = some (some (.ref p)) := by
    obtain ⟨fpc, c⟩ := c
    unfold isOwn at ho
    split at ho
    · rename_i d e
      obtain ⟨x, hx, p, _, e1, _⟩ := c.sl i _ e
      exact ⟨p, by rw [hx, e1]⟩
    · rename_i d e
      obtain ⟨x, hx, p, _, e1, _⟩ := c.sl i _ e
      exact ⟨p, by rw [hx, e1]⟩
    · rename_i t d e
      obtain ⟨x, hx, p, e1, _⟩ := c.sl i _ e
      exact ⟨p, by rw [hx, e1]⟩
    · exact ho.elim
  obtain ⟨p, hp⟩ := hp
  refine ⟨_, hp, ha C Hi σ H Γ _ _ Xd c hw (fun vs rs H1 Hi1 Γ1 e1 c1 h1 q1 => ?_) hX⟩
  obtain ⟨ds, Hi2, Γ2, e2, c2, rp, q2⟩ := h1.share (Ext.refl _) c1 q1
  have f2 := e1.trans e2
  obtain ⟨fpc, c2⟩ := c2
  obtain ⟨p', s0, s, f, hs0, hp', hio, q3, back⟩ := c2.ioAt q2
  rw [hp] at hp'; cases hp'
  have hi : i < Γ2.length := (List.getElem?_eq_some_iff.mp hs0).1
  refine ⟨some s, ds ++ dv, Hi2, _, _, [.ref p], vs ++ dvs, fpc i, rfl, hio, rp.append (hd Hi2), c2.imm, fun a ha => c2.av i a hi ha, q3, fun v r H' Hi' io' fp' L ra ⟨si, q⟩ => ?_, fun x cl d H' Hi' io' fp' L hx ⟨si, q⟩ => ?_⟩
  · have c3 := back _ _ _ _ L si
    cases r with
    | sh d => exact hQ v (.sh d) H' Hi' _ (f2.trans L.e) ⟨⟨_, c3⟩, ra⟩ q
    | vr i => exact ra.elim
    | ow d =>
      obtain ⟨p2, rfl, ow, hn, h0, hnf⟩ := ra
      obtain ⟨n1, n2⟩ := c2.fresh h0
      have hfl : (f io').length = Γ2.length := by rw [c3.len, c2.len]
      refine hQ _ (.ow d) H' Hi' _ (f2.trans L.e) ⟨c3.len, _, c3.push2 (x := some (.ref p2)) (l := [p2]) (s := .ow d) ⟨p2, rfl, rfl, ow, n2⟩ fun a ha => ?_⟩ q
      have : a = p2 := by simpa using ha
      subst this
      refine ⟨hn, fun j hj hm => ?_⟩
      by_cases hji : j = i
      · rw [if_pos hji] at hm; exact hnf hm
      · rw [if_neg hji] at hm
        obtain ⟨o, z⟩ := c2.trk (by rw [hfl] at hj; exact hj) hm; rw [h0] at z; cases z
    | op t d =>
      obtain ⟨ht, p2, fp2, rfl, okk, hn⟩ := ra
      have hfl : (f io').length = Γ2.length := by rw [c3.len, c2.len]
      refine hQ _ (.op t d) H' Hi' _ (f2.trans L.e) ⟨c3.len, _, c3.push2 (x := some (.ref p2)) (l := fp2) (s := .op t d) ⟨p2, rfl, okk, fun a ha => .inl (c2.fresh (hn a ha).2.1).2, fun q hq => by omega⟩ fun a ha => ?_⟩ q
      refine ⟨(hn a ha).1, fun j hj hm => ?_⟩
      by_cases hji : j = i
      · rw [if_pos hji] at hm; exact (hn a ha).2.2 hm
      · rw [if_neg hji] at hm
        obtain ⟨o, z⟩ := c2.trk (by rw [hfl] at hj; exact hj) hm; rw [(hn a ha).2.1] at z; cases z
  · exact hX x cl d H' Hi' _ (f2.trans L.e) ⟨_, back _ _ _ _ L si⟩ hx q
theorem sim_callIoS {fs : FS} {ta : TA} {wa : WA} (i : Nat) (ha : SimA G W ta wa) : SimE G W (tCallS (lift G fs) (L2.WE W) (tCons (tVar i) ta)) (wCallIo fs i [] wa) := by
  have h := sim_callIoSD (fs := fs) (dvs := []) (dv := []) i (fun _ => .nil) ha
  intro C Hi σ H Γ Q Qd Xd c hw hQ hX
  have e : tCallSD (lift G fs) [] (L2.WE W) (tCons (tVar i) ta) = tCallS (lift G fs) (L2.WE W) (tCons (tVar i) ta) := by
    funext σ H Q
    show tCons (tVar i) ta σ H _ = tCons (tVar i) ta σ H _
    congr 1
    funext vs H1
    rw [List.append_nil]
  rw [← e]
  exact h C Hi σ H Γ Q Qd Xd c hw hQ hX
end
end VL

set_option Elab.async false
set_option linter.all false
set_option maxRecDepth 100000
/-! VDe: a form of the text, its reading by the hand layer, what that is over data: all in one. -/
namespace VL
open PySem L2

structure DE (X : Cx) (G : Gb) (W : WX) (e : Expr) (t : TE) (w : WE) : Prop where
  pe : PE X e t
  sim : SimE G W t w
structure DT (X : Cx) (G : Gb) (W : WX) (e : Expr) (t : TT) (w : WT) : Prop where
  pe : PT X e t
  sim : SimT G W t w
/-- a chain of and, or as a test -/
structure DW (X : Cx) (G : Gb) (W : WX) (e : Expr) (t : TT) (w : WT) : Prop where
  pe : PW X e t
  sim : SimT G W t w
structure DA (X : Cx) (G : Gb) (W : WX) (es : List Expr) (t : TA) (w : WA) : Prop where
  pe : PA X es t
  sim : SimA G W t w
structure DSl (X : Cx) (G : Gb) (W : WX) (es : List Expr) (t : TA) (w : WSl) : Prop where
  pe : PA X es t
  sim : SimSl G W t w
structure DO (X : Cx) (G : Gb) (W : WX) (e : Option Expr) (t : TO) (w : WO) : Prop where
  pe : PO X e t
  sim : SimO G W t w
structure DS (X : Cx) (G : Gb) (W : WX) (e : Stmt) (t : TS) (w : WS) : Prop where
  pe : PS X e t
  sim : SimS G W t w
structure DB (X : Cx) (G : Gb) (W : WX) (e : List Stmt) (t : TS) (w : WS) : Prop where
  pe : PSs X e t
  sim : SimS G W t w
structure DI (X : Cx) (G : Gb) (W : WX) (tg e : Expr) (t : TI) (w : WI) : Prop where
  pe : PI X tg e t
  sim : SimI G W t w
structure DG (X : Cx) (G : Gb) (e : Expr) (t : TG) (w : WG) : Prop where
  pe : PG X e t
  sim : SimG G t w
structure DGs (X : Cx) (G : Gb) (e : List Expr) (t : TGs) (w : WGs) : Prop where
  pe : PGs X e t
  sim : SimGs G t w
structure DGw (X : Cx) (G : Gb) (vs : List Nat) (e : Expr) (t : TG) (w : WG) : Prop where
  pe : PG X e t
  sim : SimGw G t w vs
structure DGsw (X : Cx) (G : Gb) (vs : List Nat) (e : List Expr) (t : TGs) (w : WGs) : Prop where
  pe : PGs X e t
  sim : SimGsw G t w vs
/-- the tests of a comprehension -/
structure DTs (X : Cx) (G : Gb) (W : WX) (e : List Expr) (t : TT) (w : WT) : Prop where
  pe : PTs X e t
  sim : SimT G W t w

section
variable {X : Cx} {G : Gb} {W : WX} {a b c e o i : Expr} {es : List Expr} {ta tb tc te to ti : TE} {wa wb wc we wo wi : WE} {pos pos' p p2 p3 : Pos} {t : TA} {w : WA}

/-! ### names, constants -/
theorem dv (i : Nat) {x : Str} (hN : X.N[i]? = some x := by rfl) (hv : Vis X.env.scope x := by first | exact Or.inl rfl | exact Or.inr (Or.inl rfl) | exact Or.inr (Or.inr rfl)) (hd : (x == ("__debug__" : Str)) = false := by decide)
    (hcd : (x == ("__classdict__" : Str)) = false := by decide) : DE X G W (.Name x pos) (tVar i) (wVar i) := ⟨pe_var hN hv hd hcd, sim_var i⟩
theorem de_int {i : Int} {j : Nat} : DE X G W (.Constant (.int i) j pos) (tC (.int i)) (wC (.int i)) := ⟨pe_int, sim_c fun _ => .int i⟩
theorem de_bl {i : Bool} {j : Nat} : DE X G W (.Constant (.bool i) j pos) (tC (.bl i)) (wC (.bool i)) := ⟨pe_bl, sim_c fun _ => .bl i⟩
theorem de_non {j : Nat} : DE X G W (.Constant .none j pos) (tC .non) (wC .none) := ⟨pe_non, sim_c fun _ => .non⟩
theorem de_str {i : Str} {j : Nat} : DE X G W (.Constant (.str i) j pos) (tC (.str i)) (wC (.str i)) := ⟨pe_str, sim_c fun _ => .str i⟩
theorem de_gstr {x z : Str} (h : ∃ t, X.mg x = some (.str z t)) (hg : Gl X x := by rfl) (hd : (x == ("__debug__" : Str)) = false := by decide) : DE X G W (.Name x pos) (tC (.str z)) (wC (.str z)) :=
  ⟨let ⟨t, h⟩ := h; pe_glob hg h ⟨t, rfl⟩ hd, sim_c fun _ => .str z⟩
theorem de_gint {x : Str} {z : Int} (h : ∃ t, X.mg x = some (.int z t)) (hg : Gl X x := by rfl) (hd : (x == ("__debug__" : Str)) = false := by decide) : DE X G W (.Name x pos) (tC (.int z)) (wC (.int z)) :=
  ⟨let ⟨t, h⟩ := h; pe_glob hg h ⟨t, rfl⟩ hd, sim_c fun _ => .int z⟩

/-! ### operators -/
theorem de_op {op : Operator} {r : R2} {f : Op2} (ho : OpR X (binaryOp op) r) (hs : Sem2 G r f) (ha : DE X G W a ta wa) (hb : DE X G W b tb wb) : DE X G W (.BinOp a op b pos) (tOp r ta tb) (wOp f wa wb) := ⟨pe_op ho ha.pe hb.pe, sim_op hs ha.sim hb.sim⟩
theorem de_add (hK : X.K = G.K) (ha : DE X G W a ta wa) (hb : DE X G W b tb wb) : DE X G W (.BinOp a .Add b pos) (tOp (rAddA G.K) ta tb) (wOp oAdd wa wb) := de_op (by rw [← hK]; exact op_addA) sem_add ha hb
theorem de_sub (ha : DE X G W a ta wa) (hb : DE X G W b tb wb) : DE X G W (.BinOp a .Sub b pos) (tOp (rI0 fun i j => .int (i - j)) ta tb) (wOp (oII (fun _ _ => True) (· - ·)) wa wb) := de_op op_sub sem_sub ha hb
theorem de_mul (ha : DE X G W a ta wa) (hb : DE X G W b tb wb) : DE X G W (.BinOp a .Mult b pos) (tOp rMulA ta tb) (wOp oMul wa wb) := de_op op_mulA sem_mul ha hb
theorem de_fdiv (ha : DE X G W a ta wa) (hb : DE X G W b tb wb) : DE X G W (.BinOp a .FloorDiv b pos) (tOp (rI CDivW fun i j => .int (i / j)) ta tb) (wOp (oII CDivW (· / ·)) wa wb) := de_op op_fdivW sem_fdiv ha hb
theorem de_mod (ha : DE X G W a ta wa) (hb : DE X G W b tb wb) : DE X G W (.BinOp a .Mod b pos) (tOp (rI (fun _ j => 0 < j) fun i j => .int (i % j)) ta tb) (wOp (oII (fun _ j => 0 < j) (· % ·)) wa wb) := de_op op_mod sem_mod ha hb
theorem de_neg (ha : DE X G W a ta wa) : DE X G W (.UnaryOp .USub a pos) (tUn (rU fun i => .int (-i)) ta) (wUn (fun a k => isI a fun i => k (.sh (.int (-i)))) wa) := ⟨pe_un un_neg ha.pe, sim_un sem_neg ha.sim⟩
/-- a test of two -/
structure C2 (X : Cx) (G : Gb) (op : CmpOp) (r : R2) (f : Op2) : Prop where
  op : OpR X (compareOp op) r
  sem : Sem2 G r f
theorem c_lt : C2 X G .Lt (rI0 fun i j => .bl (decide (i < j))) (oIB fun i j => decide (i < j)) := ⟨op_lt, sem_IB⟩
theorem c_le : C2 X G .LtE (rI0 fun i j => .bl (decide (i ≤ j))) (oIB fun i j => decide (i ≤ j)) := ⟨op_le, sem_IB⟩
theorem c_gt : C2 X G .Gt (rI0 fun i j => .bl (decide (j < i))) (oIB fun i j => decide (j < i)) := ⟨op_gt, sem_IB⟩
theorem c_ge : C2 X G .GtE (rI0 fun i j => .bl (decide (j ≤ i))) (oIB fun i j => decide (j ≤ i)) := ⟨op_ge, sem_IB⟩
theorem c_eq (hK : X.K = G.K) (hu : X.A.units + 65 < cLine) : C2 X G .Eq (rEqD G.K) oEq := ⟨by rw [← hK]; exact op_eqD (by omega), sem_eq⟩
theorem c_ne (hK : X.K = G.K) (hu : X.A.units + 65 < cLine) : C2 X G .NotEq (rNeD G.K) oNe := ⟨by rw [← hK]; exact op_neD (by omega), sem_ne⟩
theorem c_in (hK : X.K = G.K) (hu : X.A.units + 65 < cLine) : C2 X G .In (rInA G.K) (oIn false) := ⟨by rw [← hK]; exact op_inA hu, sem_in⟩
theorem c_notin (hK : X.K = G.K) (hu : X.A.units + 65 < cLine) : C2 X G .NotIn (rNotInA G.K) (oIn true) := ⟨by rw [← hK]; exact op_notInA hu, sem_notin⟩
theorem c_isN : C2 X G .Is (fun x y H Q => y = .non ∧ Q (.bl (decide (x = .non))) H) oIsN := ⟨op_isN, sem_isN⟩
theorem c_notN : C2 X G .IsNot (fun x y H Q => y = .non ∧ Q (.bl (!decide (x = .non))) H) oNotN := ⟨op_notN, sem_notN⟩
theorem c_isB : C2 X G .Is rIsB oIsB := ⟨op_isBl, sem_isB⟩
theorem c_notB : C2 X G .IsNot rNotB oNotIsB := ⟨op_notBl, sem_notIsB⟩
theorem de_cmp {op : CmpOp} {r : R2} {f : Op2} (h : C2 X G op r f) (ha : DE X G W a ta wa) (hb : DE X G W b tb wb) (hm : behindInMarks op b = false := by first | exact nobehind _ (by decide) (by decide) | rfl) : DE X G W (.Compare a [op] [b] pos) (tOp r ta tb) (wOp f wa wb) :=
  ⟨pe_cmpR h.op ha.pe hb.pe hm, sim_op h.sem ha.sim hb.sim⟩
theorem dt_cmp {op : CmpOp} {r : R2} {f : Op2} (h : C2 X G op r f) (ha : DE X G W a ta wa) (hb : DE X G W b tb wb) (hm : behindInMarks op b = false := by first | exact nobehind _ (by decide) (by decide) | rfl) : DT X G W (.Compare a [op] [b] pos) (tTest (tOp r ta tb)) (wT (wOp f wa wb)) :=
  ⟨pt_cmpR h.op ha.pe hb.pe hm, sim_tTest (sim_op h.sem ha.sim hb.sim)⟩
theorem de_chain {op op' : CmpOp} {r r' : R2} {f f' : Op2} (h : C2 X G op r f) (h' : C2 X G op' r' f') (ha : DE X G W a ta wa) (hb : DE X G W b tb wb) (hc : DE X G W c tc wc) (hl : lastMarks [op, op'] [b, c] = false := by with_unfolding_all rfl) :
    DE X G W (.Compare a [op, op'] [b, c] pos) (tChain r r' ta tb tc) (wChain f f' wa wb wc) := ⟨pe_chain h.op h'.op ha.pe hb.pe hc.pe hl, sim_chain h.sem h'.sem ha.sim hb.sim hc.sim⟩
theorem dt_chain {op op' : CmpOp} {r r' : R2} {f f' : Op2} (h : C2 X G op r f) (h' : C2 X G op' r' f') (ha : DE X G W a ta wa) (hb : DE X G W b tb wb) (hc : DE X G W c tc wc) (hl : lastMarks [op, op'] [b, c] = false := by with_unfolding_all rfl) :
    DT X G W (.Compare a [op, op'] [b, c] pos) (tTest (tChain r r' ta tb tc)) (wT (wChain f f' wa wb wc)) := ⟨pt_chain h.op h'.op ha.pe hb.pe hc.pe hl, sim_tTest (sim_chain h.sem h'.sem ha.sim hb.sim hc.sim)⟩

/-! ### and, or, not, if -/
variable {rest : List Expr} {tt tu : TT} {wt wu : WT}
theorem de_one {op : BoolOp} (h : DE X G W a ta wa) : DE X G W (.BoolOp op [a] pos) ta wa := ⟨pe_one h.pe, h.sim⟩
theorem de_and (ha : DE X G W a ta wa) (hb : DE X G W (.BoolOp .And (b :: rest) pos) tb wb) : DE X G W (.BoolOp .And (a :: b :: rest) pos) (tAndV ta tb) (wAndV wa wb) := ⟨pe_and ha.pe hb.pe, sim_andV ha.sim hb.sim⟩
theorem de_or (ha : DE X G W a ta wa) (hb : DE X G W (.BoolOp .Or (b :: rest) pos) tb wb) : DE X G W (.BoolOp .Or (a :: b :: rest) pos) (tOrV ta tb) (wOrV wa wb) := ⟨pe_or ha.pe hb.pe, sim_orV ha.sim hb.sim⟩
theorem de_not (ha : DE X G W a ta wa) : DE X G W (.UnaryOp .Not a pos) (tNotV ta) (wNotV wa) := ⟨pe_not ha.pe, sim_notV ha.sim⟩
theorem dt_val (ha : DE X G W a ta wa) (he : ∀ whole, isTrue a X.env whole = (do let v ← whole; standAt a.pos; holding [v] (truthy v)) := by intro _; rfl) : DT X G W a (tB ta) (wT wa) := ⟨pt_val ha.pe he, sim_tB ha.sim⟩
theorem dt_not (ha : DT X G W a tt wt) : DT X G W (.UnaryOp .Not a pos) (tNot tt) (wNot wt) := ⟨pt_not ha.pe, sim_not ha.sim⟩
theorem dw_and1 (ha : DT X G W a tt wt) : DW X G W (.BoolOp .And [a] pos) tt wt := ⟨pw_and1 ha.pe, ha.sim⟩
theorem dw_or1 (ha : DT X G W a tt wt) : DW X G W (.BoolOp .Or [a] pos) tt wt := ⟨pw_or1 ha.pe, ha.sim⟩
theorem dw_and (ha : DT X G W a tt wt) (hb : DW X G W (.BoolOp .And (b :: rest) pos) tu wu) : DW X G W (.BoolOp .And (a :: b :: rest) pos) (tAnd tt tu) (wAnd wt wu) := ⟨pw_and ha.pe hb.pe, sim_and ha.sim hb.sim⟩
theorem dw_or (ha : DT X G W a tt wt) (hb : DW X G W (.BoolOp .Or (b :: rest) pos) tu wu) : DW X G W (.BoolOp .Or (a :: b :: rest) pos) (tOr tt tu) (wOr wt wu) := ⟨pw_or ha.pe hb.pe, sim_or ha.sim hb.sim⟩
theorem dt_chn (h : DW X G W a tt wt) : DT X G W a tt wt := ⟨PW.pt h.pe, h.sim⟩
theorem de_if (hc : DT X G W c tt wt) (ha : DE X G W a ta wa) (hb : DE X G W b tb wb) : DE X G W (.IfExp c a b pos) (tIf tt ta tb) (wIf wt wa wb) := ⟨pe_ifExp hc.pe ha.pe hb.pe, sim_if hc.sim ha.sim hb.sim⟩

/-! ### lists of expressions, displays, subscripts -/
theorem da_nil : DA X G W [] tNil wNil := ⟨pa_nil, sim_nil⟩
theorem da_cons (he : DE X G W e te we) (hr : DA X G W es t w) (hs : starEach (e :: es) X.env = (false, eval e X.env) :: starEach es X.env := by rfl) : DA X G W (e :: es) (tCons te t) (wCons we w) := ⟨pa_cons he.pe hr.pe hs, sim_cons he.sim hr.sim⟩
theorem dl_nil : DSl X G W [] tNil wsNil := ⟨pa_nil, sims_nil⟩
theorem dl_cons {ws : WSl} (he : DE X G W e te we) (hr : DSl X G W es t ws) (hs : starEach (e :: es) X.env = (false, eval e X.env) :: starEach es X.env := by rfl) : DSl X G W (e :: es) (tCons te t) (wsCons we ws) := ⟨pa_cons he.pe hr.pe hs, sims_cons he.sim hr.sim⟩
theorem de_tup {x1 : Nat} (h : DA X G W es t w) : DE X G W (.Tuple es x1 pos) (tTup t) (wTup w) := ⟨pe_tup h.pe, sim_tup h.sim⟩
theorem de_lst (h : DA X G W es t w) : DE X G W (.List es pos) (tLst t) (wLst w) := ⟨pe_lst h.pe, sim_lst h.sim⟩
theorem de_dict0 : DE X G W (.Dict [] [] pos) tDNewK wDict0 := ⟨pe_dnewK, sim_dict0⟩
theorem de_ix (hK : X.K = G.K) (hu : X.A.units + 65 < cLine) (ha : DE X G W a ta wa) (hb : DE X G W b tb wb) (hs : PlainIx b := by intro _ _; rfl) : DE X G W (.Subscript a b pos) (tOp (rIxA G.K) ta tb) (wOp oIx wa wb) :=
  ⟨pe_ix (by rw [← hK]; exact ix_any (by omega)) ha.pe hb.pe hs, sim_op sem_ix ha.sim hb.sim⟩
theorem do_none : DO X G W none tNoPart wNoP := ⟨po_none, simo_none⟩
theorem do_some (h : DE X G W a ta wa) : DO X G W (some a) (tPart ta) (wPart wa) := ⟨po_some h.pe, simo_some h.sim⟩
theorem de_slL {lo hi : Option Expr} {tl th : TO} {wl wh : WO} (hK : X.K = G.K) (ha : DE X G W a ta wa) (hl : DO X G W lo tl wl) (hh : DO X G W hi th wh) : DE X G W (.Subscript a (.Slice lo hi none p2) pos) (tSl (rSlL G.K) ta tl th) (wSlL wa wl wh) :=
  ⟨pe_slice (by rw [← hK]; exact sl_list) ha.pe hl.pe hh.pe, sim_slL ha.sim hl.sim hh.sim⟩

/-! ### built-ins -/
theorem de_cb {x : Str} {id : String} {r : List V → Hp → VK → Prop} {f : OpN} (hc : CallR X (.builtin id) r) (hs : SemN G r f) (hg : Gl X x) (hm : X.mg x = none) (hv : bootBuiltins x = some (.builtin id)) (ha : DA X G W (e :: es) t w) (hn : x ≠ "__name__" := by decide)
    (hdb : (x == ("__debug__" : Str)) = false := by decide) (he : starEach (e :: es) X.env = (false, eval e X.env) :: starEach es X.env := by rfl) (hpl : (backTo pos (starEach es X.env)).any (·.1) = false := by rfl) :
    DE X G W (.Call (.Name x p) (e :: es) [] pos) (tCB r t) (wCB f w) := ⟨pe_callB hc hg hm hv ha.pe hn hdb he hpl, sim_cb hs ha.sim⟩
theorem de_ct {x : Str} {id : String} {r : List V → Hp → VK → Prop} {f : OpN} (hc : CallR X (.type id) r) (hs : SemN G r f) (hg : Gl X x) (hm : X.mg x = none) (hv : bootBuiltins x = some (.type id)) (ha : DA X G W (e :: es) t w) (hn : x ≠ "__name__" := by decide)
    (hdb : (x == ("__debug__" : Str)) = false := by decide) (he : starEach (e :: es) X.env = (false, eval e X.env) :: starEach es X.env := by rfl) (hpl : (backTo pos (starEach es X.env)).any (·.1) = false := by rfl) :
    DE X G W (.Call (.Name x p) (e :: es) [] pos) (tCB r t) (wCB f w) := ⟨pe_callTy hc hg hm hv ha.pe hn hdb he hpl, sim_cb hs ha.sim⟩
structure B1 (X : Cx) (G : Gb) (id : String) (r : List V → Hp → VK → Prop) (f : OpN) : Prop where
  c : CallR X (.builtin id) r
  s : SemN G r f
structure T1 (X : Cx) (G : Gb) (id : String) (r : List V → Hp → VK → Prop) (f : OpN) : Prop where
  c : CallR X (.type id) r
  s : SemN G r f
theorem b_len (hK : X.K = G.K) : B1 X G "len" (rLenA G.K) (o1 oLen) := ⟨by rw [← hK]; exact call_lenA, sem_len⟩
theorem b_all (hK : X.K = G.K) (hc : X.calm = true) : B1 X G "all" (rAll G.K) (o1 oAll) := ⟨by rw [← hK]; exact cr_all hc, sem_all⟩
theorem b_any (hK : X.K = G.K) (hc : X.calm = true) : B1 X G "any" (rAny G.K) (o1 oAny) := ⟨by rw [← hK]; exact cr_any hc, sem_any⟩
theorem b_sum (hK : X.K = G.K) (hc : X.calm = true) : B1 X G "sum" (rSum G.K) (o1 oSum) := ⟨by rw [← hK]; exact cr_sum hc, sem_sum⟩
theorem b_max (hc : X.calm = true) : B1 X G "max" rMax2A (o2 oMax) := ⟨call_max2A hc, sem_max⟩
theorem b_min (hc : X.calm = true) : B1 X G "min" rMin2A (o2 oMin) := ⟨call_min2A hc, sem_min⟩
theorem b_abs : B1 X G "abs" rAbsA (o1 oAbs) := ⟨call_absA, sem_abs⟩
theorem b_sortI (hK : X.K = G.K) : B1 X G "sorted" (rSortedI G.K) (o1 oSortI) := ⟨by rw [← hK]; exact cr_sortedI, sem_sortI⟩
theorem b_sortDS (hc : X.calm = true) : B1 X G "sorted" rSortDSA (o1 oSortDS) := ⟨call_sortDSA hc, sem_sortDS⟩
theorem t_int : T1 X G "int" rIntA (o1 oInt) := ⟨call_intA, sem_int⟩
theorem t_str : T1 X G "str" rStrIA (o1 oStrI) := ⟨call_strIA, sem_strI⟩
theorem t_list (hK : X.K = G.K) : T1 X G "list" (rListA G.K) (o1 oList) := ⟨by rw [← hK]; exact call_listA, sem_list⟩
theorem de_b {x : Str} {id : String} {r : List V → Hp → VK → Prop} {f : OpN} (h : B1 X G id r f) (hm : X.mg x = none) (ha : DA X G W (e :: es) t w) (hg : Gl X x := by rfl) (hv : bootBuiltins x = some (.builtin id) := by decide +kernel) (hn : x ≠ "__name__" := by decide)
    (hdb : (x == ("__debug__" : Str)) = false := by decide) (he : starEach (e :: es) X.env = (false, eval e X.env) :: starEach es X.env := by rfl) (hpl : (backTo pos (starEach es X.env)).any (·.1) = false := by rfl) :
    DE X G W (.Call (.Name x p) (e :: es) [] pos) (tCB r t) (wCB f w) := de_cb h.c h.s hg hm hv ha hn hdb he hpl
theorem de_t {x : Str} {id : String} {r : List V → Hp → VK → Prop} {f : OpN} (h : T1 X G id r f) (hm : X.mg x = none) (ha : DA X G W (e :: es) t w) (hg : Gl X x := by rfl) (hv : bootBuiltins x = some (.type id) := by decide +kernel) (hn : x ≠ "__name__" := by decide)
    (hdb : (x == ("__debug__" : Str)) = false := by decide) (he : starEach (e :: es) X.env = (false, eval e X.env) :: starEach es X.env := by rfl) (hpl : (backTo pos (starEach es X.env)).any (·.1) = false := by rfl) :
    DE X G W (.Call (.Name x p) (e :: es) [] pos) (tCB r t) (wCB f w) := de_ct h.c h.s hg hm hv ha hn hdb he hpl
/-- isinstance -/
theorem de_isi {T : String} {y : Str} (hK : X.K = G.K) (hT : KitOk T) (hm : X.mg "isinstance" = none) (hm2 : X.mg y = none) (ha : DE X G W a ta wa) (hv2 : bootBuiltins y = some (.type T) := by decide +kernel) (hg : Gl X "isinstance" := by rfl) (hg2 : Gl X y := by rfl)
    (hn2 : y ≠ "__name__" := by decide) (hd2 : (y == ("__debug__" : Str)) = false := by decide) (he : starEach [a, .Name y p2] X.env = (false, eval a X.env) :: starEach [.Name y p2] X.env := by rfl) (he2 : starEach [.Name y p2] X.env = (false, eval (.Name y p2) X.env) :: starEach [] X.env := by rfl) (hpl : (backTo pos (starEach [.Name y p2] X.env)).any (·.1) = false := by rfl) :
    DE X G W (.Call (.Name "isinstance" p) [a, .Name y p2] [] pos) (tCB (rIsi G.K) (tCons ta (tCons (tC (.ty T)) tNil))) (wIsi T wa) :=
  ⟨pe_callB (by rw [← hK]; exact call_isi) hg hm (by decide +kernel) (pa_cons ha.pe (pa_cons (pe_bltn hg2 hm2 hv2 rfl hn2 hd2) pa_nil he2) he) (by decide) (by decide) he hpl, sim_isi hT ha.sim⟩

/-- isinstance with two classes -/
theorem de_isi2 {T U : String} {y z : Str} {kk : Nat} {pt q2 q3 : Pos} (hK : X.K = G.K) (hT : KitOk T) (hU : KitOk U) (hm : X.mg "isinstance" = none) (hm2 : X.mg y = none) (hm3 : X.mg z = none) (ha : DE X G W a ta wa) (hv2 : bootBuiltins y = some (.type T) := by decide +kernel) (hv3 : bootBuiltins z = some (.type U) := by decide +kernel)
    (hg : Gl X "isinstance" := by rfl) (hg2 : Gl X y := by rfl) (hg3 : Gl X z := by rfl) (hn2 : y ≠ "__name__" := by decide) (hd2 : (y == ("__debug__" : Str)) = false := by decide) (hn3 : z ≠ "__name__" := by decide) (hd3 : (z == ("__debug__" : Str)) = false := by decide)
    (he : starEach [a, .Tuple [.Name y q2, .Name z q3] kk pt] X.env = (false, eval a X.env) :: starEach [.Tuple [.Name y q2, .Name z q3] kk pt] X.env := by rfl) (he2 : starEach [.Tuple [.Name y q2, .Name z q3] kk pt] X.env = (false, eval (.Tuple [.Name y q2, .Name z q3] kk pt) X.env) :: starEach [] X.env := by rfl)
    (he3 : starEach [.Name y q2, .Name z q3] X.env = (false, eval (.Name y q2) X.env) :: starEach [.Name z q3] X.env := by rfl) (he4 : starEach [.Name z q3] X.env = (false, eval (.Name z q3) X.env) :: starEach [] X.env := by rfl) (hpl : (backTo pos (starEach [.Tuple [.Name y q2, .Name z q3] kk pt] X.env)).any (·.1) = false := by rfl) :
    DE X G W (.Call (.Name "isinstance" p) [a, .Tuple [.Name y q2, .Name z q3] kk pt] [] pos) (tCB (rIsiT G.K) (tCons ta (tCons (tTup (tCons (tC (.ty T)) (tCons (tC (.ty U)) tNil))) tNil))) (wIsi2 T U wa) :=
  ⟨pe_callB (by rw [← hK]; exact call_isiT) hg hm (by decide +kernel) (pa_cons ha.pe (pa_cons (pe_tup (pa_cons (pe_bltn hg2 hm2 hv2 rfl hn2 hd2) (pa_cons (pe_bltn hg3 hm3 hv3 rfl hn3 hd3) pa_nil he4) he3)) pa_nil he2) he) (by decide) (by decide) he hpl, sim_isi2 hT hU ha.sim⟩

/-! ### a variable's list or dict -/
theorem de_append (hK : X.K = G.K) (i : Nat) {x : Str} {apos : Pos} (he : DE X G W e te we) (hN : X.N[i]? = some x := by rfl) (hv : Vis X.env.scope x := by first | exact Or.inl rfl | exact Or.inr (Or.inl rfl) | exact Or.inr (Or.inr rfl)) (hd : (x == ("__debug__" : Str)) = false := by decide)
    (hcd : (x == ("__classdict__" : Str)) = false := by decide) (h1 : attributeBase (.Name x p) "append" X.env (eval (.Name x p) X.env) = eval (.Name x p) X.env := by rfl)
    (h2 : (((backTo pos (starEach (e :: []) X.env)).all fun x => !x.fst) && (backToKw pos (keywordEach [] X.env)).all (fun x => x.fst.isSome) && decide (((e :: ([] : List Expr)).length + ([] : List Keyword).length + if ([] : List Keyword).isEmpty = true then 0 else 1) < 30)) = true := by rfl)
    (h3 : (apos.endLine == pos.line) = true := by rfl) (h4 : starEach (e :: []) X.env = (false, eval e X.env) :: starEach [] X.env := by rfl) (h5 : (backTo pos (starEach [] X.env)).any (·.1) = false := by rfl) :
    DE X G W (.Call (.Attribute (.Name x p) "append" apos) [e] [] pos) (tBM G.K "list" rAppend (tVar i) (tCons te tNil)) (wMut i fAppend (wCons we wNil)) :=
  ⟨by rw [← hK]; exact pe_bm PySem.F.plainAttrs_list PySem.F.slot_list_append PySem.F.type_list_append mt_append (pe_var hN hv hd hcd) (pa_cons he.pe pa_nil h4) h1 h2 h3 h4 h5, sim_mut i sem_append (sim_cons he.sim sim_nil)⟩

theorem de_extend (hK : X.K = G.K) (i : Nat) {x : Str} {apos : Pos} (he : DE X G W e te we) (hN : X.N[i]? = some x := by rfl) (hv : Vis X.env.scope x := by first | exact Or.inl rfl | exact Or.inr (Or.inl rfl) | exact Or.inr (Or.inr rfl)) (hd : (x == ("__debug__" : Str)) = false := by decide)
    (hcd : (x == ("__classdict__" : Str)) = false := by decide) (h1 : attributeBase (.Name x p) "extend" X.env (eval (.Name x p) X.env) = eval (.Name x p) X.env := by rfl)
    (h2 : (((backTo pos (starEach (e :: []) X.env)).all fun x => !x.fst) && (backToKw pos (keywordEach [] X.env)).all (fun x => x.fst.isSome) && decide (((e :: ([] : List Expr)).length + ([] : List Keyword).length + if ([] : List Keyword).isEmpty = true then 0 else 1) < 30)) = true := by rfl)
    (h3 : (apos.endLine == pos.line) = true := by rfl) (h4 : starEach (e :: []) X.env = (false, eval e X.env) :: starEach [] X.env := by rfl) (h5 : (backTo pos (starEach [] X.env)).any (·.1) = false := by rfl) :
    DE X G W (.Call (.Attribute (.Name x p) "extend" apos) [e] [] pos) (tBM G.K "list" rExtend (tVar i) (tCons te tNil)) (wExt i we) :=
  ⟨by rw [← hK]; exact pe_bm PySem.F.plainAttrs_list PySem.F.slot_list_extend PySem.F.type_list_extend mt_extend (pe_var hN hv hd hcd) (pa_cons he.pe pa_nil h4) h1 h2 h3 h4 h5, sim_ext i he.sim⟩
def rPopA : V → List V → Hp → VK → Prop := fun x vs H Q => rPop x vs H Q ∨ rPopAt x vs H Q
theorem de_pop1 (hK : X.K = G.K) (i : Nat) {x : Str} {apos : Pos} (he : DE X G W e te we) (hN : X.N[i]? = some x := by rfl) (hv : Vis X.env.scope x := by first | exact Or.inl rfl | exact Or.inr (Or.inl rfl) | exact Or.inr (Or.inr rfl)) (hd : (x == ("__debug__" : Str)) = false := by decide)
    (hcd : (x == ("__classdict__" : Str)) = false := by decide) (h1 : attributeBase (.Name x p) "pop" X.env (eval (.Name x p) X.env) = eval (.Name x p) X.env := by rfl)
    (h2 : (((backTo pos (starEach (e :: []) X.env)).all fun x => !x.fst) && (backToKw pos (keywordEach [] X.env)).all (fun x => x.fst.isSome) && decide (((e :: ([] : List Expr)).length + ([] : List Keyword).length + if ([] : List Keyword).isEmpty = true then 0 else 1) < 30)) = true := by rfl)
    (h3 : (apos.endLine == pos.line) = true := by rfl) (h4 : starEach (e :: []) X.env = (false, eval e X.env) :: starEach [] X.env := by rfl) (h5 : (backTo pos (starEach [] X.env)).any (·.1) = false := by rfl) :
    DE X G W (.Call (.Attribute (.Name x p) "pop" apos) [e] [] pos) (tBM G.K "list" rPopA (tVar i) (tCons te tNil)) (wMut i fPop (wCons we wNil)) :=
  ⟨by rw [← hK]; exact pe_bm PySem.F.plainAttrs_list PySem.F.slot_list_pop PySem.F.type_list_pop (MtR.or mt_pop mt_popAt) (pe_var hN hv hd hcd) (pa_cons he.pe pa_nil h4) h1 h2 h3 h4 h5, sim_mut i sem_pop (sim_cons he.sim sim_nil)⟩
theorem de_pop0 (hK : X.K = G.K) (i : Nat) {x : Str} {apos : Pos} (hN : X.N[i]? = some x := by rfl) (hv : Vis X.env.scope x := by first | exact Or.inl rfl | exact Or.inr (Or.inl rfl) | exact Or.inr (Or.inr rfl)) (hd : (x == ("__debug__" : Str)) = false := by decide)
    (hcd : (x == ("__classdict__" : Str)) = false := by decide) (h1 : attributeBase (.Name x p) "pop" X.env (eval (.Name x p) X.env) = eval (.Name x p) X.env := by rfl)
    (h3 : (apos.endLine == pos.line) = true := by rfl) :
    DE X G W (.Call (.Attribute (.Name x p) "pop" apos) [] [] pos) (tBM0 G.K "list" rPopA (tVar i)) (wMut0 i fPop) :=
  ⟨by rw [← hK]; exact pe_bm0 PySem.F.plainAttrs_list PySem.F.slot_list_pop PySem.F.type_list_pop (MtR.or mt_pop mt_popAt) (pe_var hN hv hd hcd) h1 h3, sim_mut0 i sem_pop⟩
theorem de_get1 {apos : Pos} (hu : X.A.units + 65 < cLine) (ho : DE X G W o to wo) (he : DE X G W e te we) (m1 : attributeBase o "get" X.env (eval o X.env) = eval o X.env := by rfl)
    (m2 : ((backTo pos (starEach [e] X.env)).all (fun x => !x.1) && (backToKw pos (keywordEach [] X.env)).all (fun x => x.1.isSome) && decide (([e] : List Expr).length + ([] : List Keyword).length + (if ([] : List Keyword).isEmpty then 0 else 1) < 30)) = true := by rfl)
    (m3 : (apos.endLine == pos.line) = true := by rfl) (m4 : backTo pos (starEach [e] X.env) = [(false, eval e X.env)] := by rfl) : DE X G W (.Call (.Attribute o "get" apos) [e] [] pos) (tDGet1 to te) (wDGet1 wo we) := ⟨pe_dget1 (by omega) ho.pe he.pe ⟨m1, m2, m3, m4⟩, sim_dget1 ho.sim he.sim⟩
theorem de_get2 {apos : Pos} {f : Expr} {tf : TE} {wf : WE} (hu : X.A.units + 65 < cLine) (ho : DE X G W o to wo) (he : DE X G W e te we) (hf : DE X G W f tf wf) (m1 : attributeBase o "get" X.env (eval o X.env) = eval o X.env := by rfl)
    (m2 : ((backTo pos (starEach [e, f] X.env)).all (fun x => !x.1) && (backToKw pos (keywordEach [] X.env)).all (fun x => x.1.isSome) && decide (([e, f] : List Expr).length + ([] : List Keyword).length + (if ([] : List Keyword).isEmpty then 0 else 1) < 30)) = true := by rfl)
    (m3 : (apos.endLine == pos.line) = true := by rfl) (m4 : backTo pos (starEach [e, f] X.env) = [(false, eval e X.env), (false, eval f X.env)] := by rfl) : DE X G W (.Call (.Attribute o "get" apos) [e, f] [] pos) (tDGet2 to te tf) (wDGet2 wo we wf) :=
  ⟨pe_dget2 (by omega) ho.pe he.pe hf.pe ⟨m1, m2, m3, m4⟩, sim_dget2 ho.sim he.sim hf.sim⟩
/-- wide powers -/
def CPowW (i j : Int) : Prop := 0 ≤ j ∧ (Builtin.Int.intBits i : Int) * j ≤ 2 ^ 27
theorem op_powW : OpR X (binaryOp .Pow) (rI CPowW fun i j => .int (i ^ j.toNat)) := opI fun _ _ _ _ _ _ _ hc q => PyProof.Rows.pow_int hc.1 hc.2 q
theorem sem_powW : Sem2 G (rI CPowW fun i j => .int (i ^ j.toNat)) (oII CPowW fun i j => i ^ j.toNat) := sem_II (fun _ _ h => h) fun _ _ _ => rfl
theorem de_pow (ha : DE X G W a ta wa) (hb : DE X G W b tb wb) : DE X G W (.BinOp a .Pow b pos) (tOp (rI CPowW fun i j => .int (i ^ j.toNat)) ta tb) (wOp (oII CPowW fun i j => i ^ j.toNat) wa wb) := de_op op_powW sem_powW ha hb
/-- x op= e -/
theorem ip_addI : PIp X .Add (rI0 fun i j => .int (i + j)) := by
  intro pins s σ H x y v u Q I r1 r2 h
  obtain ⟨i, j, e1, e2, q⟩ := h
  subst e1; subst e2
  obtain ⟨t, rfl⟩ := r1
  obtain ⟨t', rfl⟩ := r2
  exact PyProof.Rows.iadd_int ⟨.int _, H, I.tok _, ⟨_, rfl⟩, q⟩
theorem ip_subI : PIp X .Sub (rI0 fun i j => .int (i - j)) := by
  intro pins s σ H x y v u Q I r1 r2 h
  obtain ⟨i, j, e1, e2, q⟩ := h
  subst e1; subst e2
  obtain ⟨t, rfl⟩ := r1
  obtain ⟨t', rfl⟩ := r2
  exact PyProof.Rows.isub_int ⟨.int _, H, I.tok _, ⟨_, rfl⟩, q⟩
theorem ip_mulI : PIp X .Mult (rI CMulW fun i j => .int (i * j)) := by
  intro pins s σ H x y v u Q I r1 r2 h
  obtain ⟨i, j, e1, e2, hc, q⟩ := h
  subst e1; subst e2
  obtain ⟨t, rfl⟩ := r1
  obtain ⟨t', rfl⟩ := r2
  exact PyProof.Rows.imul_int ⟨.int _, H, I.tok _, ⟨_, rfl⟩, q⟩ hc.ok
theorem ds_augA (i : Nat) {x : Str} (hN : X.N.Nodup) (he : DE X G W e te we) (hi : X.N[i]? = some x := by rfl) (hx : L2.Loc X.env.scope x := by first | exact .inl rfl | exact .inr rfl) (hf : X.fn x = true ∨ X.env.scope.names.lookup x = some .local := by first | exact .inl rfl | exact .inr rfl) :
    DS X G W (.AugAssign (.Name x pos') .Add e pos) (tAug i te (rI0 fun i j => .int (i + j))) (wAug i (oII (fun _ _ => True) (· + ·)) we) := ⟨ps_aug hN hi hx he.pe ip_addI hf, sim_aug i sem_II0 he.sim⟩
theorem ds_augS (i : Nat) {x : Str} (hN : X.N.Nodup) (he : DE X G W e te we) (hi : X.N[i]? = some x := by rfl) (hx : L2.Loc X.env.scope x := by first | exact .inl rfl | exact .inr rfl) (hf : X.fn x = true ∨ X.env.scope.names.lookup x = some .local := by first | exact .inl rfl | exact .inr rfl) :
    DS X G W (.AugAssign (.Name x pos') .Sub e pos) (tAug i te (rI0 fun i j => .int (i - j))) (wAug i (oII (fun _ _ => True) (· - ·)) we) := ⟨ps_aug hN hi hx he.pe ip_subI hf, sim_aug i sem_II0 he.sim⟩
theorem ds_augM (i : Nat) {x : Str} (hN : X.N.Nodup) (he : DE X G W e te we) (hi : X.N[i]? = some x := by rfl) (hx : L2.Loc X.env.scope x := by first | exact .inl rfl | exact .inr rfl) (hf : X.fn x = true ∨ X.env.scope.names.lookup x = some .local := by first | exact .inl rfl | exact .inr rfl) :
    DS X G W (.AugAssign (.Name x pos') .Mult e pos) (tAug i te (rI CMulW fun i j => .int (i * j))) (wAug i (oII CMulW (· * ·)) we) := ⟨ps_aug hN hi hx he.pe ip_mulI hf, sim_aug i (sem_II (fun _ _ h => h) fun _ _ _ => rfl) he.sim⟩
/-- xs[::-1] -/
def wRevL (wa : WE) : WE := fun Γ Q X => wa Γ (fun r Γ1 => rdW r Γ1 fun d => isL d fun ds => Q (.ow (.list ds.reverse)) Γ1) X

theorem sim_revL (h : SimE G W ta wa) : SimE G W (tRevL G.K ta) (wRevL wa) := by
  intro C Hi σ H Γ Q Qd Xd c hw hQ hX
  refine h C Hi σ H Γ _ _ Xd c hw (fun v1 r1 H1 Hi1 Γ1 e1 o1 q1 => ?_) hX
  obtain ⟨Hi2, e2, c2, h2⟩ := o1.hold
  obtain ⟨d, b1, q2⟩ := h2.read c2 q1
  obtain ⟨ds, rfl, q2⟩ := isL_inv q2
  obtain ⟨p, xs, rfl, s1, r1⟩ := b1.list c2.imm
  exact ⟨p, xs, rfl, SqL.of s1, fun l hl => hQ _ (.ow (.list ds.reverse)) _ Hi2 Γ1 (e1.trans e2) (Out.newL c2 hl r1.reverse) q2⟩
theorem de_revL {k : Nat} {p1 : Pos} (hK : X.K = G.K) (h : DE X G W a ta wa) : DE X G W (.Subscript a (.Slice none none (some (.UnaryOp .USub (.Constant (.int 1) k p1) p2)) p3) pos) (tRevL G.K ta) (wRevL wa) := ⟨by rw [← hK]; exact pe_revL h.pe, sim_revL h.sim⟩
theorem hu65 {A : Around} {k : Nat} (hr : Room k A) : A.units + 65 < cLine := Nat.lt_of_le_of_lt (Nat.add_le_add_left (by omega : 65 ≤ 16 * k + 200) _) (Nat.add_assoc _ _ _ ▸ hr.un)

/-! ### calls of the program's defs -/
/-- what the text's rules want of a def named x: n its calls' depth; dv its parameters' values that a call leaves out -/
def Gd (P : Program) (wd : World) (G : Gb) (mg : Str → Option Value) (base : Heap) (k : Nat) (x : Str) (fs : FS) (ps : List Str) (dvs : List V) : Prop :=
  ∃ (f : Addr) (fd : FuncData), mg x = some (.ref f) ∧ PySem.W.keepIn G.K (.ref f) = true ∧ FnOk P wd G.K mg base (L2N.CX P wd) k f fd ps (lift G fs) ∧ ∃ ds, Vals dvs ds ∧ Binds G.K fd ps ds
theorem Gd.mono {P : Program} {wd : World} {mg : Str → Option Value} {base : Heap} {k k' : Nat} {x : Str} {fs : FS} {ps : List Str} {dvs : List V} (h : Gd P wd G mg base k x fs ps dvs) (l : k ≤ k') : Gd P wd G mg base k' x fs ps dvs :=
  let ⟨f, fd, h1, h2, h3, h4⟩ := h
  ⟨f, fd, h1, h2, h3.mono l, h4⟩
section
variable {k : Nat} {x : Str} {fs : FS} {ps : List Str} {dvs : List V} {dvd : List D}
theorem de_callD (hK : X.K = G.K) (F : Gd X.prog X.w G X.mg X.base k x fs ps dvs) (hr : Room k X.A) (tk : L2N.Takes X W) (hd : ∀ Hi, Reps G.K Hi dvs dvd) (ha : DA X G W (e :: es) t w) (hg : Gl X x := by rfl) (hdb : (x == ("__debug__" : Str)) = false := by decide)
    (he : starEach (e :: es) X.env = (false, eval e X.env) :: starEach es X.env := by rfl) (hpl : (backTo pos (starEach es X.env)).any (·.1) = false := by rfl) :
    DE X G W (.Call (.Name x p) (e :: es) [] pos) (tCallSD (lift G fs) dvs (L2.WE W) t) (wCall fs dvd w) := by
  obtain ⟨f, fd, h1, h2, h3, ds, h4, h5⟩ := F
  rw [← hK] at h2 h5
  refine ⟨pe_callSD ?_ hr hg h1 h2 h5 h4 (L2N.passAt tk) ha.pe hdb he hpl, sim_callSD hd ha.sim⟩
  rw [hK]; exact h3
theorem de_call (hK : X.K = G.K) (F : Gd X.prog X.w G X.mg X.base k x fs ps []) (hr : Room k X.A) (tk : L2N.Takes X W) (ha : DA X G W (e :: es) t w) (hg : Gl X x := by rfl) (hdb : (x == ("__debug__" : Str)) = false := by decide)
    (he : starEach (e :: es) X.env = (false, eval e X.env) :: starEach es X.env := by rfl) (hpl : (backTo pos (starEach es X.env)).any (·.1) = false := by rfl) :
    DE X G W (.Call (.Name x p) (e :: es) [] pos) (tCallSD (lift G fs) [] (L2.WE W) t) (wCall fs [] w) := de_callD hK F hr tk (fun _ => .nil) ha hg hdb he hpl
/-- the first argument, a variable's thing, may be changed -/
theorem de_callIoD (hK : X.K = G.K) (i : Nat) {y : Str} (F : Gd X.prog X.w G X.mg X.base k x fs ps dvs) (hr : Room k X.A) (tk : L2N.Takes X W) (hd : ∀ Hi, Reps G.K Hi dvs dvd) (ha : DA X G W es t w) (hN : X.N[i]? = some y := by rfl) (hv : Vis X.env.scope y := by first | exact Or.inl rfl | exact Or.inr (Or.inl rfl) | exact Or.inr (Or.inr rfl))
    (hd2 : (y == ("__debug__" : Str)) = false := by decide) (hcd : (y == ("__classdict__" : Str)) = false := by decide) (hg : Gl X x := by rfl) (hdb : (x == ("__debug__" : Str)) = false := by decide)
    (he : starEach (.Name y p2 :: es) X.env = (false, eval (.Name y p2) X.env) :: starEach es X.env := by rfl) (hpl : (backTo pos (starEach es X.env)).any (·.1) = false := by rfl) :
    DE X G W (.Call (.Name x p) (.Name y p2 :: es) [] pos) (tCallSD (lift G fs) dvs (L2.WE W) (tCons (tVar i) t)) (wCallIo fs i dvd w) := by
  obtain ⟨f, fd, h1, h2, h3, ds, h4, h5⟩ := F
  rw [← hK] at h2 h5
  refine ⟨pe_callSD ?_ hr hg h1 h2 h5 h4 (L2N.passAt tk) (pa_cons (pe_var hN hv hd2 hcd) ha.pe he) hdb he hpl, sim_callIoSD i hd ha.sim⟩
  rw [hK]; exact h3
theorem de_callIo (hK : X.K = G.K) (i : Nat) {y : Str} (F : Gd X.prog X.w G X.mg X.base k x fs ps []) (hr : Room k X.A) (tk : L2N.Takes X W) (ha : DA X G W es t w) (hN : X.N[i]? = some y := by rfl) (hv : Vis X.env.scope y := by first | exact Or.inl rfl | exact Or.inr (Or.inl rfl) | exact Or.inr (Or.inr rfl))
    (hd2 : (y == ("__debug__" : Str)) = false := by decide) (hcd : (y == ("__classdict__" : Str)) = false := by decide) (hg : Gl X x := by rfl) (hdb : (x == ("__debug__" : Str)) = false := by decide)
    (he : starEach (.Name y p2 :: es) X.env = (false, eval (.Name y p2) X.env) :: starEach es X.env := by rfl) (hpl : (backTo pos (starEach es X.env)).any (·.1) = false := by rfl) :
    DE X G W (.Call (.Name x p) (.Name y p2 :: es) [] pos) (tCallSD (lift G fs) [] (L2.WE W) (tCons (tVar i) t)) (wCallIo fs i [] w) := de_callIoD hK i F hr tk (fun _ => .nil) ha hN hv hd2 hcd hg hdb he hpl
end
/-- f(e, ..) where the arguments are but read: they stay what they are -/
def flatR : R → Prop
  | .sh d => flatD d = true
  | .ow (.list l) => l.all flatD = true
  | _ => False
def wCallB (fs : FS) (dv : List D) (wa : WA) : WE := fun Γ Q X => wa Γ (fun rs Γ1 => rdAll rs Γ1 fun ds => fs none (ds ++ dv) (fun r _ => flatR r ∧ Q r Γ1) fun x _ => x.idx = none ∧ X x Γ1) X
theorem Rep.flat_any {K : Fg} {H H' : Hp} {v : V} {d : D} (h : Rep K H v d) (f : flatD d = true) : Rep K H' v d := by
  cases h with
  | non => exact .non
  | bl b => exact .bl b
  | int i => exact .int i
  | str x => exact .str x
  | _ => cases f
theorem Reps.flat_any {K : Fg} {H H' : Hp} : ∀ {vs : List V} {ds : List D}, Reps K H vs ds → ds.all flatD = true → Reps K H' vs ds
  | _, _, .nil, _ => .nil
  | _, _, .cons h r, f => by
    rw [List.all_cons, Bool.and_eq_true] at f
    exact .cons (h.flat_any f.1) (Reps.flat_any r f.2)
theorem Rdbs.reps {K : Fg} {Hi H : Hp} (e : Ext Hi H) : ∀ {vs : List V} {ds : List D}, Rdbs K Hi H vs ds → Reps K H vs ds
  | _, _, .nil => .nil
  | _, _, .cons h r => .cons (h.rep e) (Rdbs.reps e r)
theorem sim_callB {fs : FS} {dvs : List V} {dv : List D} (hd : ∀ Hi, Reps G.K Hi dvs dv) (ha : SimA G W t w) : SimE G W (tCallSD (lift G fs) dvs (L2.WE W) t) (wCallB fs dv w) := by
  intro C Hi σ H Γ Q Qd Xd c hw hQ hX
  refine ha C Hi σ H Γ _ _ Xd c hw (fun vs rs H1 Hi1 Γ1 e1 c1 h1 q1 => ?_) hX
  obtain ⟨ds, bs, q2⟩ := h1.read c1 q1
  have rp := bs.reps c1.imm
  refine ⟨none, ds ++ dv, H1, _, _, [], vs ++ dvs, [], rfl, ⟨rfl, rfl⟩, rp.append (hd H1), Ext.refl _, fun a ha => (nomatch ha), q2, fun v r H' Hi' io' fp' L ra ⟨fl, q⟩ => ?_, fun x cl d H' Hi' io' fp' L hx q => ?_⟩
  · have k : Ext H1 H' := fun a o h => L.keep a o h (fun z => nomatch z)
    have c3 := c1.grow k (Ext.refl _) (c1.imm.trans k) fun _ _ z => .inl z
    cases r with
    | sh d => exact hQ v (.sh d) H' Hi1 Γ1 e1 ⟨c3, Rep.flat_any ra fl⟩ q
    | vr i => exact ra.elim
    | op t d => exact fl.elim
    | ow d =>
      obtain ⟨p, rfl, ow, hn, h0, hnf⟩ := ra
      cases d with
      | list l =>
        cases ow with
        | lst hl rl =>
          obtain ⟨fpc, c1⟩ := c1
          obtain ⟨n1, n2⟩ := c1.fresh h0
          have c4 := c1.grow k (Ext.refl _) (c1.imm.trans k) fun _ _ z => .inl z
          refine hQ _ (.ow (.list l)) H' Hi1 Γ1 e1 ⟨c4.len, _, c4.push2 (x := some (.ref p)) (l := [p]) (s := .ow (.list l)) ⟨p, rfl, rfl, .lst hl (rl.flat_any fl), n2⟩ fun a ha => ?_⟩ q
          have : a = p := by simpa using ha
          subst this
          exact ⟨n1, fun j hj hm => by obtain ⟨o, z⟩ := c1.trk hj hm; rw [h0] at z; cases z⟩
      | _ => exact fl.elim
  · have k : Ext H1 H' := fun a o h => L.keep a o h (fun z => nomatch z)
    exact hX x cl d H' Hi1 Γ1 e1 (c1.grow k (Ext.refl _) (c1.imm.trans k) fun _ _ z => .inl z) (xr_none q.1 hx) q.2
theorem de_callBD {k : Nat} {x : Str} {fs : FS} {ps : List Str} {dvs : List V} {dvd : List D} (hK : X.K = G.K) (F : Gd X.prog X.w G X.mg X.base k x fs ps dvs) (hr : Room k X.A) (tk : L2N.Takes X W) (hd : ∀ Hi, Reps G.K Hi dvs dvd) (ha : DA X G W (e :: es) t w) (hg : Gl X x := by rfl) (hdb : (x == ("__debug__" : Str)) = false := by decide)
    (he : starEach (e :: es) X.env = (false, eval e X.env) :: starEach es X.env := by rfl) (hpl : (backTo pos (starEach es X.env)).any (·.1) = false := by rfl) :
    DE X G W (.Call (.Name x p) (e :: es) [] pos) (tCallSD (lift G fs) dvs (L2.WE W) t) (wCallB fs dvd w) := by
  obtain ⟨f, fd, h1, h2, h3, ds, h4, h5⟩ := F
  rw [← hK] at h2 h5
  refine ⟨pe_callSD ?_ hr hg h1 h2 h5 h4 (L2N.passAt tk) ha.pe hdb he hpl, sim_callB hd ha.sim⟩
  rw [hK]; exact h3
theorem de_callB {k : Nat} {x : Str} {fs : FS} {ps : List Str} (hK : X.K = G.K) (F : Gd X.prog X.w G X.mg X.base k x fs ps []) (hr : Room k X.A) (tk : L2N.Takes X W) (ha : DA X G W (e :: es) t w) (hg : Gl X x := by rfl) (hdb : (x == ("__debug__" : Str)) = false := by decide)
    (he : starEach (e :: es) X.env = (false, eval e X.env) :: starEach es X.env := by rfl) (hpl : (backTo pos (starEach es X.env)).any (·.1) = false := by rfl) :
    DE X G W (.Call (.Name x p) (e :: es) [] pos) (tCallSD (lift G fs) [] (L2.WE W) t) (wCallB fs [] w) := de_callBD hK F hr tk (fun _ => .nil) ha hg hdb he hpl
/-- len(script), script[e]: the opaque script -/
def wLenS (i : Nat) : WE := fun Γ Q _ => match Γ[i]? with
  | some (.op 0 (.list l)) => Q (.sh (.int (l.length : Int))) Γ
  | _ => False
def wIxS (i : Nat) (wa : WE) : WE := fun Γ Q X => isOwn Γ i ∧ wa Γ (fun r Γ1 => rdW r Γ1 fun d => isI d fun n => match Γ1[i]? with
  | some (.op 0 (.list l)) => (match atI l n with
    | some d => Q (.sh d) Γ1
    | none => False)
  | _ => False) X

/-! ### walked things, targets, comprehensions -/
variable {tg : Expr} {tI : TI} {wI : WI}
theorem di_list (hK : X.K = G.K) (h : DE X G W a ta wa) : DI X G W tg a (iList G.K ta) (wiL wa) := ⟨by rw [← hK]; exact pi_list h.pe, simi_list h.sim⟩
theorem di_str (h : DE X G W a ta wa) : DI X G W tg a (iStr ta) (wiS wa) := ⟨pi_str h.pe, simi_str h.sim⟩
theorem di_range1 (hm : X.mg "range" = none) (h : DA X G W [a] t w) (hg : Gl X "range" := by rfl) (hs : starEach [a] X.env = [(false, eval a X.env)] := by rfl) : DI X G W tg (.Call (.Name "range" p) [a] [] pos) (iRng1 t) (wiR1 w) := ⟨pi_range1 hg hm h.pe hs, simi_range1 h.sim⟩
theorem di_range2 (hm : X.mg "range" = none) (h : DA X G W [a, b] t w) (hg : Gl X "range" := by rfl) (hs : starEach [a, b] X.env = [(false, eval a X.env), (false, eval b X.env)] := by rfl) (hs2 : starEach [b] X.env = [(false, eval b X.env)] := by rfl) :
    DI X G W tg (.Call (.Name "range" p) [a, b] [] pos) (iRng2 t) (wiR2 w) := ⟨pi_range2 hg hm h.pe hs hs2, simi_range2 h.sim⟩
theorem di_enum {kk : Nat} {elts : List Expr} (hK : X.K = G.K) (hm : X.mg "enumerate" = none) (h : DA X G W [a] t w) (hg : Gl X "enumerate" := by rfl) (hs : starEach [a] X.env = [(false, eval a X.env)] := by rfl) :
    DI X G W (.Tuple elts kk p2) (.Call (.Name "enumerate" p) [a] [] pos) (iEnum G.K t) (wiA enumD w) := ⟨by rw [← hK]; exact pi_enum hg hm h.pe hs, simi_enum h.sim⟩
theorem di_rev (hK : X.K = G.K) (hm : X.mg "reversed" = none) (h : DA X G W [a] t w) (hg : Gl X "reversed" := by rfl) (hs : starEach [a] X.env = [(false, eval a X.env)] := by rfl) :
    DI X G W tg (.Call (.Name "reversed" p) [a] [] pos) (iRev G.K t) (wiA List.reverse w) := ⟨by rw [← hK]; exact pi_reversed hg hm h.pe hs, simi_rev h.sim⟩
theorem di_zip {kk : Nat} {elts : List Expr} (hK : X.K = G.K) (hm : X.mg "zip" = none) (h : DA X G W [a, b] t w) (hg : Gl X "zip" := by rfl) (hs : starEach [a, b] X.env = (false, eval a X.env) :: starEach [b] X.env := by rfl) (hpl : (backTo pos (starEach [b] X.env)).any (·.1) = false := by rfl) :
    DI X G W (.Tuple elts kk p2) (.Call (.Name "zip" p) [a, b] [] pos) (iZip G.K t) (wiZ w) := ⟨by rw [← hK]; exact pi_zip hg hm h.pe hs hpl, simi_zip h.sim⟩
theorem dg_name (i : Nat) {x : Str} (hN : X.N.Nodup) (hi : X.N[i]? = some x := by rfl) (hx : L2.Loc X.env.scope x := by first | exact .inl rfl | exact .inr rfl) (hf : X.fn x = true ∨ X.env.scope.names.lookup x = some .local := by first | exact .inl rfl | exact .inr rfl) :
    DG X G (.Name x pos) (gName i) (wgName i) := ⟨pg_name hN hi hx hf, simg_name i⟩
theorem dgs_nil : DGs X G [] gNil wgNil := ⟨pgs_nil, simg_nil⟩
variable {g : TG} {gs : TGs} {wg : WG} {wgs : WGs} {vs : List Nat}
theorem dgs_cons (h : DG X G e g wg) (h2 : DGs X G es gs wgs) (h3 : (assignEach (e :: es) X.env).map (·.2) = assign e X.env :: (assignEach es X.env).map (·.2) := by rfl) : DGs X G (e :: es) (gCons g gs) (wgCons wg wgs) := ⟨pgs_cons h.pe h2.pe h3, simg_cons h.sim h2.sim⟩
theorem dg_tup {k n : Nat} (hK : X.K = G.K) (hc : X.calm = true) (h : DGs X G es gs wgs) (h1 : (assignEach es X.env).length = n := by rfl) (h2 : (assignEach es X.env).findIdx? (·.1) = none := by rfl) : DG X G (.Tuple es k pos) (gTup G.K n gs) (wgTup n wgs) :=
  ⟨by rw [← hK]; exact pg_tup hc h.pe h1 h2, simg_tup h.sim⟩
theorem dgw_name (i : Nat) {x : Str} (hN : X.N.Nodup) (hm : i ∈ vs := by decide) (hi : X.N[i]? = some x := by rfl) (hx : L2.Loc X.env.scope x := by first | exact .inl rfl | exact .inr rfl) (hf : X.fn x = true ∨ X.env.scope.names.lookup x = some .local := by first | exact .inl rfl | exact .inr rfl) :
    DGw X G vs (.Name x pos) (gName i) (wgName i) := ⟨pg_name hN hi hx hf, simgw_name i hm⟩
theorem dgsw_nil : DGsw X G vs [] gNil wgNil := ⟨pgs_nil, simgw_nil⟩
theorem dgsw_cons (h : DGw X G vs e g wg) (h2 : DGsw X G vs es gs wgs) (h3 : (assignEach (e :: es) X.env).map (·.2) = assign e X.env :: (assignEach es X.env).map (·.2) := by rfl) : DGsw X G vs (e :: es) (gCons g gs) (wgCons wg wgs) := ⟨pgs_cons h.pe h2.pe h3, simgw_cons h.sim h2.sim⟩
theorem dgw_tup {k n : Nat} (hK : X.K = G.K) (hc : X.calm = true) (h : DGsw X G vs es gs wgs) (h1 : (assignEach es X.env).length = n := by rfl) (h2 : (assignEach es X.env).findIdx? (·.1) = none := by rfl) : DGw X G vs (.Tuple es k pos) (gTup G.K n gs) (wgTup n wgs) :=
  ⟨by rw [← hK]; exact pg_tup hc h.pe h1 h2, simgw_tup h.sim⟩
theorem dts_nil : DTs X G W [] tYes wYes := ⟨pts_nil, sim_yes⟩
theorem dts_one (h : DT X G W a tt wt) : DTs X G W [a] tt wt := ⟨pts_one h.pe, h.sim⟩
abbrev Blk (X : Cx) (scope : Scope) (s : Shared) (H : Hp) (C : Addr) (cl : List (Str × Addr)) (fp : List Addr) : Cx := X.blk s H scope (compEnvC scope cl C X.env) fp
variable {ifs : List Expr} {scope : Scope} {own : List (Str × Nat)}
theorem de_lc (hc : X.calm = true) (hN : X.N.Nodup) (hi : DI X G W tg a tI wI) (ok : BlkOk X.N X.env.scope scope own) (nd : (own.map (·.2)).Nodup)
    (hg : ∀ s H C cl fp, DGw (Blk X scope s H C cl fp) G (own.map (·.2)) tg g wg) (ht : ∀ s H C cl fp, DTs (Blk X scope s H C cl fp) G noW ifs tt wt) (he : ∀ s H C cl fp, DE (Blk X scope s H C cl fp) G noW e te we) (hs : ∀ x, foldedSetIterable a X.env x = pure x := by intro _; rfl) :
    DE X G W (.ListComp e [⟨tg, a, ifs, 0⟩] scope pos) (tLc tI g tt te (own.map (·.2))) (wLc (own.map (·.2)) wI wg wt we) :=
  ⟨pe_lc hc hN hi.pe ok (fun s H C cl fp => (hg s H C cl fp).pe) (fun s H C cl fp => (ht s H C cl fp).pe) (fun s H C cl fp => (he s H C cl fp).pe) hs,
    sim_lc nd hi.sim (hg X.s_0 X.H_0 0 [] []).sim (ht X.s_0 X.H_0 0 [] []).sim (he X.s_0 X.H_0 0 [] []).sim⟩
theorem ds_setLc {y : Str} {py spos : Pos} (i : Nat) (hc : X.calm = true) (hN : X.N.Nodup) (hi : DI X G W tg a tI wI) (ok : BlkOk X.N X.env.scope scope own) (nd : (own.map (·.2)).Nodup)
    (hg : ∀ s H C cl fp, DGw (Blk X scope s H C cl fp) G (own.map (·.2)) tg g wg) (ht : ∀ s H C cl fp, DTs (Blk X scope s H C cl fp) G noW ifs tt wt) (he : ∀ s H C cl fp, DE (Blk X scope s H C cl fp) G noW e te we)
    (hsw : swapsWith (.ListComp e [⟨tg, a, ifs, 0⟩] scope pos) (some (.Name y py)) spos.line X.env = pure true) (hy : X.N[i]? = some y := by rfl) (hyl : X.env.scope.names.lookup y = some .local := by rfl) (hs : ∀ x, foldedSetIterable a X.env x = pure x := by intro _; rfl) :
    DS X G W (.Assign [.Name y py] (.ListComp e [⟨tg, a, ifs, 0⟩] scope pos) spos) (tAsg (tLc tI g tt te (own.map (·.2))) (gName i)) (wSet i (wLc (own.map (·.2)) wI wg wt we)) :=
  ⟨ps_setLc hc hN hy hyl hsw hi.pe ok (fun s H C cl fp => (hg s H C cl fp).pe) (fun s H C cl fp => (ht s H C cl fp).pe) (fun s H C cl fp => (he s H C cl fp).pe) hs,
    sim_set i (sim_lc nd hi.sim (hg X.s_0 X.H_0 0 [] []).sim (ht X.s_0 X.H_0 0 [] []).sim (he X.s_0 X.H_0 0 [] []).sim)⟩
theorem de_dc {tk tv : TE} {wk wv : WE} {kx vx : Expr} (hc : X.calm = true) (hN : X.N.Nodup) (hi : DI X G W tg a tI wI) (ok : BlkOk X.N X.env.scope scope own) (nd : (own.map (·.2)).Nodup)
    (hg : ∀ s H C cl fp, DGw (Blk X scope s H C cl fp) G (own.map (·.2)) tg g wg) (ht : ∀ s H C cl fp, DTs (Blk X scope s H C cl fp) G noW ifs tt wt) (hk : ∀ s H C cl fp, DE (Blk X scope s H C cl fp) G noW kx tk wk) (hv : ∀ s H C cl fp, DE (Blk X scope s H C cl fp) G noW vx tv wv)
    (hs : ∀ x, foldedSetIterable a X.env x = pure x := by intro _; rfl) :
    DE X G W (.DictComp kx vx [⟨tg, a, ifs, 0⟩] scope pos) (tDc tI g tt tk tv (own.map (·.2))) (wDc (own.map (·.2)) wI wg wt wk wv) :=
  ⟨pe_dc hc hN hi.pe ok (fun s H C cl fp => (hg s H C cl fp).pe) (fun s H C cl fp => (ht s H C cl fp).pe) (fun s H C cl fp => (hk s H C cl fp).pe) (fun s H C cl fp => (hv s H C cl fp).pe) hs,
    sim_dc nd hi.sim (hg X.s_0 X.H_0 0 [] []).sim (ht X.s_0 X.H_0 0 [] []).sim (hk X.s_0 X.H_0 0 [] []).sim (hv X.s_0 X.H_0 0 [] []).sim⟩

/-! ### statements -/
variable {st : Stmt} {sts b1 b2 : List Stmt} {ts us : TS} {ws wu2 : WS}
theorem db_nil : DB X G W [] tNext wNext := ⟨pss_nil, sim_next⟩
theorem db_one (h : DS X G W st ts ws) : DB X G W [st] ts ws := ⟨pss_one h.pe, h.sim⟩
theorem db_cons (h : DS X G W st ts ws) (h2 : DB X G W sts us wu2) : DB X G W (st :: sts) (tSeq ts us) (wSeq ws wu2) := ⟨pss_cons h.pe h2.pe, sim_seq h.sim h2.sim⟩
def wNev : WS := fun _ _ _ => False
theorem ds_never : DS X G W st tNever wNev := ⟨ps_never, fun C Hi σ H Γ Dn Dd Xd c hw _ _ _ _ _ => hw.elim⟩
theorem ds_pass : DS X G W (.Pass pos) tNext wNext := ⟨ps_pass, sim_next⟩
theorem ds_brk : DS X G W (.Break pos) tBreak wBrk := ⟨ps_break, sim_brk⟩
theorem ds_cnt : DS X G W (.Continue pos) tCont wCnt := ⟨ps_continue, sim_cnt⟩
theorem ds_expr (h : DE X G W e te we) (hs : swapsWith e none pos.line X.env = pure false := by rfl) : DS X G W (.Expr e pos) (tDrop te) (wDrop we) := ⟨ps_expr h.pe hs, sim_drop h.sim⟩
theorem ds_ret (h : DE X G W e te we) : DS X G W (.Return (some e) pos) (tRet te) (wRet we) := ⟨ps_ret h.pe, sim_ret h.sim⟩
theorem ds_retN : DS X G W (.Return none pos) tRetN wRetN := ⟨ps_retN, sim_retN⟩
theorem ds_if (hc : DT X G W c tt wt) (h1 : DB X G W b1 ts ws) (h2 : DB X G W b2 us wu2) : DS X G W (.If c b1 b2 pos) (tIfS tt ts us) (wIfS wt ws wu2) := ⟨ps_if hc.pe h1.pe h2.pe, sim_ifS hc.sim h1.sim h2.sim⟩
theorem ds_set (i : Nat) {x : Str} (hN : X.N.Nodup) (he : DE X G W e te we) (hi : X.N[i]? = some x := by rfl) (hx : L2.Loc X.env.scope x := by first | exact .inl rfl | exact .inr rfl) (hs : swapsWith e (some (.Name x pos')) pos.line X.env = pure false := by rfl)
    (hf : X.fn x = true ∨ X.env.scope.names.lookup x = some .local := by first | exact .inl rfl | exact .inr rfl) : DS X G W (.Assign [.Name x pos'] e pos) (tAsg te (gName i)) (wSet i we) := ⟨ps_set hN hi hx he.pe hs hf, sim_set i he.sim⟩
theorem ds_asg (he : DE X G W e te we) (hg : DG X G tg g wg) (hs : swapsWithSole [tg] e pos.line X.env = pure false := by rfl) (hw : swappedStores [tg] e X.env = pure none := by rfl) (ha : (assignEach [tg] X.env).map (·.2) = [assign tg X.env] := by rfl) :
    DS X G W (.Assign [tg] e pos) (tAsg te g) (wAsg we wg) := ⟨ps_asg he.pe hg.pe hs hw ha, sim_asg he.sim hg.sim⟩
theorem ds_par (i j : Nat) {x y : Str} {px py pt pt2 : Pos} {kt k2 : Nat} {wsl : WSl} (hc : X.calm = true) (hN : X.N.Nodup) (ha : DSl X G W [a, b] t wsl) (hij : i ≠ j := by decide) (hi : X.N[i]? = some x := by rfl) (hj : X.N[j]? = some y := by rfl)
    (hx : X.env.scope.names.lookup x = some .local := by rfl) (hy : X.env.scope.names.lookup y = some .local := by rfl) (hsw : swappedStores [.Tuple [.Name x px, .Name y py] kt pt] (.Tuple [a, b] k2 pt2) X.env = pure (some [x, y]) := by rfl)
    (hs : swapsWithSole [.Tuple [.Name x px, .Name y py] kt pt] (.Tuple [a, b] k2 pt2) pos.line X.env = pure false := by rfl) :
    DS X G W (.Assign [.Tuple [.Name x px, .Name y py] kt pt] (.Tuple [a, b] k2 pt2) pos) (tPar i j t) (wPar [i, j] wsl) := ⟨ps_par hc hN hi hj hij hx hy ha.pe hsw hs, sim_par ha.sim⟩
theorem ds_par3 (i j l : Nat) {x y z : Str} {px py pz pt pt2 : Pos} {kt k2 : Nat} {wsl : WSl} (hc : X.calm = true) (hN : X.N.Nodup) (ha : DSl X G W [a, b, c] t wsl) (hij : i ≠ j := by decide) (hil : i ≠ l := by decide) (hjl : j ≠ l := by decide) (hi : X.N[i]? = some x := by rfl) (hj : X.N[j]? = some y := by rfl) (hl : X.N[l]? = some z := by rfl)
    (hx : X.env.scope.names.lookup x = some .local := by rfl) (hy : X.env.scope.names.lookup y = some .local := by rfl) (hz : X.env.scope.names.lookup z = some .local := by rfl) (hsw : swappedStores [.Tuple [.Name x px, .Name y py, .Name z pz] kt pt] (.Tuple [a, b, c] k2 pt2) X.env = pure (some [x, y, z]) := by rfl)
    (hs : swapsWithSole [.Tuple [.Name x px, .Name y py, .Name z pz] kt pt] (.Tuple [a, b, c] k2 pt2) pos.line X.env = pure false := by rfl) :
    DS X G W (.Assign [.Tuple [.Name x px, .Name y py, .Name z pz] kt pt] (.Tuple [a, b, c] k2 pt2) pos) (tPar3 i j l t) (wPar [i, j, l] wsl) := ⟨ps_par3 hc hN hi hj hl hij hil hjl hx hy hz ha.pe hsw hs, sim_par3 ha.sim⟩
/-- four and more -/
theorem dgNames : ∀ {is : List Nat} {es : List Expr}, DGs X G es (gNames is) wgNil → True := fun _ => trivial
theorem pg_names {is : List Nat} {n k k2 : Nat} {pt2 : Pos} {wsl : WSl} (hK : X.K = G.K) (hc : X.calm = true) (ha : DSl X G W es t wsl) {ts' : List Expr} (hg : PGs X ts' (gNames is)) (hn : is.length = n) (hs : n ≤ 1000)
    (h1 : (assignEach ts' X.env).length = n := by rfl) (h2 : (assignEach ts' X.env).findIdx? (·.1) = none := by rfl)
    (hsw : swapsWithSole [.Tuple ts' k p2] (.Tuple es k2 pt2) pos.line X.env = pure false := by rfl) (hw : swappedStores [.Tuple ts' k p2] (.Tuple es k2 pt2) X.env = pure none := by rfl) (hq : (assignEach [.Tuple ts' k p2] X.env).map (·.2) = [assign (.Tuple ts' k p2) X.env] := by rfl) :
    DS X G W (.Assign [.Tuple ts' k p2] (.Tuple es k2 pt2) pos) (tAsg (tTup t) (gTup G.K n (gNames is))) (wPar is wsl) :=
  ⟨ps_asg (pe_tup ha.pe) (by rw [← hK]; exact pg_tup hc hg h1 h2) hsw hw hq, sim_parT hn hs ha.sim⟩
theorem ds_for (hp : PassesOwn (model X.prog X.w) X.A X.env X.xe) (hc : X.calm = true) (hi : DI X G W tg a tI wI) (hg : DG X G tg g wg) (hb : DB X G W b1 ts ws) (hs : ∀ x, foldedSetIterable a X.env x = pure x := by intro _; rfl) :
    DS X G W (.For tg a b1 [] pos) (tFor tI g ts) (wFor wI wg ws) := ⟨ps_for hp hc hi.pe hg.pe hb.pe hs, sim_for hi.sim hg.sim hb.sim⟩
theorem ds_while (hp : PassesOwn (model X.prog X.w) X.A X.env X.xe) (hc : DT X G W c tt wt) (hb : DB X G W b1 ts ws) : DS X G W (.While c b1 [] pos) (tWhile tt ts) (wWhile wt ws) := ⟨ps_while hp hc.pe hb.pe, sim_while hc.sim hb.sim⟩
theorem ds_dput (hu : X.A.units + 65 < cLine) (i : Nat) {x : Str} {k : Expr} {px ps' : Pos} (hk : DE X G W k tb wb) (hv : DE X G W a ta wa) (hN : X.N[i]? = some x := by rfl) (hvis : Vis X.env.scope x := by first | exact Or.inl rfl | exact Or.inr (Or.inl rfl) | exact Or.inr (Or.inr rfl))
    (hd : (x == ("__debug__" : Str)) = false := by decide) (hcd : (x == ("__classdict__" : Str)) = false := by decide) (hs : swapsWith a (some (.Subscript (.Name x px) k ps')) pos.line X.env = pure false := by rfl) :
    DS X G W (.Assign [.Subscript (.Name x px) k ps'] a pos) (sDPut (tVar i) tb ta) (wDPut i wb wa) := ⟨ps_dput (by omega) (pe_var hN hvis hd hcd) hk.pe hv.pe hs, sim_dput i hk.sim hv.sim⟩
theorem ds_lput (i : Nat) {x : Str} {k : Expr} {px ps' : Pos} (hk : DE X G W k tb wb) (hv : DE X G W a ta wa) (hN : X.N[i]? = some x := by rfl) (hvis : Vis X.env.scope x := by first | exact Or.inl rfl | exact Or.inr (Or.inl rfl) | exact Or.inr (Or.inr rfl))
    (hd : (x == ("__debug__" : Str)) = false := by decide) (hcd : (x == ("__classdict__" : Str)) = false := by decide)
    (hq : ∀ v, assign (.Subscript (.Name x px) k ps') X.env v = (do let ov ← holding [v] (eval (.Name x px) X.env); let iv ← holding [v, ov] (eval k X.env); standAt ps'; holding [v, ov, iv] (setItem ov iv v); release [v, ov, iv] []) := by intro _; rfl)
    (hs : swapsWithSole [.Subscript (.Name x px) k ps'] a pos.line X.env = pure false := by rfl) (hw : swappedStores [.Subscript (.Name x px) k ps'] a X.env = pure none := by rfl) (ha : (assignEach [.Subscript (.Name x px) k ps'] X.env).map (·.2) = [assign (.Subscript (.Name x px) k ps') X.env] := by rfl) :
    DS X G W (.Assign [.Subscript (.Name x px) k ps'] a pos) (tAsg ta (gSub (tVar i) tb rSetL)) (wLPut i wb wa) := ⟨ps_asg hv.pe (pg_sub (pe_var hN hvis hd hcd) hk.pe set_list hq) hs hw ha, sim_lput i hk.sim hv.sim⟩
end
end VL

set_option Elab.async false
set_option linter.all false
set_option maxRecDepth 100000
/-! VScr: the script; a law. -/
namespace VL
open PySem L2

/-- the script: a list of ints that stays -/
def ScrOk (K : Fg) (t : Nat) (d : D) (H : Hp) (p : Addr) (fp : List Addr) : Prop := t % 10 = 0 ∧ ∃ ns : List Int, d = .list (ns.map .int) ∧
  ((fp = [] ∧ ∃ (o : Obj) (its : Array Value) (n : Nat), K.lookup p = some o ∧ o.cls = .type "list" ∧ o.dict = none ∧ o.data = .seq its n ∧ its.size ≤ sizeLine ∧ Vals (ns.map V.int) its.toList) ∨ (fp = [p] ∧ Rd H p (.lst (ns.map V.int))))
/-- a deck: at p the pools' list and the number of draws; each pool a list of three ints -/
def DeckOk (t : Nat) (d : D) (H : Hp) (p : Addr) (fp : List Addr) : Prop := t % 10 = 1 ∧ ∃ (n : Nat) (q : Addr) (ys : List Addr) (c : Int), d = .int (n : Int) ∧ fp = p :: q :: ys ∧ p ≠ q ∧ p ∉ ys ∧ q ∉ ys ∧
  H p = some (.lst [.ref q, .int c]) ∧ 0 ≤ c ∧ c ≤ (n : Int) ∧ H q = some (.lst (ys.map .ref)) ∧ ys ≠ [] ∧ ys.length ≤ 63 ∧ ∀ y ∈ ys, ∃ a f k : Int, H y = some (.lst [.int a, .int f, .int k]) ∧ 0 ≤ k ∧ k ≤ 3000 + (n : Int)
/-- an exception of the class cls, its dict at d, caught: at a -/
def KpD (cls : Value) (d : Option Addr) (a : Addr) : HO := .ext fun h => ∃ (oe : Obj) (vs : Array Value), h.get? a = some oe ∧ L2N.Zn cls d oe ∧ oe.data = .fields vs
/-- one without a dict -/
abbrev KpO (cls : Value) (a : Addr) : HO := KpD cls none a
theorem kpD_ok {P : Program} {w : World} {H : Hp} {h : Heap} {a : Addr} {cls : Value} {dx : Option Addr} {oe : Obj} {vs : Array Value} (e : h.get? a = some oe) (z : L2N.Zn cls dx oe) (d : oe.data = .fields vs) : ObjOk P w H h a (KpD cls dx a) :=
  ⟨⟨oe, vs, e, z, d⟩, ⟨oe, e⟩, fun _ _ ⟨u, v, q, r⟩ k => ⟨u, v, k u q, r⟩⟩
theorem kpO_ok {P : Program} {w : World} {H : Hp} {h : Heap} {a : Addr} {cls : Value} {oe : Obj} {vs : Array Value} (e : h.get? a = some oe) (z : L2N.Zn cls none oe) (d : oe.data = .fields vs) : ObjOk P w H h a (KpO cls a) := kpD_ok e z d
/-- an exception that is kept: the name of its class -/
def KepOk (K : Fg) (t : Nat) (d : D) (H : Hp) (p : Addr) (fp : List Addr) : Prop := t % 10 = 2 ∧ ∃ nm : Str, d = .str nm ∧ fp = [p] ∧ H p = some (KpO (.ref (He.ga K nm)) p)
theorem ScrOk.loc {K : Fg} {t : Nat} {d : D} {H H' : Hp} {p : Addr} {fp : List Addr} (h : ScrOk K t d H p fp) (e : ∀ a ∈ fp, H' a = H a) : ScrOk K t d H' p fp := by
  obtain ⟨ht, ns, hd, h⟩ := h
  refine ⟨ht, ns, hd, ?_⟩
  rcases h with h | ⟨hf, h⟩
  · exact .inl h
  · refine .inr ⟨hf, ?_⟩
    have : H' p = H p := e p (by rw [hf]; simp)
    unfold Rd at h ⊢
    rw [this]
    exact h
theorem ScrOk.trk {K : Fg} {t : Nat} {d : D} {H : Hp} {p : Addr} {fp : List Addr} (h : ScrOk K t d H p fp) : ∀ a ∈ fp, ∃ o, H a = some o := by
  intro a ha
  obtain ⟨_, ns, _, h⟩ := h
  rcases h with ⟨hf, _⟩ | ⟨hf, h⟩
  · rw [hf] at ha; cases ha
  · rw [hf] at ha
    have : a = p := by simpa using ha
    subst this
    rcases h with h | ⟨o, h⟩
    · exact ⟨_, h⟩
    · exact ⟨_, h⟩
theorem DeckOk.loc {t : Nat} {d : D} {H H' : Hp} {p : Addr} {fp : List Addr} (h : DeckOk t d H p fp) (e : ∀ a ∈ fp, H' a = H a) : DeckOk t d H' p fp := by
  obtain ⟨ht, n, q, ys, c, hd, hf, h1, h2, h3, h4, h5, h6, h7, h8, h9, h10⟩ := h
  subst hf
  refine ⟨ht, n, q, ys, c, hd, rfl, h1, h2, h3, ?_, h5, h6, ?_, h8, h9, fun y hy => ?_⟩
  · rw [e p (by simp)]; exact h4
  · rw [e q (by simp)]; exact h7
  · rw [e y (by simp [hy])]; exact h10 y hy
theorem DeckOk.trk {t : Nat} {d : D} {H : Hp} {p : Addr} {fp : List Addr} (h : DeckOk t d H p fp) : ∀ a ∈ fp, ∃ o, H a = some o := by
  intro a ha
  obtain ⟨ht, n, q, ys, c, hd, hf, h1, h2, h3, h4, h5, h6, h7, h8, h9, h10⟩ := h
  subst hf
  simp only [List.mem_cons] at ha
  rcases ha with rfl | rfl | ha
  · exact ⟨_, h4⟩
  · exact ⟨_, h7⟩
  · obtain ⟨_, _, _, h, _⟩ := h10 a ha
    exact ⟨_, h⟩
theorem KepOk.loc {K : Fg} {t : Nat} {d : D} {H H' : Hp} {p : Addr} {fp : List Addr} (h : KepOk K t d H p fp) (e : ∀ a ∈ fp, H' a = H a) : KepOk K t d H' p fp := by
  obtain ⟨ht, nm, hd, hf, h1⟩ := h
  exact ⟨ht, nm, hd, hf, by rw [e p (by rw [hf]; simp)]; exact h1⟩
theorem KepOk.trk {K : Fg} {t : Nat} {d : D} {H : Hp} {p : Addr} {fp : List Addr} (h : KepOk K t d H p fp) : ∀ a ∈ fp, ∃ o, H a = some o := by
  intro a ha
  obtain ⟨ht, nm, hd, hf, h1⟩ := h
  rw [hf] at ha
  have : a = p := by simpa using ha
  subst this
  exact ⟨_, h1⟩
/-- a field's value -/
inductive Ix1 : V → D → Prop
  | non : Ix1 .non .none
  | int (i : Int) : Ix1 (.int i) (.int i)
/-- an exception that is kept, with its field 'index': the name of its class, the field's data -/
def KxiOk (K : Fg) (t : Nat) (d : D) (Hi H : Hp) (p : Addr) (fp : List Addr) : Prop := t % 10 = 6 ∧ ∃ (nm : Str) (dx : Addr) (v : V) (dv : D), d = .tuple [.str nm, dv] ∧ fp = [p] ∧ H p = some (KpD (.ref (He.ga K nm)) (some dx) p) ∧ Hi dx = some (.xd [(("index" : Str), v)]) ∧ Ix1 v dv
theorem KxiOk.loc {K : Fg} {t : Nat} {d : D} {Hi Hi' H H' : Hp} {p : Addr} {fp : List Addr} (h : KxiOk K t d Hi H p fp) (ex : Ext Hi Hi') (e : ∀ a ∈ fp, H' a = H a) : KxiOk K t d Hi' H' p fp := by
  obtain ⟨ht, nm, dx, v, dv, hd, hf, h1, h2, h3⟩ := h
  exact ⟨ht, nm, dx, v, dv, hd, hf, by rw [e p (by rw [hf]; simp)]; exact h1, ex _ _ h2, h3⟩
theorem KxiOk.trk {K : Fg} {t : Nat} {d : D} {Hi H : Hp} {p : Addr} {fp : List Addr} (h : KxiOk K t d Hi H p fp) : ∀ a ∈ fp, ∃ o, H a = some o := by
  intro a ha
  obtain ⟨ht, nm, dx, v, dv, hd, hf, h1, _⟩ := h
  rw [hf] at ha
  have : a = p := by simpa using ha
  subst this
  exact ⟨_, h1⟩
theorem KxiOk.swp {K : Fg} {t : Nat} {d : D} {Hi H H' : Hp} {p a : Addr} {fp : List Addr} {u u' : HO} {kvs : List (Key × V)} (h : KxiOk K t d Hi H p fp) (ha : Hi a = some u) (e : Dual kvs u u') (k : ∀ b ∈ fp, H' b = H b) : KxiOk K t d (VL.swp Hi a u') H' p fp := by
  obtain ⟨ht, nm, dx, v, dv, hd, hf, h1, h2, h3⟩ := h
  have : dx ≠ a := fun z => by
    rw [z, ha] at h2
    injection h2 with h2
    rcases e.1 with q | ⟨o, q⟩
    · rw [q] at h2; cases h2
    · rw [q] at h2; cases h2
  exact ⟨ht, nm, dx, v, dv, hd, hf, by rw [k p (by rw [hf]; simp)]; exact h1, by rw [swp_ne this]; exact h2, h3⟩
/-! ### instances of the text's classes -/
/-- what a field holds: shared data; a list or a dict of its own; a dict of lists, of which the last one is its own -/
inductive Fk where
  | sh
  | ow
  | ns
  deriving DecidableEq
/-- an instance's fields, in the order in which they are first stored -/
def spec : Nat → List (Str × Fk)
  | 3 => [("own_score", .sh), ("elapsed", .sh), ("operations", .ow)]
  | 4 => [("scores", .ow)]
  | 7 => [("heard", .sh), ("first_plays", .ow), ("jumps", .ns), ("segment_end", .sh)]
  | _ => []
def clsN : Nat → Str
  | 3 => "Player"
  | 4 => "Console"
  | 7 => "Listener"
  | _ => ""
/-- the values: lists of the thing's own -/
inductive NstKV (K : Fg) (Hi H : Hp) : List (Key × V) → List (D × D) → List Addr → Prop
  | nil : NstKV K Hi H [] [] []
  | cons {k : Key} {r : Addr} {xs : List V} {es : List D} {kvs : List (Key × V)} {ps : List (D × D)} {rs : List Addr} : H r = some (.lst xs) → Reps K Hi xs es → r ∉ rs → NstKV K Hi H kvs ps rs → NstKV K Hi H ((k, .ref r) :: kvs) ((kD k, .list es) :: ps) (r :: rs)
theorem NstKV.to {K : Fg} {Hi Hi' H H' : Hp} {kvs : List (Key × V)} {ps : List (D × D)} {l : List Addr} (h : NstKV K Hi H kvs ps l) (e : Ext Hi Hi') (k : ∀ a ∈ l, H' a = H a) : NstKV K Hi' H' kvs ps l := by
  induction h with
  | nil => exact .nil
  | cons h r n _ ih => exact .cons (by rw [k _ (by simp)]; exact h) (r.mono e) n (ih fun a ha => k a (by simp [ha]))
theorem NstKV.trk {K : Fg} {Hi H : Hp} {kvs : List (Key × V)} {ps : List (D × D)} {l : List Addr} (h : NstKV K Hi H kvs ps l) : ∀ a ∈ l, ∃ o, H a = some o := by
  induction h with
  | nil => exact fun a ha => nomatch ha
  | cons h r n _ ih =>
    intro a ha
    rcases List.mem_cons.mp ha with rfl | ha
    · exact ⟨_, h⟩
    · exact ih a ha
theorem NstKV.swp {K : Fg} {Hi H H' : Hp} {a : Addr} {kvs : List (Key × V)} {ps : List (D × D)} {l : List Addr} {u u' : HO} {ks : List (Key × V)} (h : NstKV K Hi H kvs ps l) (ha : Hi a = some u) (e : Dual ks u u') (k : ∀ b ∈ l, H' b = H b) : NstKV K (VL.swp Hi a u') H' kvs ps l := by
  induction h with
  | nil => exact .nil
  | cons h r n _ ih => exact .cons (by rw [k _ (by simp)]; exact h) (Reps.swp ha e r) n (ih fun a ha => k a (by simp [ha]))
/-- at q a dict of lists of the thing's own; so marked, it is locked -/
def Nst (K : Fg) (Hi H : Hp) (q : Addr) (d : D) (rs : List Addr) : Prop := ∃ kvs ps, ((d = .dict ps ∧ H q = some (.dK kvs)) ∨ (d = .tuple [.dict ps] ∧ ∃ od, H q = some (.frz od (.dK kvs)))) ∧ NstKV K Hi H kvs ps rs ∧ q ∉ rs
theorem Nst.to {K : Fg} {Hi Hi' H H' : Hp} {q : Addr} {d : D} {l : List Addr} (h : Nst K Hi H q d l) (e : Ext Hi Hi') (k : ∀ a ∈ q :: l, H' a = H a) : Nst K Hi' H' q d l := by
  obtain ⟨kvs, ps, h1, h2, h3⟩ := h
  exact ⟨kvs, ps, by rw [k q (by simp)]; exact h1, h2.to e fun a ha => k a (by simp [ha]), h3⟩
theorem Nst.trk {K : Fg} {Hi H : Hp} {q : Addr} {d : D} {l : List Addr} (h : Nst K Hi H q d l) : ∀ a ∈ q :: l, ∃ o, H a = some o := by
  obtain ⟨kvs, ps, h1, h2, h3⟩ := h
  intro a ha
  rcases List.mem_cons.mp ha with rfl | ha
  · rcases h1 with ⟨_, h⟩ | ⟨_, o, h⟩
    · exact ⟨_, h⟩
    · exact ⟨_, h⟩
  · exact h2.trk a ha
theorem Nst.ne {K : Fg} {Hi H : Hp} {q : Addr} {d : D} {l : List Addr} (h : Nst K Hi H q d l) : q ∉ l := let ⟨_, _, _, _, h3⟩ := h; h3
theorem Nst.swp {K : Fg} {Hi H H' : Hp} {q a : Addr} {d : D} {l : List Addr} {u u' : HO} {kvs : List (Key × V)} (h : Nst K Hi H q d l) (ha : Hi a = some u) (e : Dual kvs u u') (k : ∀ b ∈ q :: l, H' b = H b) : Nst K (VL.swp Hi a u') H' q d l := by
  obtain ⟨kvs, ps, h1, h2, h3⟩ := h
  exact ⟨kvs, ps, by rw [k q (by simp)]; exact h1, h2.swp ha e fun a ha => k a (by simp [ha]), h3⟩
inductive Fds (K : Fg) (Hi H : Hp) : List (Str × Fk) → List (Str × V) → List D → List Addr → Prop
  | nil {sp : List (Str × Fk)} : Fds K Hi H sp [] [] []
  | sh {f : Str} {v : V} {d : D} {sp : List (Str × Fk)} {fs : List (Str × V)} {ds : List D} {l : List Addr} : Rep K Hi v d → Fds K Hi H sp fs ds l → Fds K Hi H ((f, .sh) :: sp) ((f, v) :: fs) (d :: ds) l
  | ow {f : Str} {q : Addr} {d : D} {sp : List (Str × Fk)} {fs : List (Str × V)} {ds : List D} {l : List Addr} : Own K Hi H q d → q ∉ l → Fds K Hi H sp fs ds l → Fds K Hi H ((f, .ow) :: sp) ((f, .ref q) :: fs) (d :: ds) (q :: l)
  | ns {f : Str} {q : Addr} {d : D} {rs : List Addr} {sp : List (Str × Fk)} {fs : List (Str × V)} {ds : List D} {l : List Addr} : Nst K Hi H q d rs → q ∉ l → (∀ r ∈ rs, r ∉ l) → Fds K Hi H sp fs ds l → Fds K Hi H ((f, .ns) :: sp) ((f, .ref q) :: fs) (d :: ds) (q :: (rs ++ l))
theorem Fds.to {K : Fg} {Hi Hi' H H' : Hp} (e : Ext Hi Hi') : ∀ {sp : List (Str × Fk)} {fs : List (Str × V)} {ds : List D} {l : List Addr}, Fds K Hi H sp fs ds l → (∀ a ∈ l, H' a = H a) → Fds K Hi' H' sp fs ds l
  | _, _, _, _, .nil, _ => .nil
  | _, _, _, _, .sh r t, k => .sh (r.mono e) (Fds.to e t k)
  | _, _, _, _, .ow o n t, k => .ow (o.to e (k _ List.mem_cons_self)) n (Fds.to e t fun a ha => k a (List.mem_cons_of_mem _ ha))
  | _, _, _, _, .ns o n m t, k => .ns (o.to e fun a ha => k a (by simp only [List.mem_cons, List.mem_append] at ha ⊢; rcases ha with z | z <;> simp [z])) n m (Fds.to e t fun a ha => k a (by simp [ha]))
theorem Fds.trk {K : Fg} {Hi H : Hp} : ∀ {sp : List (Str × Fk)} {fs : List (Str × V)} {ds : List D} {l : List Addr}, Fds K Hi H sp fs ds l → ∀ a ∈ l, ∃ o, H a = some o
  | _, _, _, _, .nil, _, ha => nomatch ha
  | _, _, _, _, .sh _ t, a, ha => Fds.trk t a ha
  | _, _, _, _, .ow o _ t, a, ha => by
    rcases List.mem_cons.mp ha with rfl | ha
    · exact o.trk
    · exact Fds.trk t a ha
  | _, _, _, _, .ns o _ _ t, a, ha => by
    simp only [List.mem_cons, List.mem_append] at ha
    rcases ha with rfl | ha | ha
    · exact o.trk a (by simp)
    · exact o.trk a (by simp [ha])
    · exact Fds.trk t a ha
/-- an instance: at p; its fields -/
structure InsAt (K : Fg) (t : Nat) (Hi H : Hp) (p dx : Addr) (fs : List (Str × V)) (ds : List D) (l : List Addr) : Prop where
  ins : H p = some (.ins (He.ga K (clsN t)) dx fs)
  own : H dx = some (.own p)
  fds : Fds K Hi H (spec t) fs ds l
  n1 : p ≠ dx
  n2 : p ∉ l
  n3 : dx ∉ l
  cls : Cls K (He.ga K (clsN t))
  noat : ∀ f ∈ (spec t).map (·.1), NoAttr K (He.ga K (clsN t)) f
def InsOk (K : Fg) (t : Nat) (d : D) (Hi H : Hp) (p : Addr) (fp : List Addr) : Prop := (t % 10 = 3 ∨ t % 10 = 4 ∨ t % 10 = 7) ∧ ∃ (dx : Addr) (fs : List (Str × V)) (ds : List D) (l : List Addr), d = .tuple ds ∧ fp = p :: dx :: l ∧ InsAt K (t % 10) Hi H p dx fs ds l
theorem InsOk.loc {K : Fg} {t : Nat} {d : D} {Hi Hi' H H' : Hp} {p : Addr} {fp : List Addr} (h : InsOk K t d Hi H p fp) (e : Ext Hi Hi') (k : ∀ a ∈ fp, H' a = H a) : InsOk K t d Hi' H' p fp := by
  obtain ⟨ht, dx, fs, ps, l, hd, hf, I⟩ := h
  subst hf
  exact ⟨ht, dx, fs, ps, l, hd, rfl, by rw [k p (by simp)]; exact I.ins, by rw [k dx (by simp)]; exact I.own, I.fds.to e fun a ha => k a (by simp [ha]), I.n1, I.n2, I.n3, I.cls, I.noat⟩
theorem InsOk.trk {K : Fg} {t : Nat} {d : D} {Hi H : Hp} {p : Addr} {fp : List Addr} (h : InsOk K t d Hi H p fp) : ∀ a ∈ fp, ∃ o, H a = some o := by
  intro a ha
  obtain ⟨ht, dx, fs, ps, l, hd, hf, I⟩ := h
  subst hf
  simp only [List.mem_cons] at ha
  rcases ha with rfl | rfl | ha
  · exact ⟨_, I.ins⟩
  · exact ⟨_, I.own⟩
  · exact I.fds.trk a ha
theorem Own.swp {K : Fg} {Hi H H' : Hp} {p a : Addr} {d : D} {u u' : HO} {kvs : List (Key × V)} (h : Own K Hi H p d) (ha : Hi a = some u) (e : Dual kvs u u') (k : H' p = H p) : Own K (VL.swp Hi a u') H' p d := by
  cases h with
  | lst h r => exact .lst (by rw [k]; exact h) (Reps.swp ha e r)
  | dct h r => exact .dct (by rw [k]; exact h) (RepKV.swp ha e r)
theorem Fds.swp {K : Fg} {Hi H H' : Hp} {a : Addr} {u u' : HO} {kvs : List (Key × V)} (ha : Hi a = some u) (e : Dual kvs u u') : ∀ {sp : List (Str × Fk)} {fs : List (Str × V)} {ds : List D} {l : List Addr}, Fds K Hi H sp fs ds l → (∀ b ∈ l, H' b = H b) → Fds K (VL.swp Hi a u') H' sp fs ds l
  | _, _, _, _, .nil, _ => .nil
  | _, _, _, _, .sh r t, k => .sh (Rep.swp ha e r) (Fds.swp ha e t k)
  | _, _, _, _, .ow o n t, k => .ow (o.swp ha e (k _ List.mem_cons_self)) n (Fds.swp ha e t fun b hb => k b (List.mem_cons_of_mem _ hb))
  | _, _, _, _, .ns o n m t, k => .ns (o.swp ha e fun a ha => k a (by simp only [List.mem_cons, List.mem_append] at ha ⊢; rcases ha with z | z <;> simp [z])) n m (Fds.swp ha e t fun b hb => k b (by simp [hb]))
theorem InsOk.swp {K : Fg} {t : Nat} {d : D} {Hi H H' : Hp} {p a : Addr} {fp : List Addr} {u u' : HO} {kvs : List (Key × V)} (h : InsOk K t d Hi H p fp) (ha : Hi a = some u) (e : Dual kvs u u') (k : ∀ b ∈ fp, H' b = H b) : InsOk K t d (VL.swp Hi a u') H' p fp := by
  obtain ⟨ht, dx, fs, ps, l, hd, hf, I⟩ := h
  subst hf
  exact ⟨ht, dx, fs, ps, l, hd, rfl, by rw [k p (by simp)]; exact I.ins, by rw [k dx (by simp)]; exact I.own, I.fds.swp ha e fun a ha => k a (by simp [ha]), I.n1, I.n2, I.n3, I.cls, I.noat⟩
/-! ### new things, pairs of them -/
/-- a new thing: an int, a text, a list of shared data, a pair of new things -/
inductive NewT (K : Fg) (Hi H : Hp) : V → D → List Addr → Prop
  | int (i : Int) : NewT K Hi H (.int i) (.int i) []
  | str (x : Str) : NewT K Hi H (.str x) (.str x) []
  | lst {p : Addr} {xs : List V} {ds : List D} : H p = some (.lst xs) → Reps K Hi xs ds → NewT K Hi H (.ref p) (.list ds) [p]
  | two {p : Addr} {v w : V} {dv dw : D} {l1 l2 : List Addr} : H p = some (.tup [v, w]) → NewT K Hi H v dv l1 → NewT K Hi H w dw l2 → p ∉ l1 → p ∉ l2 → (∀ a ∈ l1, a ∉ l2) → NewT K Hi H (.ref p) (.tuple [dv, dw]) (p :: (l1 ++ l2))
theorem NewT.loc {K : Fg} {Hi Hi' H H' : Hp} {v : V} {d : D} {l : List Addr} (h : NewT K Hi H v d l) (e : Ext Hi Hi') (k : ∀ a ∈ l, H' a = H a) : NewT K Hi' H' v d l := by
  induction h with
  | int i => exact .int i
  | str x => exact .str x
  | lst h r => exact .lst (by rw [k _ (by simp)]; exact h) (r.mono e)
  | two h _ _ n1 n2 n3 i1 i2 => exact .two (by rw [k _ (by simp)]; exact h) (i1 fun a ha => k a (by simp [ha])) (i2 fun a ha => k a (by simp [ha])) n1 n2 n3
theorem NewT.trk {K : Fg} {Hi H : Hp} {v : V} {d : D} {l : List Addr} (h : NewT K Hi H v d l) : ∀ a ∈ l, ∃ o, H a = some o := by
  induction h with
  | int i => exact fun a ha => nomatch ha
  | str x => exact fun a ha => nomatch ha
  | lst h r =>
    intro a ha
    rw [List.mem_singleton.mp ha]
    exact ⟨_, h⟩
  | two h _ _ n1 n2 n3 i1 i2 =>
    intro a ha
    simp only [List.mem_cons, List.mem_append] at ha
    rcases ha with rfl | ha | ha
    · exact ⟨_, h⟩
    · exact i1 a ha
    · exact i2 a ha
theorem NewT.swp {K : Fg} {Hi H H' : Hp} {v : V} {d : D} {l : List Addr} {a : Addr} {u u' : HO} {kvs : List (Key × V)} (h : NewT K Hi H v d l) (ha : Hi a = some u) (e : Dual kvs u u') (k : ∀ b ∈ l, H' b = H b) : NewT K (VL.swp Hi a u') H' v d l := by
  induction h with
  | int i => exact .int i
  | str x => exact .str x
  | lst h r => exact .lst (by rw [k _ (by simp)]; exact h) (Reps.swp ha e r)
  | two h _ _ n1 n2 n3 i1 i2 => exact .two (by rw [k _ (by simp)]; exact h) (i1 fun a ha => k a (by simp [ha])) (i2 fun a ha => k a (by simp [ha])) n1 n2 n3
theorem NewT.rep {K : Fg} {Hi H : Hp} {v : V} {d : D} {l : List Addr} (h : NewT K Hi H v d l) (e : Ext Hi H) : Rep K H v d := by
  induction h with
  | int i => exact .int i
  | str x => exact .str x
  | lst h r => exact .lst h (r.mono e)
  | two h _ _ n1 n2 n3 i1 i2 => exact .tup h (.cons i1 (.cons i2 .nil))
def StaOk (K : Fg) (t : Nat) (d : D) (Hi H : Hp) (p : Addr) (fp : List Addr) : Prop := t % 10 = 5 ∧ NewT K Hi H (.ref p) d fp
theorem StaOk.loc {K : Fg} {t : Nat} {d : D} {Hi Hi' H H' : Hp} {p : Addr} {fp : List Addr} (h : StaOk K t d Hi H p fp) (e : Ext Hi Hi') (k : ∀ a ∈ fp, H' a = H a) : StaOk K t d Hi' H' p fp := ⟨h.1, h.2.loc e k⟩
theorem StaOk.trk {K : Fg} {t : Nat} {d : D} {Hi H : Hp} {p : Addr} {fp : List Addr} (h : StaOk K t d Hi H p fp) : ∀ a ∈ fp, ∃ o, H a = some o := h.2.trk
theorem StaOk.swp {K : Fg} {t : Nat} {d : D} {Hi H H' : Hp} {p a : Addr} {fp : List Addr} {u u' : HO} {kvs : List (Key × V)} (h : StaOk K t d Hi H p fp) (ha : Hi a = some u) (e : Dual kvs u u') (k : ∀ b ∈ fp, H' b = H b) : StaOk K t d (VL.swp Hi a u') H' p fp := ⟨h.1, h.2.swp ha e k⟩
/-- a listener that is shared from now on: its field jumps -/
def FliOk (K : Fg) (t : Nat) (d : D) (Hi : Hp) (p : Addr) (fp : List Addr) : Prop := t % 10 = 8 ∧ fp = [] ∧ ∃ dx fs q kvs ps, d = .dict ps ∧ Hi p = some (.ins (He.ga K "Listener") dx fs) ∧ Cls K (He.ga K "Listener") ∧ NoAttr K (He.ga K "Listener") "jumps" ∧ fs.lookup ("jumps" : Str) = some (V.ref q) ∧ fs.lookup ("result" : Str) = none ∧ Rd Hi q (.dK kvs) ∧ RepKV K Hi kvs ps
theorem FliOk.loc {K : Fg} {t : Nat} {d : D} {Hi Hi' : Hp} {p : Addr} {fp : List Addr} (h : FliOk K t d Hi p fp) (e : Ext Hi Hi') : FliOk K t d Hi' p fp := by
  obtain ⟨ht, hf, dx, fs, q, kvs, ps, hd, h1, h2, h3, h4, h5, h6, h7⟩ := h
  exact ⟨ht, hf, dx, fs, q, kvs, ps, hd, e _ _ h1, h2, h3, h4, h5, e.rd h6, h7.mono e⟩
theorem FliOk.trk {K : Fg} {t : Nat} {d : D} {Hi H : Hp} {p : Addr} {fp : List Addr} (h : FliOk K t d Hi p fp) : ∀ a ∈ fp, ∃ o, H a = some o := by
  obtain ⟨ht, rfl, _⟩ := h
  exact fun a ha => nomatch ha
theorem FliOk.swp {K : Fg} {t : Nat} {d : D} {Hi : Hp} {p a : Addr} {fp : List Addr} {u u' : HO} {ks : List (Key × V)} (h : FliOk K t d Hi p fp) (ha : Hi a = some u) (e : Dual ks u u') : FliOk K t d (VL.swp Hi a u') p fp := by
  obtain ⟨ht, hf, dx, fs, q, kvs, ps, hd, h1, h2, h3, h4, h5, h6, h7⟩ := h
  have : p ≠ a := fun z => by
    rw [z, ha] at h1
    injection h1 with h1
    rcases e.1 with q | ⟨o, q⟩
    · rw [q] at h1; cases h1
    · rw [q] at h1; cases h1
  exact ⟨ht, hf, dx, fs, q, kvs, ps, hd, by rw [swp_ne this]; exact h1, h2, h3, h4, h5, Rd.swp ha e h6, RepKV.swp ha e h7⟩
/-- all opaque things -/
def OpS (K : Fg) : OpSem where
  ok := fun t d Hi H p fp => ScrOk K t d H p fp ∨ DeckOk t d H p fp ∨ KepOk K t d H p fp ∨ InsOk K t d Hi H p fp ∨ StaOk K t d Hi H p fp ∨ KxiOk K t d Hi H p fp ∨ FliOk K t d Hi p fp
  loc := fun h e k => h.imp (fun h => h.loc k) fun h => h.imp (fun h => h.loc k) fun h => h.imp (fun h => h.loc k) fun h => h.imp (fun h => h.loc e k) fun h => h.imp (fun h => h.loc e k) fun h => h.imp (fun h => h.loc e k) fun h => h.loc e
  trk := fun h => by
    rcases h with h | h | h | h | h | h | h
    · exact h.trk
    · exact h.trk
    · exact h.trk
    · exact h.trk
    · exact h.trk
    · exact h.trk
    · exact h.trk
  swp := fun {t d Hi H p fp a u u' kvs} h ha e n => by
    have k : ∀ b ∈ fp, VL.swp H a u' b = H b := fun b hb => swp_ne (n b hb)
    rcases h with h | h | h | h | h | h | h
    · exact .inl (h.loc k)
    · exact .inr (.inl (h.loc k))
    · exact .inr (.inr (.inl (h.loc k)))
    · exact .inr (.inr (.inr (.inl (h.swp ha e k))))
    · exact .inr (.inr (.inr (.inr (.inl (h.swp ha e k)))))
    · exact .inr (.inr (.inr (.inr (.inr (.inl (h.swp ha e k))))))
    · exact .inr (.inr (.inr (.inr (.inr (.inr (h.swp ha e))))))
  hnd := fun {t d Hi H p fp} => by
    have e : t % 10 % 10 = t % 10 := by omega
    unfold ScrOk DeckOk KepOk InsOk StaOk KxiOk FliOk
    rw [e]
theorem op_scr {K : Fg} {d : D} {Hi H : Hp} {p : Addr} {fp : List Addr} (h : (OpS K).ok 0 d Hi H p fp) : ScrOk K 0 d H p fp := by
  rcases h with h | h | h | h | h | h | h
  · exact h
  · have := h.1; omega
  · have := h.1; omega
  · have := h.1; omega
  · have := h.1; omega
  · have := h.1; omega
  · have := h.1; omega
theorem op_deck {K : Fg} {t : Nat} {d : D} {Hi H : Hp} {p : Addr} {fp : List Addr} (ht : t % 10 = 1) (h : (OpS K).ok t d Hi H p fp) : DeckOk t d H p fp := by
  rcases h with h | h | h | h | h | h | h
  · have := h.1; omega
  · exact h
  · have := h.1; omega
  · have := h.1; omega
  · have := h.1; omega
  · have := h.1; omega
  · have := h.1; omega
theorem op_kep {K : Fg} {t : Nat} {d : D} {Hi H : Hp} {p : Addr} {fp : List Addr} (ht : t % 10 = 2) (h : (OpS K).ok t d Hi H p fp) : KepOk K t d H p fp := by
  rcases h with h | h | h | h | h | h | h
  · have := h.1; omega
  · have := h.1; omega
  · exact h
  · have := h.1; omega
  · have := h.1; omega
  · have := h.1; omega
  · have := h.1; omega
theorem op_ins {K : Fg} {t : Nat} {d : D} {Hi H : Hp} {p : Addr} {fp : List Addr} (ht : t % 10 = 3 ∨ t % 10 = 4 ∨ t % 10 = 7) (h : (OpS K).ok t d Hi H p fp) : InsOk K t d Hi H p fp := by
  rcases h with h | h | h | h | h | h | h
  · have := h.1; omega
  · have := h.1; omega
  · have := h.1; omega
  · exact h
  · have := h.1; omega
  · have := h.1; omega
  · have := h.1; omega
theorem op_sta {K : Fg} {t : Nat} {d : D} {Hi H : Hp} {p : Addr} {fp : List Addr} (ht : t % 10 = 5) (h : (OpS K).ok t d Hi H p fp) : StaOk K t d Hi H p fp := by
  rcases h with h | h | h | h | h | h | h
  · have := h.1; omega
  · have := h.1; omega
  · have := h.1; omega
  · have := h.1; omega
  · exact h
  · have := h.1; omega
  · have := h.1; omega
theorem op_kxi {K : Fg} {t : Nat} {d : D} {Hi H : Hp} {p : Addr} {fp : List Addr} (ht : t % 10 = 6) (h : (OpS K).ok t d Hi H p fp) : KxiOk K t d Hi H p fp := by
  rcases h with h | h | h | h | h | h | h
  · have := h.1; omega
  · have := h.1; omega
  · have := h.1; omega
  · have := h.1; omega
  · have := h.1; omega
  · exact h
  · have := h.1; omega
theorem op_fli {K : Fg} {t : Nat} {d : D} {Hi H : Hp} {p : Addr} {fp : List Addr} (ht : t % 10 = 8) (h : (OpS K).ok t d Hi H p fp) : FliOk K t d Hi p fp := by
  rcases h with h | h | h | h | h | h | h
  · have := h.1; omega
  · have := h.1; omega
  · have := h.1; omega
  · have := h.1; omega
  · have := h.1; omega
  · have := h.1; omega
  · exact h
theorem ScrOk.sq {K : Fg} {t : Nat} {d : D} {H : Hp} {p : Addr} {fp : List Addr} (h : ScrOk K t d H p fp) : ∃ ns : List Int, d = .list (ns.map .int) ∧ SqL K H p (ns.map V.int) := by
  obtain ⟨_, ns, hd, h⟩ := h
  refine ⟨ns, hd, ?_⟩
  rcases h with ⟨_, h⟩ | ⟨_, h⟩
  · exact .inr h
  · exact .inl h
theorem ScrOk.of {K : Fg} {H : Hp} {p : Addr} {ns : List Int} (h : SqL K H p (ns.map V.int)) : ∃ fp, ScrOk K 0 (.list (ns.map .int)) H p fp := by
  rcases h with h | h
  · exact ⟨[p], rfl, ns, rfl, .inr ⟨rfl, h⟩⟩
  · exact ⟨[], rfl, ns, rfl, .inl ⟨rfl, h⟩⟩
section
variable {X : Cx} {G : Gb} {W : WX} {a b c e o i : Expr} {es : List Expr} {ta tb tc te to ti : TE} {wa wb wc we wo wi : WE} {pos pos' p p2 p3 : Pos} {t : TA} {w : WA}
theorem sim_lenS (hO : G.Op = OpS G.K) (i : Nat) : SimE G W (tCB (rLenA G.K) (tCons (tVar i) tNil)) (wLenS i) := by
  intro C Hi σ H Γ Q Qd Xd c hw hQ hX
  unfold wLenS at hw
  split at hw
  · rename_i l e
    obtain ⟨fp, c0⟩ := id c
    obtain ⟨x, hx, p, rfl, ok, _⟩ := c0.sl i _ e
    rw [hO] at ok
    obtain ⟨ns, hd, s⟩ := ScrOk.sq (op_scr ok)
    refine ⟨_, hx, .inl ⟨_, l.length, rfl, .inl ⟨_, s, ?_⟩, hQ _ _ H Hi Γ (Ext.refl _) (out_int c _) hw⟩⟩
    injection hd with hd
    rw [hd]; simp
  · exact hw.elim
theorem de_lenS (hK : X.K = G.K) (hO : G.Op = OpS G.K) (i : Nat) {x : Str} (hm : X.mg "len" = none) (hN : X.N[i]? = some x := by rfl) (hv : Vis X.env.scope x := by first | exact Or.inl rfl | exact Or.inr (Or.inl rfl) | exact Or.inr (Or.inr rfl)) (hd : (x == ("__debug__" : Str)) = false := by decide)
    (hcd : (x == ("__classdict__" : Str)) = false := by decide) (hg : Gl X "len" := by rfl) (he : starEach [.Name x p2] X.env = (false, eval (.Name x p2) X.env) :: starEach [] X.env := by rfl) (hpl : (backTo pos (starEach [] X.env)).any (·.1) = false := by rfl) :
    DE X G W (.Call (.Name "len" p) [.Name x p2] [] pos) (tCB (rLenA G.K) (tCons (tVar i) tNil)) (wLenS i) :=
  ⟨pe_callB (by rw [← hK]; exact call_lenA) hg hm (by decide +kernel) (pa_cons (pe_var hN hv hd hcd) pa_nil he) (by decide) (by decide) he hpl, sim_lenS hO i⟩
theorem atI_map {α β : Type} (f : α → β) (l : List α) (i : Int) : atI (l.map f) i = (atI l i).map f := by
  unfold atI
  rw [List.length_map]
  cases ixN l.length i with
  | none => rfl
  | some j => simp
theorem sim_ixS (hO : G.Op = OpS G.K) (i : Nat) (h : SimE G W ta wa) : SimE G W (tOp (rIxA G.K) (tVar i) ta) (wIxS i wa) := by
  intro C Hi σ H Γ Q Qd Xd c hw hQ hX
  obtain ⟨ho, hw⟩ := hw
  have hp : ∃ p, σ[i]? = some (some (.ref p)) := by
    obtain ⟨fpc, c⟩ := c
    unfold isOwn at ho
    split at ho
    · rename_i d e
      obtain ⟨x, hx, p, _, e1, _⟩ := c.sl i _ e
      exact ⟨p, by rw [hx, e1]⟩
    · rename_i d e
      obtain ⟨x, hx, p, _, e1, _⟩ := c.sl i _ e
      exact ⟨p, by rw [hx, e1]⟩
    · rename_i t d e
      obtain ⟨x, hx, p, e1, _⟩ := c.sl i _ e
      exact ⟨p, by rw [hx, e1]⟩
    · exact ho.elim
  obtain ⟨p, hp⟩ := hp
  refine ⟨_, hp, h C Hi σ H Γ _ _ Xd c hw (fun v1 r1 H1 Hi1 Γ1 e1 o1 q1 => ?_) hX⟩
  obtain ⟨Hi2, e2, c2, h2⟩ := o1.hold
  obtain ⟨d, b1, q2⟩ := h2.read c2 q1
  obtain ⟨n, rfl, q3⟩ := isI_inv q2
  split at q3
  · rename_i l e
    split at q3
    · rename_i d ed
      obtain ⟨fp, c0⟩ := id c2
      obtain ⟨x, hx, p', rfl, ok, _⟩ := c0.sl i _ e
      rw [hp] at hx; cases hx
      rw [hO] at ok
      obtain ⟨ns, hd, s⟩ := ScrOk.sq (op_scr ok)
      injection hd with hd
      subst hd
      rw [atI_map] at ed
      cases eq : atI ns n with
      | none => rw [eq] at ed; cases ed
      | some z =>
        rw [eq] at ed
        cases ed
        exact .inl (.inl ⟨p, ns.map V.int, n, .int z, rfl, b1.int, s, by rw [atI_map, eq]; rfl, hQ _ (.sh (.int z)) H1 Hi2 Γ1 (e1.trans e2) (out_int c2 _) q3⟩)
    · exact q3.elim
  · exact q3.elim
theorem de_ixS (hK : X.K = G.K) (hO : G.Op = OpS G.K) (hu : X.A.units + 65 < cLine) (i : Nat) {x : Str} (hb : DE X G W b tb wb) (hN : X.N[i]? = some x := by rfl) (hv : Vis X.env.scope x := by first | exact Or.inl rfl | exact Or.inr (Or.inl rfl) | exact Or.inr (Or.inr rfl)) (hd : (x == ("__debug__" : Str)) = false := by decide)
    (hcd : (x == ("__classdict__" : Str)) = false := by decide) (hs : PlainIx b := by intro _ _; rfl) : DE X G W (.Subscript (.Name x p) b pos) (tOp (rIxA G.K) (tVar i) tb) (wIxS i wb) :=
  ⟨pe_ix (by rw [← hK]; exact ix_any (by omega)) (pe_var hN hv hd hcd) hb.pe hs, sim_ixS hO i hb.sim⟩
end
/-! ### a law -/
/-- what a law promises -/
def fsLaw : FS := fun io ds Q _ => ∃ ns : List Int, ns.length ≤ 63 ∧ io = some (.op 0 (.list (ns.map .int))) ∧ ds = [] ∧ ∀ io', SameIo io io' → Q (.sh (.bool true)) io'
theorem law_sp {K : Fg} {ca : Str → Addr} {H : Hp} {a : Addr} {ns : List Int} (hl : ns.length ≤ 63) (h : SqL K H a (ns.map V.int)) : lift ⟨K, OpS K, ca⟩ fsLaw [.ref a] H (fun v _ => v = .bl true) fun _ _ _ => False := by
  obtain ⟨fp, ok⟩ := ScrOk.of h
  refine ⟨some (.op 0 (.list (ns.map .int))), [], fun _ => none, fun r _ => r = .sh (.bool true), fun _ _ => False, [.ref a], [], fp, rfl, ⟨by decide, a, rfl, .inl ok⟩, .nil, fun _ _ z => (nomatch z), fun _ _ => rfl, ⟨ns, hl, rfl, rfl, fun _ _ => rfl⟩, fun v r H' Hi' io' fp' L ra q => ?_, fun x c d H' Hi' io' fp' L hx q => q⟩
  subst q
  have ra : Rep K Hi' v (.bool true) := ra
  cases ra
  rfl
theorem fsLaw_len : FnL fsLaw 1 := by
  rintro io ds Q X ⟨ns, _, rfl, rfl, _⟩
  rfl
end VL

set_option Elab.async false
set_option linter.all false
/-! VEv: the plain wishes, reckoned by simp. -/
namespace VL
open PySem L2
@[simp ↓] theorem ev_wC (d : D) (Γ : Ev) (Q : R → Ev → Prop) (X : XW) : wC d Γ Q X = (Q (.sh d) Γ) := rfl
@[simp ↓] theorem ev_wOp (o : Op2) (wa wb : WE) (Γ : Ev) (Q : R → Ev → Prop) (X : XW) : wOp o wa wb Γ Q X = (wa Γ (fun ra Γ1 => wb Γ1 (fun rb Γ2 => rdW ra Γ2 fun a => rdW rb Γ2 fun b => o a b fun r => Q r Γ2) X) X) := rfl
@[simp ↓] theorem ev_wUn (o : Op1) (wa : WE) (Γ : Ev) (Q : R → Ev → Prop) (X : XW) : wUn o wa Γ Q X = (wa Γ (fun ra Γ1 => rdW ra Γ1 fun a => o a fun r => Q r Γ1) X) := rfl
@[simp ↓] theorem ev_wT (w : WE) (Γ : Ev) (Q : Bool → Ev → Prop) (X : XW) : wT w Γ Q X = (w Γ (fun r Γ1 => rdW r Γ1 fun d => isB d fun b => Q b Γ1) X) := rfl
@[simp ↓] theorem ev_wAnd (a b : WT) (Γ : Ev) (Q : Bool → Ev → Prop) (X : XW) : wAnd a b Γ Q X = (a Γ (fun c Γ1 => if c = true then b Γ1 Q X else Q false Γ1) X) := rfl
@[simp ↓] theorem ev_wOr (a b : WT) (Γ : Ev) (Q : Bool → Ev → Prop) (X : XW) : wOr a b Γ Q X = (a Γ (fun c Γ1 => if c = true then Q true Γ1 else b Γ1 Q X) X) := rfl
@[simp ↓] theorem ev_wNot (a : WT) (Γ : Ev) (Q : Bool → Ev → Prop) (X : XW) : wNot a Γ Q X = (a Γ (fun c Γ1 => Q (!c) Γ1) X) := rfl
@[simp ↓] theorem ev_wAndV (wa wb : WE) (Γ : Ev) (Q : R → Ev → Prop) (X : XW) : wAndV wa wb Γ Q X = (wa Γ (fun r Γ1 => rdW r Γ1 fun d => isB d fun b => if b = true then wb Γ1 Q X else Q (.sh (.bool false)) Γ1) X) := rfl
@[simp ↓] theorem ev_wOrV (wa wb : WE) (Γ : Ev) (Q : R → Ev → Prop) (X : XW) : wOrV wa wb Γ Q X = (wa Γ (fun r Γ1 => rdW r Γ1 fun d => isB d fun b => if b = true then Q (.sh (.bool true)) Γ1 else wb Γ1 Q X) X) := rfl
@[simp ↓] theorem ev_wNotV (wa : WE) (Γ : Ev) (Q : R → Ev → Prop) (X : XW) : wNotV wa Γ Q X = (wa Γ (fun r Γ1 => rdW r Γ1 fun d => isB d fun b => Q (.sh (.bool (!b))) Γ1) X) := rfl
@[simp ↓] theorem ev_wIf (c : WT) (wa wb : WE) (Γ : Ev) (Q : R → Ev → Prop) (X : XW) : wIf c wa wb Γ Q X = (c Γ (fun b Γ1 => if b = true then wa Γ1 Q X else wb Γ1 Q X) X) := rfl
@[simp ↓] theorem ev_wChain (o o' : Op2) (wa wb wc : WE) (Γ : Ev) (Q : R → Ev → Prop) (X : XW) : wChain o o' wa wb wc Γ Q X =
    (wa Γ (fun ra Γ1 => wb Γ1 (fun rb Γ2 => rdW ra Γ2 fun a => rdW rb Γ2 fun b => o a b fun r => rdW r Γ2 fun d => isB d fun z =>
      if z = true then wc Γ2 (fun rc Γ3 => rdW rb Γ3 fun b' => rdW rc Γ3 fun c' => o' b' c' fun r => Q r Γ3) X else Q (.sh (.bool false)) Γ2) X) X) := rfl
@[simp ↓] theorem ev_wNil (Γ : Ev) (Q : List R → Ev → Prop) (X : XW) : wNil Γ Q X = (Q [] Γ) := rfl
@[simp ↓] theorem ev_wCons (wa : WE) (wr : WA) (Γ : Ev) (Q : List R → Ev → Prop) (X : XW) : wCons wa wr Γ Q X = (wa Γ (fun r Γ1 => wr Γ1 (fun rs Γ2 => Q (r :: rs) Γ2) X) X) := rfl
@[simp ↓] theorem ev_wTup (wa : WA) (Γ : Ev) (Q : R → Ev → Prop) (X : XW) : wTup wa Γ Q X = (wa Γ (fun rs Γ1 => frAll rs Γ1 fun ds Γ2 => ds.length ≤ 1000 ∧ Q (.sh (.tuple ds)) Γ2) X) := rfl
@[simp ↓] theorem ev_wLst (wa : WA) (Γ : Ev) (Q : R → Ev → Prop) (X : XW) : wLst wa Γ Q X = (wa Γ (fun rs Γ1 => frAll rs Γ1 fun ds Γ2 => ds.length ≤ 1000 ∧ Q (.ow (.list ds)) Γ2) X) := rfl
@[simp ↓] theorem ev_wCB (o : OpN) (wa : WA) (Γ : Ev) (Q : R → Ev → Prop) (X : XW) : wCB o wa Γ Q X = (wa Γ (fun rs Γ1 => rdAll rs Γ1 fun ds => o ds fun r => Q r Γ1) X) := rfl
@[simp ↓] theorem ev_wNext (Γ : Ev) (D : WD) (X : XW) : wNext Γ D X = (D.nx Γ) := rfl
@[simp ↓] theorem ev_wSeq (a b : WS) (Γ : Ev) (D : WD) (X : XW) : wSeq a b Γ D X = (a Γ ⟨fun Γ1 => b Γ1 D X, D.rt, D.bk, D.ct⟩ X) := rfl
@[simp ↓] theorem ev_wBrk (Γ : Ev) (D : WD) (X : XW) : wBrk Γ D X = (D.bk Γ) := rfl
@[simp ↓] theorem ev_wCnt (Γ : Ev) (D : WD) (X : XW) : wCnt Γ D X = (D.ct Γ) := rfl
@[simp ↓] theorem ev_wDrop (w : WE) (Γ : Ev) (D : WD) (X : XW) : wDrop w Γ D X = (w Γ (fun _ Γ1 => D.nx Γ1) X) := rfl
@[simp ↓] theorem ev_wRet (w : WE) (Γ : Ev) (D : WD) (X : XW) : wRet w Γ D X = (w Γ (fun r Γ1 => D.rt r Γ1) X) := rfl
@[simp ↓] theorem ev_wRetN (Γ : Ev) (D : WD) (X : XW) : wRetN Γ D X = (D.rt (.sh .none) Γ) := rfl
@[simp ↓] theorem ev_wIfS (c : WT) (a b : WS) (Γ : Ev) (D : WD) (X : XW) : wIfS c a b Γ D X = (c Γ (fun z Γ1 => if z = true then a Γ1 D X else b Γ1 D X) X) := rfl
@[simp ↓] theorem ev_wSet (i : Nat) (w : WE) (Γ : Ev) (D : WD) (X : XW) : wSet i w Γ D X = (w Γ (fun r Γ1 => setR i r Γ1 D.nx) X) := rfl
@[simp ↓] theorem ev_wAsg (w : WE) (g : WG) (Γ : Ev) (D : WD) (X : XW) : wAsg w g Γ D X = (w Γ (fun r Γ1 => frW r Γ1 fun d Γ2 => g d Γ2 D.nx) X) := rfl
@[simp ↓] theorem ev_wFor (wi : WI) (g : WG) (b : WS) (Γ : Ev) (D : WD) (X : XW) : wFor wi g b Γ D X = (wi Γ (fun ds Γ1 => loopW g b D X ds Γ1) X) := rfl
@[simp ↓] theorem ev_wiL (w : WE) (Γ : Ev) (Q : List PyData → Ev → Prop) (X : XW) : wiL w Γ Q X = (w Γ (fun r Γ1 => frW r Γ1 fun d Γ2 => isL d fun ds => Q ds Γ2) X) := rfl
@[simp ↓] theorem ev_wiR1 (wa : WA) (Γ : Ev) (Q : List PyData → Ev → Prop) (X : XW) : wiR1 wa Γ Q X =
    (wa Γ (fun rs Γ1 => rdAll rs Γ1 fun ds => match ds with
      | [.int j] => -(2 ^ 62) ≤ j ∧ j < 2 ^ 62 ∧ Q (rangeD 0 j.toNat) Γ1
      | _ => False) X) := rfl
@[simp ↓] theorem ev_wiR2 (wa : WA) (Γ : Ev) (Q : List PyData → Ev → Prop) (X : XW) : wiR2 wa Γ Q X =
    (wa Γ (fun rs Γ1 => rdAll rs Γ1 fun ds => match ds with
      | [.int i, .int j] => (-(2 ^ 62) ≤ i ∧ i < 2 ^ 62 ∧ -(2 ^ 62) ≤ j ∧ j < 2 ^ 62) ∧ Q (rangeD i (j - i).toNat) Γ1
      | _ => False) X) := rfl
@[simp ↓] theorem ev_wiA (f : List D → List D) (wa : WA) (Γ : Ev) (Q : List PyData → Ev → Prop) (X : XW) : wiA f wa Γ Q X =
    (wa Γ (fun rs Γ1 => frAll rs Γ1 fun ds Γ2 => match ds with
      | [.list l] => Q (f l) Γ2
      | _ => False) X) := rfl
@[simp ↓] theorem ev_wiZ (wa : WA) (Γ : Ev) (Q : List PyData → Ev → Prop) (X : XW) : wiZ wa Γ Q X =
    (wa Γ (fun rs Γ1 => frAll rs Γ1 fun ds Γ2 => match ds with
      | [.list l, .list m] => Q (List.zipWith (fun x y => .tuple [x, y]) l m) Γ2
      | _ => False) X) := rfl
@[simp ↓] theorem ev_wiS (w : WE) (Γ : Ev) (Q : List PyData → Ev → Prop) (X : XW) : wiS w Γ Q X = (w Γ (fun r Γ1 => rdW r Γ1 fun d => isS d fun z => Q (signsD z) Γ1) X) := rfl
@[simp ↓] theorem ev_wNoP (Γ : Ev) (Q : Option Int → Ev → Prop) (X : XW) : wNoP Γ Q X = (Q none Γ) := rfl
@[simp ↓] theorem ev_wPart (w : WE) (Γ : Ev) (Q : Option Int → Ev → Prop) (X : XW) : wPart w Γ Q X = (w Γ (fun r Γ1 => rdW r Γ1 fun d => isI d fun i => Q (some i) Γ1) X) := rfl
@[simp ↓] theorem ev_wSlL (wa : WE) (wl wh : WO) (Γ : Ev) (Q : R → Ev → Prop) (X : XW) : wSlL wa wl wh Γ Q X = (wa Γ (fun r Γ1 => wl Γ1 (fun lo Γ2 => wh Γ2 (fun hi Γ3 => rdW r Γ3 fun d => isL d fun ds => Q (.ow (.list (cutD ds lo hi))) Γ3) X) X) X) := rfl
@[simp ↓] theorem ev_wIsi (T : String) (w : WE) (Γ : Ev) (Q : R → Ev → Prop) (X : XW) : wIsi T w Γ Q X = (w Γ (fun r Γ1 => rdW r Γ1 fun d => Q (.sh (.bool (isT (tyN d) T))) Γ1) X) := rfl
@[simp ↓] theorem ev_wIsi2 (T U : String) (w : WE) (Γ : Ev) (Q : R → Ev → Prop) (X : XW) : wIsi2 T U w Γ Q X = (w Γ (fun r Γ1 => rdW r Γ1 fun d => Q (.sh (.bool (isT (tyN d) T || isT (tyN d) U))) Γ1) X) := rfl
@[simp ↓] theorem ev_wMut (i : Nat) (f : OpM) (wa : WA) (Γ : Ev) (Q : R → Ev → Prop) (X : XW) : wMut i f wa Γ Q X = (owW i Γ fun d _ => isL d fun _ => wa Γ (fun rs Γ1 => frAll rs Γ1 fun ds Γ2 => owW i Γ2 fun d f' => isL d fun l => f l ds fun l' r => Q (.sh r) (f' (.list l'))) X) := rfl
@[simp ↓] theorem ev_wMut0 (i : Nat) (f : OpM) (Γ : Ev) (Q : R → Ev → Prop) (X : XW) : wMut0 i f Γ Q X = (owW i Γ fun d f' => isL d fun l => f l [] fun l' r => Q (.sh r) (f' (.list l'))) := rfl
@[simp ↓] theorem ev_wDict0 (Γ : Ev) (Q : R → Ev → Prop) (X : XW) : wDict0 Γ Q X = (Q (.ow (.dict [])) Γ) := rfl
@[simp ↓] theorem ev_wDGet1 (wd wk : WE) (Γ : Ev) (Q : R → Ev → Prop) (X : XW) : wDGet1 wd wk Γ Q X = (wd Γ (fun r Γ1 => rdW r Γ1 fun d => isD d fun _ => wk Γ1 (fun rk Γ2 => rdW r Γ2 fun d => isD d fun ps => rdW rk Γ2 fun key => isK key (Q (.sh ((dget ps key).getD .none)) Γ2)) X) X) := rfl
@[simp ↓] theorem ev_wDGet2 (wd wk wx : WE) (Γ : Ev) (Q : R → Ev → Prop) (X : XW) : wDGet2 wd wk wx Γ Q X =
    (wd Γ (fun r Γ1 => rdW r Γ1 fun d => isD d fun _ => wk Γ1 (fun rk Γ2 => wx Γ2 (fun rx Γ3 => frW rx Γ3 fun dx Γ4 =>
      rdW r Γ4 fun d => isD d fun ps => rdW rk Γ4 fun key => isK key (Q (.sh ((dget ps key).getD dx)) Γ4)) X) X) X) := rfl
@[simp ↓] theorem ev_wDPut (i : Nat) (wk wv : WE) (Γ : Ev) (D : WD) (X : XW) : wDPut i wk wv Γ D X = (wv Γ (fun rv Γ1 => owW i Γ1 fun _ _ => wk Γ1 (fun rk Γ2 => frW rv Γ2 fun dv Γ3 => rdW rk Γ3 fun key => isK key (owW i Γ3 fun d f => isD d fun ps => ps.length < sizeLine ∧ D.nx (f (.dict (dput ps key dv))))) X) X) := rfl
@[simp ↓] theorem ev_wLPut (i : Nat) (wk wv : WE) (Γ : Ev) (D : WD) (X : XW) : wLPut i wk wv Γ D X =
    (wv Γ (fun rv Γ1 => owW i Γ1 fun _ _ => wk Γ1 (fun rk Γ2 => frW rv Γ2 fun dv Γ3 => rdW rk Γ3 fun key => isI key fun n => owW i Γ3 fun d f => isL d fun l =>
      match ixN l.length n with
      | some j => D.nx (f (.list (l.set j dv)))
      | none => False) X) X) := rfl
@[simp ↓] theorem ev_wExt (i : Nat) (w : WE) (Γ : Ev) (Q : R → Ev → Prop) (X : XW) : wExt i w Γ Q X = (owW i Γ fun d _ => isL d fun _ => w Γ (fun r Γ1 => frW r Γ1 fun d Γ2 => isL d fun ys => owW i Γ2 fun d f => isL d fun l => l.length + ys.length ≤ sizeLine ∧ Q (.sh .none) (f (.list (l ++ ys)))) X) := rfl
@[simp ↓] theorem ev_wsNil (Γ : Ev) (Q : List Sl → Ev → Prop) (X : XW) : wsNil Γ Q X = (Q [] Γ) := rfl
@[simp ↓] theorem ev_wsCons (w : WE) (ws : WSl) (Γ : Ev) (Q : List Sl → Ev → Prop) (X : XW) : wsCons w ws Γ Q X = (w Γ (fun r Γ1 => slW r Γ1 fun s Γ2 => ws Γ2 (fun ss Γ3 => Q (s :: ss) Γ3) X) X) := rfl
@[simp ↓] theorem ev_wPar (is : List Nat) (ws : WSl) (Γ : Ev) (D : WD) (X : XW) : wPar is ws Γ D X = (ws Γ (fun ss Γ1 => ss.length = is.length ∧ (∀ i ∈ is, i < Γ1.length) ∧ D.nx ((is.zip ss).foldl (fun Γ p => Γ.set p.1 p.2) Γ1)) X) := rfl
@[simp ↓] theorem ev_wYes (Γ : Ev) (Q : Bool → Ev → Prop) (X : XW) : wYes Γ Q X = (Q true Γ) := rfl
@[simp ↓] theorem ev_wCall (fs : FS) (dv : List D) (wa : WA) (Γ : Ev) (Q : R → Ev → Prop) (X : XW) : wCall fs dv wa Γ Q X = (wa Γ (fun rs Γ1 => frAll rs Γ1 fun ds Γ2 => fs none (ds ++ dv) (fun r _ => Q r Γ2) fun x _ => X x Γ2) X) := rfl
@[simp ↓] theorem ev_wRevL (wa : WE) (Γ : Ev) (Q : R → Ev → Prop) (X : XW) : wRevL wa Γ Q X = (wa Γ (fun r Γ1 => rdW r Γ1 fun d => isL d fun ds => Q (.ow (.list ds.reverse)) Γ1) X) := rfl
@[simp ↓] theorem ev_wCallB (fs : FS) (dv : List D) (wa : WA) (Γ : Ev) (Q : R → Ev → Prop) (X : XW) : wCallB fs dv wa Γ Q X = (wa Γ (fun rs Γ1 => rdAll rs Γ1 fun ds => fs none (ds ++ dv) (fun r _ => flatR r ∧ Q r Γ1) fun x _ => x.idx = none ∧ X x Γ1) X) := rfl
@[simp ↓] theorem ev_rd_sh (d : D) (Γ : Ev) (k : D → Prop) : rdW (.sh d) Γ k = k d := rfl
@[simp ↓] theorem ev_rd_ow (d : D) (Γ : Ev) (k : D → Prop) : rdW (.ow d) Γ k = k d := rfl
/-- the i-th slot -/
def getS : Ev → Nat → (Sl → Prop) → Prop
  | [], _, _ => False
  | s :: _, 0, k => k s
  | _ :: Γ, i + 1, k => getS Γ i k
theorem getS_at : ∀ (Γ : Ev) (i : Nat) (k : Sl → Prop), getS Γ i k = (match Γ[i]? with
  | some s => k s
  | none => False)
  | [], i, k => by simp [getS]
  | s :: _, 0, k => rfl
  | _ :: Γ, i + 1, k => by rw [getS, getS_at Γ i k]; simp
@[simp ↓] theorem getS_0 (s : Sl) (Γ : Ev) (k : Sl → Prop) : getS (s :: Γ) 0 k = k s := rfl
@[simp ↓] theorem getS_s (s : Sl) (Γ : Ev) (i : Nat) (k : Sl → Prop) : getS (s :: Γ) (i + 1) k = getS Γ i k := rfl
def slVar : Sl → Nat → Ev → (R → Ev → Prop) → Prop
  | .sh d, _, Γ, Q => Q (.sh d) Γ
  | .ow _, i, Γ, Q => Q (.vr i) Γ
  | .io _, i, Γ, Q => Q (.vr i) Γ
  | .op _ _, i, Γ, Q => Q (.vr i) Γ
  | .no, _, _, _ => False
  | .two _ _, _, _, _ => False
@[simp ↓] theorem slVar_sh (d : D) (i : Nat) (Γ : Ev) (Q : R → Ev → Prop) : slVar (.sh d) i Γ Q = Q (.sh d) Γ := rfl
@[simp ↓] theorem slVar_ow (d : D) (i : Nat) (Γ : Ev) (Q : R → Ev → Prop) : slVar (.ow d) i Γ Q = Q (.vr i) Γ := rfl
@[simp ↓] theorem slVar_io (d : D) (i : Nat) (Γ : Ev) (Q : R → Ev → Prop) : slVar (.io d) i Γ Q = Q (.vr i) Γ := rfl
@[simp ↓] theorem slVar_op (t : Nat) (d : D) (i : Nat) (Γ : Ev) (Q : R → Ev → Prop) : slVar (.op t d) i Γ Q = Q (.vr i) Γ := rfl
@[simp ↓] theorem ev_wVar (i : Nat) (Γ : Ev) (Q : R → Ev → Prop) (X : XW) : wVar i Γ Q X = getS Γ i fun s => slVar s i Γ Q := by
  rw [getS_at]
  unfold wVar
  cases Γ[i]? with
  | none => rfl
  | some s => cases s <;> rfl
def slRd : Sl → (D → Prop) → Prop
  | .sh d, k => k d
  | .ow d, k => k d
  | .io d, k => k d
  | _, _ => False
@[simp ↓] theorem slRd_sh (d : D) (k : D → Prop) : slRd (.sh d) k = k d := rfl
@[simp ↓] theorem slRd_ow (d : D) (k : D → Prop) : slRd (.ow d) k = k d := rfl
@[simp ↓] theorem slRd_io (d : D) (k : D → Prop) : slRd (.io d) k = k d := rfl
@[simp ↓] theorem ev_rd_vr (i : Nat) (Γ : Ev) (k : D → Prop) : rdW (.vr i) Γ k = getS Γ i fun s => slRd s k := by
  rw [getS_at]
  unfold rdW
  dsimp only
  cases Γ[i]? with
  | none => rfl
  | some s => cases s <;> rfl
def slFr : Sl → Nat → Ev → (D → Ev → Prop) → Prop
  | .sh d, _, Γ, k => k d Γ
  | .ow d, i, Γ, k => k d (Γ.set i (.sh d))
  | _, _, _, _ => False
@[simp ↓] theorem slFr_sh (d : D) (i : Nat) (Γ : Ev) (k : D → Ev → Prop) : slFr (.sh d) i Γ k = k d Γ := rfl
@[simp ↓] theorem slFr_ow (d : D) (i : Nat) (Γ : Ev) (k : D → Ev → Prop) : slFr (.ow d) i Γ k = k d (Γ.set i (.sh d)) := rfl
def slOw : Sl → Nat → Ev → (D → (D → Ev) → Prop) → Prop
  | .ow d, i, Γ, k => k d fun d' => Γ.set i (.ow d')
  | .io d, i, Γ, k => k d fun d' => Γ.set i (.io d')
  | _, _, _, _ => False
@[simp ↓] theorem slOw_ow (d : D) (i : Nat) (Γ : Ev) (k : D → (D → Ev) → Prop) : slOw (.ow d) i Γ k = k d fun d' => Γ.set i (.ow d') := rfl
@[simp ↓] theorem slOw_io (d : D) (i : Nat) (Γ : Ev) (k : D → (D → Ev) → Prop) : slOw (.io d) i Γ k = k d fun d' => Γ.set i (.io d') := rfl
@[simp ↓] theorem ev_owW (i : Nat) (Γ : Ev) (k : D → (D → Ev) → Prop) : owW i Γ k = getS Γ i fun s => slOw s i Γ k := by
  rw [getS_at]
  unfold owW
  cases Γ[i]? with
  | none => rfl
  | some s => cases s <;> rfl
def slSh : Sl → (D → Prop) → Prop
  | .sh d, k => k d
  | _, _ => False
@[simp ↓] theorem slSh_sh (d : D) (k : D → Prop) : slSh (.sh d) k = k d := rfl
@[simp ↓] theorem ev_wAug (i : Nat) (o : Op2) (w : WE) (Γ : Ev) (D : WD) (X : XW) : wAug i o w Γ D X = getS Γ i fun s => slSh s fun a => w Γ (fun r Γ1 => rdW r Γ1 fun b => o a b fun r2 => setR i r2 Γ1 D.nx) X := by
  rw [getS_at]
  unfold wAug
  cases Γ[i]? with
  | none => rfl
  | some s => cases s <;> rfl
def slIo : Sl → Nat → Ev → (Sl → (Option Sl → Ev) → Prop) → Prop
  | .ow d, i, Γ, k => k (.io d) fun s => match s with
    | some (.io d') => Γ.set i (.ow d')
    | _ => Γ
  | .io d, i, Γ, k => k (.io d) fun s => match s with
    | some (.io d') => Γ.set i (.io d')
    | _ => Γ
  | .op t d, i, Γ, k => k (.op (hand t) d) fun s => match s with
    | some (.op _ d') => Γ.set i (.op t d')
    | _ => Γ
  | _, _, _, _ => False
@[simp ↓] theorem slIo_ow (d : D) (i : Nat) (Γ : Ev) (k : Sl → (Option Sl → Ev) → Prop) : slIo (.ow d) i Γ k = k (.io d) fun s => match s with
    | some (.io d') => Γ.set i (.ow d')
    | _ => Γ := rfl
@[simp ↓] theorem slIo_io (d : D) (i : Nat) (Γ : Ev) (k : Sl → (Option Sl → Ev) → Prop) : slIo (.io d) i Γ k = k (.io d) fun s => match s with
    | some (.io d') => Γ.set i (.io d')
    | _ => Γ := rfl
@[simp ↓] theorem slIo_op (t : Nat) (d : D) (i : Nat) (Γ : Ev) (k : Sl → (Option Sl → Ev) → Prop) : slIo (.op t d) i Γ k = k (.op (hand t) d) fun s => match s with
    | some (.op _ d') => Γ.set i (.op t d')
    | _ => Γ := rfl
@[simp ↓] theorem ev_ioW (i : Nat) (Γ : Ev) (k : Sl → (Option Sl → Ev) → Prop) : ioW i Γ k = getS Γ i fun s => slIo s i Γ k := by
  rw [getS_at]
  unfold ioW
  cases Γ[i]? with
  | none => rfl
  | some s => cases s <;> rfl
def slIs : Sl → Prop
  | .ow _ => True
  | .io _ => True
  | .op _ _ => True
  | _ => False
@[simp] theorem slIs_ow (d : D) : slIs (.ow d) = True := rfl
@[simp] theorem slIs_io (d : D) : slIs (.io d) = True := rfl
@[simp] theorem slIs_op (t : Nat) (d : D) : slIs (.op t d) = True := rfl
@[simp ↓] theorem ev_isOwn (i : Nat) (Γ : Ev) : isOwn Γ i = getS Γ i slIs := by
  rw [getS_at]
  unfold isOwn
  cases Γ[i]? with
  | none => rfl
  | some s => cases s <;> rfl
@[simp ↓] theorem ev_wCallIo (fs : FS) (i : Nat) (dv : List D) (wa : WA) (Γ : Ev) (Q : R → Ev → Prop) (X : XW) : wCallIo fs i dv wa Γ Q X = (isOwn Γ i ∧ wa Γ (fun rs Γ1 => frAll rs Γ1 fun ds Γ2 => ioW i Γ2 fun s f => fs (some s) (ds ++ dv) (fun r io => SameIo (some s) io ∧ Q r (f io)) fun x io => SameIo (some s) io ∧ X x (f io)) X) := rfl
def slScr : Sl → (List D → Prop) → Prop
  | .op 0 (.list l), k => k l
  | _, _ => False
@[simp ↓] theorem slScr_op (l : List D) (k : List D → Prop) : slScr (.op 0 (.list l)) k = k l := rfl
@[simp ↓] theorem ev_wLenS (i : Nat) (Γ : Ev) (Q : R → Ev → Prop) (X : XW) : wLenS i Γ Q X = getS Γ i fun s => slScr s fun l => Q (.sh (.int (l.length : Int))) Γ := by
  rw [getS_at]
  unfold wLenS
  cases Γ[i]? with
  | none => rfl
  | some s =>
    cases s with
    | op t d => cases t <;> cases d <;> rfl
    | _ => rfl
@[simp ↓] theorem ev_wIxS (i : Nat) (wa : WE) (Γ : Ev) (Q : R → Ev → Prop) (X : XW) : wIxS i wa Γ Q X = (isOwn Γ i ∧ wa Γ (fun r Γ1 => rdW r Γ1 fun d => isI d fun n => getS Γ1 i fun s => slScr s fun l => match atI l n with
    | some d => Q (.sh d) Γ1
    | none => False) X) := by
  unfold wIxS
  congr 1
  congr 1
  funext r Γ1
  congr 1
  funext d
  congr 1
  funext n
  rw [getS_at]
  cases Γ1[i]? with
  | none => rfl
  | some s =>
    cases s with
    | op t d => cases t <;> cases d <;> rfl
    | _ => rfl
@[simp ↓] theorem ev_fr_sh (d : D) (Γ : Ev) (k : D → Ev → Prop) : frW (.sh d) Γ k = k d Γ := rfl
@[simp ↓] theorem ev_fr_ow (d : D) (Γ : Ev) (k : D → Ev → Prop) : frW (.ow d) Γ k = k d Γ := rfl
@[simp ↓] theorem ev_fr_vr (i : Nat) (Γ : Ev) (k : D → Ev → Prop) : frW (.vr i) Γ k = getS Γ i fun s => slFr s i Γ k := by
  rw [getS_at]
  unfold frW
  dsimp only
  cases Γ[i]? with
  | none => rfl
  | some s => cases s <;> rfl
@[simp ↓] theorem ev_frAll_nil (Γ : Ev) (k : List D → Ev → Prop) : frAll [] Γ k = k [] Γ := rfl
@[simp ↓] theorem ev_frAll_cons (r : R) (rs : List R) (Γ : Ev) (k : List D → Ev → Prop) : frAll (r :: rs) Γ k = frW r Γ fun d Γ1 => frAll rs Γ1 fun ds Γ2 => k (d :: ds) Γ2 := rfl
@[simp ↓] theorem ev_rdAll_nil (Γ : Ev) (k : List D → Prop) : rdAll [] Γ k = k [] := rfl
@[simp ↓] theorem ev_rdAll_cons (r : R) (rs : List R) (Γ : Ev) (k : List D → Prop) : rdAll (r :: rs) Γ k = rdW r Γ fun d => rdAll rs Γ fun ds => k (d :: ds) := rfl
@[simp ↓] theorem ev_setR_sh (i : Nat) (d : D) (Γ : Ev) (k : Ev → Prop) : setR i (.sh d) Γ k = k (Γ.set i (.sh d)) := rfl
@[simp ↓] theorem ev_setR_ow (i : Nat) (d : D) (Γ : Ev) (k : Ev → Prop) : setR i (.ow d) Γ k = k (Γ.set i (.ow d)) := rfl
@[simp ↓] theorem ev_setR_vr (i j : Nat) (Γ : Ev) (k : Ev → Prop) : setR i (.vr j) Γ k = frW (.vr j) Γ fun d Γ1 => k (Γ1.set i (.sh d)) := rfl
@[simp ↓] theorem ev_isI (i : Int) (k : Int → Prop) : isI (.int i) k = k i := rfl
@[simp ↓] theorem ev_isB (i : Bool) (k : Bool → Prop) : isB (.bool i) k = k i := rfl
@[simp ↓] theorem ev_isS (i : Str) (k : Str → Prop) : isS (.str i) k = k i := rfl
@[simp ↓] theorem ev_isL (i : List D) (k : List D → Prop) : isL (.list i) k = k i := rfl
@[simp ↓] theorem ev_isD (i : List (D × D)) (k : List (D × D) → Prop) : isD (.dict i) k = k i := rfl
@[simp ↓] theorem ev_isN (k : Prop) : isN .none k = k := rfl
@[simp ↓] theorem ev_isKi (i : Int) (k : Prop) : isK (.int i) k = k := rfl
@[simp ↓] theorem ev_isKs (i : Str) (k : Prop) : isK (.str i) k = k := rfl
@[simp ↓] theorem ev_oII (P : Int → Int → Prop) (g : Int → Int → Int) (i j : Int) (k : R → Prop) : oII P g (.int i) (.int j) k = (P i j ∧ k (.sh (.int (g i j)))) := rfl
@[simp ↓] theorem ev_oIB (g : Int → Int → Bool) (i j : Int) (k : R → Prop) : oIB g (.int i) (.int j) k = k (.sh (.bool (g i j))) := rfl
@[simp ↓] theorem ev_o1 (o : Op1) (d : D) (k : R → Prop) : o1 o [d] k = o d k := rfl
@[simp ↓] theorem ev_o2 (o : Op2) (d e : D) (k : R → Prop) : o2 o [d, e] k = o d e k := rfl
@[simp ↓] theorem ev_len_l (l : List D) (k : R → Prop) : oLen (.list l) k = k (.sh (.int l.length)) := rfl
@[simp ↓] theorem ev_len_t (l : List D) (k : R → Prop) : oLen (.tuple l) k = k (.sh (.int l.length)) := rfl
@[simp ↓] theorem ev_len_s (z : Str) (k : R → Prop) : oLen (.str z) k = (z.length ≤ sizeLine ∧ k (.sh (.int z.length))) := rfl
@[simp ↓] theorem ev_len_d (l : List (D × D)) (k : R → Prop) : oLen (.dict l) k = k (.sh (.int l.length)) := rfl
@[simp ↓] theorem ev_isNd (a : D) (k : R → Prop) : oIsN a .none k = k (.sh (.bool (isNone a))) := rfl
@[simp ↓] theorem ev_notNd (a : D) (k : R → Prop) : oNotN a .none k = k (.sh (.bool (!isNone a))) := rfl
@[simp ↓] theorem ev_isNone_n : isNone .none = true := rfl
@[simp ↓] theorem ev_isNone_i (i : Int) : isNone (.int i) = false := rfl
@[simp ↓] theorem ev_isNone_t (i : List D) : isNone (.tuple i) = false := rfl
@[simp ↓] theorem ev_isNone_l (i : List D) : isNone (.list i) = false := rfl
@[simp ↓] theorem ev_isNone_s (i : Str) : isNone (.str i) = false := rfl
@[simp ↓] theorem ev_wgName (i : Nat) (d : D) (Γ : Ev) (k : Ev → Prop) : wgName i d Γ k = k (Γ.set i (.sh d)) := rfl
@[simp ↓] theorem ev_wgTup (n : Nat) (b : WGs) (ds : List D) (Γ : Ev) (k : Ev → Prop) : wgTup n b (.tuple ds) Γ k = (ds.length = n ∧ b ds Γ k) := rfl
@[simp ↓] theorem ev_wgNil (Γ : Ev) (k : Ev → Prop) : wgNil [] Γ k = k Γ := rfl
@[simp ↓] theorem ev_wgCons (a : WG) (b : WGs) (d : D) (ds : List D) (Γ : Ev) (k : Ev → Prop) : wgCons a b (d :: ds) Γ k = a d Γ fun Γ1 => b ds Γ1 k := rfl
@[simp ↓] theorem ev_loop_nil (g : WG) (b : WS) (D : WD) (X : XW) (Γ : Ev) : loopW g b D X [] Γ = D.nx Γ := rfl
theorem ev_loop_cons (g : WG) (b : WS) (D : WD) (X : XW) (d : PyData) (ds : List PyData) (Γ : Ev) : loopW g b D X (d :: ds) Γ = g d Γ fun Γ1 => b Γ1 ⟨loopW g b D X ds, D.rt, D.nx, loopW g b D X ds⟩ X := rfl
@[simp ↓] theorem ev_oEq (a b : D) (k : R → Prop) : oEq a b k = (SeqAt.shaped a = true ∧ SeqAt.shaped b = true ∧ k (.sh (.bool (PyData.eqv a b)))) := rfl
@[simp ↓] theorem ev_oNe (a b : D) (k : R → Prop) : oNe a b k = (SeqAt.shaped a = true ∧ SeqAt.shaped b = true ∧ k (.sh (.bool (!PyData.eqv a b)))) := rfl
@[simp ↓] theorem ev_oMul (i j : Int) (k : R → Prop) : oMul (.int i) (.int j) k = (CMulW i j ∧ k (.sh (.int (i * j)))) := rfl
@[simp ↓] theorem ev_oAdd_i (i j : Int) (k : R → Prop) : oAdd (.int i) (.int j) k = k (.sh (.int (i + j))) := rfl
@[simp ↓] theorem ev_oAdd_s (i j : Str) (k : R → Prop) : oAdd (.str i) (.str j) k = (i.length + j.length ≤ sizeLine ∧ k (.sh (.str (i ++ j)))) := rfl
@[simp ↓] theorem ev_oAdd_l (i j : List D) (k : R → Prop) : oAdd (.list i) (.list j) k = (i.length + j.length ≤ sizeLine ∧ k (.ow (.list (i ++ j)))) := rfl
@[simp ↓] theorem ev_oInt_i (i : Int) (k : R → Prop) : oInt (.int i) k = k (.sh (.int i)) := rfl
@[simp ↓] theorem ev_oInt_b (i : Bool) (k : R → Prop) : oInt (.bool i) k = k (.sh (.int (if i then 1 else 0))) := rfl
@[simp ↓] theorem ev_oMax (i j : Int) (k : R → Prop) : oMax (.int i) (.int j) k = k (.sh (.int (if j > i then j else i))) := rfl
@[simp ↓] theorem ev_oMin (i j : Int) (k : R → Prop) : oMin (.int i) (.int j) k = k (.sh (.int (if j < i then j else i))) := rfl
theorem ev_ixt (l : List D) (i : Int) (k : R → Prop) : oIx (.tuple l) (.int i) k = (match atI l i with
  | some d => k (.sh d)
  | none => False) := rfl
theorem ev_ixl (l : List D) (i : Int) (k : R → Prop) : oIx (.list l) (.int i) k = (match atI l i with
  | some d => k (.sh d)
  | none => False) := rfl
theorem ev_ixd (l : List (D × D)) (i : D) (k : R → Prop) : oIx (.dict l) i k = isK i (match dget l i with
  | some d => k (.sh d)
  | none => False) := rfl
/-- an item -/
@[simp ↓] theorem ix_t0 (a : D) (l : List D) (k : R → Prop) : oIx (.tuple (a :: l)) (.int 0) k = k (.sh a) := by
  rw [ev_ixt]
  have : atI (a :: l) 0 = some a := by unfold atI; simp [ixN]
  rw [this]
@[simp ↓] theorem ix_t1 (a b : D) (l : List D) (k : R → Prop) : oIx (.tuple (a :: b :: l)) (.int 1) k = k (.sh b) := by
  rw [ev_ixt]
  have : atI (a :: b :: l) 1 = some b := by
    unfold atI
    simp only [ixN, List.length_cons]
    rw [if_pos (by decide), if_pos (by omega)]
    rfl
  rw [this]
@[simp ↓] theorem ix_t2 (a b c : D) (l : List D) (k : R → Prop) : oIx (.tuple (a :: b :: c :: l)) (.int 2) k = k (.sh c) := by
  rw [ev_ixt]
  have : atI (a :: b :: c :: l) 2 = some c := by
    unfold atI
    simp only [ixN, List.length_cons]
    rw [if_pos (by decide), if_pos (by omega)]
    rfl
  rw [this]
@[simp ↓] theorem ix_l0 (a : D) (l : List D) (k : R → Prop) : oIx (.list (a :: l)) (.int 0) k = k (.sh a) := ix_t0 a l k
@[simp ↓] theorem ix_l1 (a b : D) (l : List D) (k : R → Prop) : oIx (.list (a :: b :: l)) (.int 1) k = k (.sh b) := ix_t1 a b l k
@[simp ↓] theorem ix_l2 (a b c : D) (l : List D) (k : R → Prop) : oIx (.list (a :: b :: c :: l)) (.int 2) k = k (.sh c) := ix_t2 a b c l k
/-- the item at a place told by a Nat -/
theorem ix_ln {l : List D} {i : Int} {n : Nat} {d : D} {k : R → Prop} (h : l[n]? = some d) (e : i = (n : Int)) (q : k (.sh d)) : oIx (.list l) (.int i) k := by
  have hn : n < l.length := (List.getElem?_eq_some_iff.mp h).1
  rw [ev_ixl]
  have : atI l i = some d := by
    unfold atI
    have : ixN l.length i = some n := by
      unfold ixN
      rw [e]
      simp
      omega
    rw [this]; exact h
  rw [this]; exact q
/-- the last item -/
theorem ix_last {l : List D} {d : D} {k : R → Prop} (h : l.getLast? = some d) (q : k (.sh d)) : oIx (.list l) (.int (-1)) k := by
  rw [List.getLast?_eq_getElem?] at h
  have hn : l.length - 1 < l.length := (List.getElem?_eq_some_iff.mp h).1
  rw [ev_ixl]
  have : atI l (-1) = some d := by
    unfold atI
    have : ixN l.length (-1) = some (l.length - 1) := by
      unfold ixN
      rw [if_neg (by omega), if_pos (by omega)]
      congr 1
      omega
    rw [this]; exact h
  rw [this]; exact q
@[simp ↓] theorem isT_self (T : String) : isT T T = true := by simp [isT]
@[simp ↓] theorem tyN_none : tyN .none = "NoneType" := rfl
@[simp ↓] theorem tyN_bool (b : Bool) : tyN (.bool b) = "bool" := rfl
@[simp ↓] theorem tyN_int (b : Int) : tyN (.int b) = "int" := rfl
@[simp ↓] theorem tyN_str (b : Str) : tyN (.str b) = "str" := rfl
@[simp ↓] theorem tyN_list (b : List D) : tyN (.list b) = "list" := rfl
@[simp ↓] theorem tyN_tuple (b : List D) : tyN (.tuple b) = "tuple" := rfl
@[simp ↓] theorem tyN_dict (b : List (D × D)) : tyN (.dict b) = "dict" := rfl
@[simp ↓] theorem ev_append (l : List D) (x : D) (k : List D → D → Prop) : fAppend l [x] k = (l.length < sizeLine ∧ k (l ++ [x]) .none) := rfl
@[simp ↓] theorem ev_in_str (neg : Bool) (a : D) (z : Str) (k : R → Prop) : oIn neg a (.str z) k = isS a fun y => ∃ c, y = ⟨#[c]⟩ ∧ k (.sh (.bool (if neg then !decide (c ∈ z.cps.toList) else decide (c ∈ z.cps.toList)))) := rfl
@[simp ↓] theorem ev_in_dict (neg : Bool) (a : D) (z : List (D × D)) (k : R → Prop) : oIn neg a (.dict z) k = isK a (k (.sh (.bool (if neg then !(dget z a).isSome else (dget z a).isSome)))) := rfl
@[simp ↓] theorem ev_in_tup (neg : Bool) (a : D) (ds : List D) (k : R → Prop) : oIn neg a (.tuple ds) k = (flatD a = true ∧ ds.all flatD = true ∧ k (.sh (.bool (if neg then !(ds.any fun z => PyData.eqv z a) else ds.any fun z => PyData.eqv z a)))) := rfl
theorem ev_wLc (vs : List Nat) (wi : WI) (g : WG) (t : WT) (w : WE) (Γ : Ev) (Q : R → Ev → Prop) (X : XW) : wLc vs wi g t w Γ Q X = wi Γ (fun ds Γ1 => okW Γ1 vs ∧ lcW vs g t w (fun acc Γ2 => Q (.ow (.list acc)) (restE Γ1 Γ2 vs)) ds [] (wipeE Γ1 vs)) X := rfl
theorem ev_wDc (vs : List Nat) (wi : WI) (g : WG) (t : WT) (wk wv : WE) (Γ : Ev) (Q : R → Ev → Prop) (X : XW) : wDc vs wi g t wk wv Γ Q X = wi Γ (fun ds Γ1 => okW Γ1 vs ∧ dcW vs g t wk wv (fun acc Γ2 => Q (.ow (.dict acc)) (restE Γ1 Γ2 vs)) ds [] (wipeE Γ1 vs)) X := rfl
@[simp ↓] theorem slW_sh (d : D) (Γ : Ev) (k : Sl → Ev → Prop) : slW (.sh d) Γ k = k (.sh d) Γ := rfl
@[simp ↓] theorem slW_ow (d : D) (Γ : Ev) (k : Sl → Ev → Prop) : slW (.ow d) Γ k = k (.ow d) Γ := rfl
@[simp ↓] theorem slW_vr (i : Nat) (Γ : Ev) (k : Sl → Ev → Prop) : slW (.vr i) Γ k = frW (.vr i) Γ fun d Γ1 => k (.sh d) Γ1 := rfl
@[simp] theorem hand_0 : hand 0 = 0 := rfl
@[simp] theorem hand_1 : hand 1 = 1 := rfl
@[simp] theorem hand_2 : hand 2 = 2 := rfl
@[simp] theorem hand_3 : hand 3 = 3 := rfl
@[simp] theorem hand_4 : hand 4 = 4 := rfl
@[simp] theorem hand_11 : hand 11 = 1 := rfl
@[simp] theorem hand_12 : hand 12 = 2 := rfl
@[simp] theorem hand_13 : hand 13 = 3 := rfl
@[simp] theorem hand_14 : hand 14 = 4 := rfl
@[simp] theorem same_none : SameIo none none = True := rfl
@[simp] theorem same_io (a b : D) : SameIo (some (.io a)) (some (.io b)) = True := rfl
@[simp] theorem same_op (t u : Nat) (a b : D) : SameIo (some (.op t a)) (some (.op u b)) = (t = u) := rfl
@[simp] theorem ioOf_none (Γ : Ev) : ioOf none Γ = none := rfl
@[simp] theorem ioOf_io (d : D) (t : Sl) (Γ : Ev) : ioOf (some (.io d)) (t :: Γ) = some t := rfl
@[simp] theorem ioOf_op (k : Nat) (d : D) (t : Sl) (Γ : Ev) : ioOf (some (.op k d)) (t :: Γ) = some t := rfl
@[simp] theorem ioOf_two (a b x y : Sl) (Γ : Ev) : ioOf (some (.two a b)) (x :: y :: Γ) = some (.two x y) := rfl
@[simp] theorem same1_io (a b : D) : SameOne (.io a) (.io b) = True := rfl
@[simp] theorem same1_op (t u : Nat) (a b : D) : SameOne (.op t a) (.op u b) = (t = u) := rfl
@[simp] theorem same_two (a b c d : Sl) : SameIo (some (.two a b)) (some (.two c d)) = (SameOne a c ∧ SameOne b d) := rfl
@[simp ↓] theorem retW_sh (d : D) (Γ : Ev) (k : R → Ev → Prop) : retW (.sh d) Γ k = k (.sh d) Γ := rfl
@[simp ↓] theorem retW_ow (d : D) (Γ : Ev) (k : R → Ev → Prop) : retW (.ow d) Γ k = k (.ow d) Γ := rfl
def slRet : Sl → Nat → Ev → (R → Ev → Prop) → Prop
  | .sh d, _, Γ, k => k (.sh d) Γ
  | .ow d, i, Γ, k => k (.ow d) (Γ.set i .no)
  | .op t d, i, Γ, k => 10 ≤ t ∧ k (.op t d) (Γ.set i .no)
  | _, _, _, _ => False
@[simp ↓] theorem slRet_op (t : Nat) (d : D) (i : Nat) (Γ : Ev) (k : R → Ev → Prop) : slRet (.op t d) i Γ k = (10 ≤ t ∧ k (.op t d) (Γ.set i .no)) := rfl
@[simp ↓] theorem retW_op (t : Nat) (d : D) (Γ : Ev) (k : R → Ev → Prop) : retW (.op t d) Γ k = (10 ≤ t ∧ k (.op t d) Γ) := rfl
@[simp ↓] theorem slW_op (t : Nat) (d : D) (Γ : Ev) (k : Sl → Ev → Prop) : slW (.op t d) Γ k = (10 ≤ t ∧ k (.op t d) Γ) := rfl
@[simp ↓] theorem ev_setR_op (i t : Nat) (d : D) (Γ : Ev) (k : Ev → Prop) : setR i (.op t d) Γ k = (10 ≤ t ∧ k (Γ.set i (.op t d))) := rfl
@[simp ↓] theorem slRet_sh (d : D) (i : Nat) (Γ : Ev) (k : R → Ev → Prop) : slRet (.sh d) i Γ k = k (.sh d) Γ := rfl
@[simp ↓] theorem slRet_ow (d : D) (i : Nat) (Γ : Ev) (k : R → Ev → Prop) : slRet (.ow d) i Γ k = k (.ow d) (Γ.set i .no) := rfl
@[simp ↓] theorem retW_vr (i : Nat) (Γ : Ev) (k : R → Ev → Prop) : retW (.vr i) Γ k = getS Γ i fun s => slRet s i Γ k := by
  rw [getS_at]
  unfold retW
  dsimp only
  cases Γ[i]? with
  | none => rfl
  | some s => cases s <;> rfl
/-- some item of a list -/
theorem pick {l : List D} {r : Int} {k : R → Prop} (h0 : 0 ≤ r) (h : r < (l.length : Int)) (q : ∀ d, d ∈ l → k (.sh d)) : oIx (.list l) (.int r) k := by
  rw [ev_ixl]
  have : atI l r = l[r.toNat]? := by
    unfold atI ixN
    rw [if_pos h0, if_pos h]
    rfl
  have hi : r.toNat < l.length := by omega
  rw [this, List.getElem?_eq_getElem hi]
  exact q _ (List.getElem_mem hi)
end VL

set_option Elab.async false
set_option linter.all false
set_option maxRecDepth 100000
/-! VMore: tuple(..), divmod. -/
namespace VL
open PySem L2

section
variable {X : Cx} {G : Gb}
def rTupA (K : Fg) : List V → Hp → VK → Prop := fun xs H Q => ∃ p ys, xs = [.ref p] ∧ ((SqL K H p ys ∧ ∀ l, H l = none → Q (.ref l) (upd H l (.tup ys))) ∨ (SqT K H p ys ∧ Q (.ref p) H))
/-- tuple(list), tuple(tuple) -/
def oTuple : Op1 := fun d k => match d with
  | .list l => k (.sh (.tuple l))
  | .tuple l => k (.sh (.tuple l))
  | _ => False
theorem sem_tuple : SemN G (rTupA G.K) (o1 oTuple) := by
  refine semN_1 ?_
  intro C Hi σ H Γ x a k Q c ha h q
  unfold oTuple at h
  split at h
  · obtain ⟨p, xs, rfl, s1, r1⟩ := ha.list c.imm
    exact ⟨p, xs, rfl, .inl ⟨SqL.of s1, fun l hl => let ⟨e, o⟩ := Out.newT c hl r1; q _ _ _ _ e o h⟩⟩
  · obtain ⟨p, xs, rfl, s1, r1⟩ := ha.tuple c.imm
    rcases ha with ha | ⟨p', e, ha⟩
    · exact ⟨p, xs, rfl, .inr ⟨SqT.of s1, q (.ref p) (.sh (.tuple _)) H Hi (Ext.refl _) ⟨c, ha⟩ h⟩⟩
    · cases ha
  · exact h.elim
theorem t_tuple (hK : X.K = G.K) : T1 X G "tuple" (rTupA G.K) (o1 oTuple) := ⟨by rw [← hK]; exact call_tuple_of, sem_tuple⟩
@[simp ↓] theorem ev_oTuple_l (l : List D) (k : R → Prop) : oTuple (.list l) k = k (.sh (.tuple l)) := rfl
@[simp ↓] theorem ev_oTuple_t (l : List D) (k : R → Prop) : oTuple (.tuple l) k = k (.sh (.tuple l)) := rfl
/-- divmod of ints -/
def rDivm : List V → Hp → VK → Prop := fun xs H Q => ∃ i j, xs = [.int i, .int j] ∧ CDivW i j ∧ ∀ p, H p = none → Q (.ref p) (upd H p (.tup [.int (i / j), .int (i % j)]))
theorem call_divm : CallR X (.builtin "divmod") rDivm := by
  intro pins s σ H xs us Q I r h
  obtain ⟨i, j, e, c, q⟩ := h
  exact call_divmodW pins s σ H xs us Q I r ⟨i, j, e, ⟨c.1, PyProof.noPylong_of_log2 c.2⟩, q⟩
def oDivm : Op2 := fun a b k => isI a fun i => isI b fun j => CDivW i j ∧ k (.sh (.tuple [.int (i / j), .int (i % j)]))
theorem sem_divm : SemN G rDivm (o2 oDivm) := by
  refine semN_2 ?_
  intro C Hi σ H Γ x y a b k Q c ha hb h q
  obtain ⟨i, rfl, h⟩ := isI_inv h
  obtain ⟨_, e, h⟩ := isI_inv h
  cases e
  obtain ⟨j, rfl, h1, h2⟩ := isI_inv h
  refine ⟨i, j, by rw [ha.int, hb.int], h1, fun p hp => ?_⟩
  obtain ⟨e, o⟩ := Out.newT c hp (.cons (.int (i / j)) (.cons (.int (i % j)) .nil))
  exact q _ _ _ _ e o h2
theorem b_divm : B1 X G "divmod" rDivm (o2 oDivm) := ⟨call_divm, sem_divm⟩
@[simp ↓] theorem ev_oDivm (i j : Int) (k : R → Prop) : oDivm (.int i) (.int j) k = (CDivW i j ∧ k (.sh (.tuple [.int (i / j), .int (i % j)]))) := rfl
@[simp ↓] theorem ev_oMul_l (l : List D) (j : Int) (k : R → Prop) : oMul (.list l) (.int j) k = ((-(2 ^ 63) ≤ j ∧ j < 2 ^ 63) ∧ l.length * j.toNat ≤ sizeLine ∧ k (.ow (.list (List.replicate j.toNat l).flatten))) := rfl
end
end VL

set_option Elab.async false
set_option linter.all false
set_option maxRecDepth 100000
/-! VLk: a list comprehension over a dict's keys: the dict is locked while it is walked. -/
namespace VL
open PySem L2

def fltP : D → Prop
  | .int _ => True
  | .str _ => True
  | .bool _ => True
  | .none => True
  | _ => False
section
variable {K : Fg} {H H' : Hp}
theorem Rep.flat {v : V} {d : D} (h : Rep K H v d) (f : fltP d) : Rep K H' v d := by
  cases h with
  | non => exact .non
  | bl b => exact .bl b
  | int i => exact .int i
  | str z => exact .str z
  | lst _ _ => exact f.elim
  | tup _ _ => exact f.elim
  | dct _ _ => exact f.elim
theorem Reps.flat : ∀ {vs : List V} {ds : List D}, Reps K H vs ds → (∀ e ∈ ds, fltP e) → Reps K H' vs ds
  | _, _, .nil, _ => .nil
  | _, _, .cons h r, f => .cons (h.flat (f _ List.mem_cons_self)) (Reps.flat r fun e he => f e (List.mem_cons_of_mem _ he))
theorem RepKV.flat : ∀ {kvs : List (Key × V)} {ps : List (D × D)}, RepKV K H kvs ps → (∀ p ∈ ps, fltP p.2) → RepKV K H' kvs ps
  | _, _, .nil, _ => .nil
  | _, _, .cons h r, f => .cons (h.flat (f _ List.mem_cons_self)) (RepKV.flat r fun e he => f e (List.mem_cons_of_mem _ he))
theorem RepKV.at_key : ∀ {kvs : List (Key × V)} {ps : List (D × D)} {i : Nat} {k : Key} {v : V} {d : D}, RepKV K H kvs ps → kvs[i]? = some (k, v) → (ps.map (·.1))[i]? = some d → d = kD k
  | _, _, _, _, _, _, .nil, h, _ => by simp at h
  | _, _, 0, _, _, _, .cons _ _, h, e => by
    simp at h e
    rw [← e, ← h.1]
  | _, _, i + 1, _, _, _, .cons _ r, h, e => RepKV.at_key (i := i) r (by simpa using h) (by simpa using e)
theorem rep_key (k : Key) : Rep K H (kV k) (kD k) := by
  cases k with
  | inl i => exact .int i
  | inr x => exact .str x
end
/-- locked, or so handed over -/
def tLk (t : TE) : TE := fun σ H Q => tLockE t σ H Q ∨ t σ H Q
theorem pe_lk {X : Cx} {e : Expr} {t : TE} (h : PE X e t) : PE X e (tLk t) :=
  ⟨fun pins s σ H Q I q => q.elim ((pe_lock h).run pins s σ H Q I) (h.run pins s σ H Q I)⟩
def ΓK (Γ : Ev) (i : Nat) (ps : List (D × D)) : Ev := (Γ.map fun _ => Sl.no).set i (.sh (.dict ps))
def wLcK (i : Nat) (vs : List Nat) (g : WG) (t : WT) (w : WE) : WE := fun Γ Q X => match Γ[i]? with
  | some (.sh (.dict ps)) => (∀ p ∈ ps, fltP p.2) ∧ okW (ΓK Γ i ps) vs ∧ lcW vs g t w (fun acc _ => (∀ e ∈ acc, fltP e) ∧ Q (.ow (.list acc)) Γ) (ps.map (·.1)) [] (wipeE (ΓK Γ i ps) vs)
  | _ => False
section
variable {G : Gb} {W : WX} {g : TG} {wg : WG} {tt : TT} {wt : WT} {te : TE} {we : WE} {vs : List Nat} {C : Cf} {Hi H H' HL : Hp} {σ : St} {Γ : Ev}
theorem runK (nd : vs.Nodup) (hg : SimGw G g wg vs) (ht : SimT G noW tt wt) (he : SimE G noW te we) {i : Nat} {a : Addr} {od : Obj} {kvs : List (Key × V)} {ps : List (D × D)} {Q : VK} {kk : List D → Prop}
    (ha : HL a = some (.frz od (.dK kvs))) (hr : RepKV G.K Hi kvs ps) (hf : ∀ p ∈ ps, fltP p.2) (hσ : σ[i]? = some (some (.ref a))) (hl : Γ.length = σ.length) (ok : okW (ΓK Γ i ps) vs)
    (q : lcW vs wg wt we (fun acc _ => (∀ e ∈ acc, fltP e) ∧ kk acc) (ps.map (·.1)) [] (wipeE (ΓK Γ i ps) vs))
    (hQ : ∀ p xs acc H2, Ext HL H2 → HL p = none → H2 p = some (.lst xs) → (∀ Hi', Reps G.K Hi' xs acc) → kk acc → Q (.ref p) H2) : tLc (iKeys (tVar i)) g tt te vs σ HL Q := by
  refine ⟨_, hσ, a, od, rfl, .inl ⟨kvs, ha, ?_⟩⟩
  have hi : i < σ.length := (List.getElem?_eq_some_iff.mp hσ).1
  let Hi0 : Hp := fun b => if b = a then some (.frz od (.dK kvs)) else none
  have h0 : Hi0 a = some (.frz od (.dK kvs)) := if_pos rfl
  have hx : Ext Hi0 HL := fun b o e => by
    by_cases z : b = a
    · subst z
      rw [h0] at e; cases e
      exact ha
    · rw [show Hi0 b = none from if_neg z] at e; cases e
  let C0 : Cf := ⟨HL, Hi0, fun _ => False, fun _ h => h.elim, fun _ => none⟩
  have c0 : Rel G C0 Hi0 σ HL (ΓK Γ i ps) := by
    refine ⟨fun _ => [], { frame := fun b o h _ => h, live := fun b h => h, imm := hx, base := Ext.refl _, ov := fun b o h => .inl h, len := by rw [ΓK, List.length_set, List.length_map, hl], sl := fun j s hs => ?_, dj := fun j k b _ _ h => (nomatch h), av := fun j b _ h => (nomatch h) }⟩
    by_cases z : i = j
    · subst z
      rw [ΓK, List.getElem?_set_self (by rw [List.length_map, hl]; exact hi)] at hs
      cases hs
      exact ⟨_, hσ, rfl, _, rfl, .dct (.inr ⟨od, h0⟩) (hr.flat hf)⟩
    · rw [ΓK, List.getElem?_set_ne z, List.getElem?_map] at hs
      cases e : Γ[j]? with
      | none => rw [e] at hs; cases hs
      | some s' =>
        rw [e] at hs
        cases hs
        have hj := (List.getElem?_eq_some_iff.mp e).1
        exact ⟨_, List.getElem?_eq_getElem (by rw [← hl]; exact hj), rfl⟩
  have hlk : kvs.length = ps.length := hr.length
  have it : Items G.K Hi0 (Itk a od kvs) (ps.map (·.1)) := {
    stop := fun Hi' H i e k hi => ⟨k _ _ (e _ _ h0), by rw [List.length_map] at hi; omega⟩
    go := fun Hi' H i e k hi => ⟨k _ _ (e _ _ h0), by rw [List.length_map] at hi; omega⟩
    yld := fun Hi' H i x H' d e k hd y => by
      obtain ⟨rfl, kk, v, hkv, rfl⟩ := y
      rw [hr.at_key hkv hd]
      exact ⟨Hi', Ext.refl _, Ext.refl _, k, fun _ _ z => .inl z, rep_key kk⟩ }
  refine lc_run nd hg ht he (Qd := fun r _ => match r with
    | .ow (.list acc) => (∀ e ∈ acc, fltP e) ∧ kk acc
    | _ => False) c0 it ok q fun v r H' Hi' Γ' e o q' => ?_
  split at q'
  · rename_i acc
    obtain ⟨hl', fp, c⟩ := o
    have hat : (Γ' ++ [Sl.ow (.list acc)])[Γ'.length]? = some (.ow (.list acc)) := by simp
    obtain ⟨x, hx1, p, _, rfl, ow, hn⟩ := c.sl _ _ hat
    rw [hl', List.getElem?_append_right (Nat.le_refl _), Nat.sub_self] at hx1
    have : v = .ref p := by simpa using hx1
    subst this
    cases ow with
    | lst h1 h2 => exact hQ p _ acc H' (fun b o h => c.frame b o h fun z => z) hn h1 (fun Hi2 => h2.flat q'.1) q'.2
  · exact q'.elim
theorem outK (c : Rel G C Hi σ H Γ) (e : Ext H H') {p : Addr} {xs : List V} {acc : List D} (hp : H p = none) (hl : H' p = some (.lst xs)) (r : ∀ Hi', Reps G.K Hi' xs acc) : Out G C Hi σ H' Γ (.ref p) (.ow (.list acc)) := by
  let H3 : Hp := fun b => if b = p then none else H' b
  have h3 : H3 p = none := if_pos rfl
  have e3 : Ext H H3 := fun b o h => by
    have z : b ≠ p := fun z => by rw [z, hp] at h; cases h
    rw [show H3 b = H' b from if_neg z]
    exact e b o h
  have c3 : Rel G C Hi σ H3 Γ := c.grow e3 (Ext.refl _) (c.imm.trans e3) fun _ _ z => .inl z
  have c4 := c3.alloc h3 (o := .lst xs) (d := .list acc) (.lst upd_same (r Hi))
  have eq : upd H3 p (.lst xs) = H' := by
    funext b
    by_cases z : b = p
    · subst z; rw [upd_same, hl]
    · rw [upd_ne z]; exact if_neg z
  rw [eq] at c4
  exact ⟨c.len, c4⟩
theorem sim_lcK (nd : vs.Nodup) (i : Nat) (hg : SimGw G g wg vs) (ht : SimT G noW tt wt) (he : SimE G noW te we) : SimE G W (tLk (tLc (iKeys (tVar i)) g tt te vs)) (wLcK i vs wg wt we) := by
  intro C Hi σ H Γ Q Qd Xd c hw hQ hX
  unfold wLcK at hw
  split at hw
  · rename_i ps ei
    obtain ⟨hf, ok, q⟩ := hw
    obtain ⟨x, hx, rx⟩ := c.at_sh ei
    cases rx with
    | @dct a kvs _ h r =>
      rcases h with h | ⟨od, h⟩
      · refine .inl ⟨a, .dK kvs, c.imm _ _ h, True.intro, fun od => ?_⟩
        refine runK (Hi := Hi) nd hg ht he upd_same r hf hx c.len ok q fun p xs acc H2 e hp hl hr hk => ?_
        have hpa : p ≠ a := fun z => by subst z; rw [upd_same] at hp; cases hp
        have hp' : H p = none := by rwa [upd_ne hpa] at hp
        refine ⟨e _ _ upd_same, hQ _ _ _ Hi Γ (Ext.refl _) (outK c (fun b o hb => ?_) hp' (by rw [upd_ne hpa]; exact hl) hr) hk⟩
        by_cases z : b = a
        · subst z
          rw [c.imm _ _ h] at hb
          cases hb
          exact upd_same
        · rw [upd_ne z]
          exact e _ _ (by rw [upd_ne z]; exact hb)
      · refine .inr (runK (Hi := Hi) nd hg ht he (c.imm _ _ h) r hf hx c.len ok q fun p xs acc H2 e hp hl hr hk => ?_)
        exact hQ _ _ _ Hi Γ (Ext.refl _) (outK c e hp hl hr) hk
  · exact hw.elim
end
section
variable {X : Cx} {G : Gb} {W : WX} {tg e : Expr} {ifs : List Expr} {scope : Scope} {own : List (Str × Nat)} {pos p : Pos} {g : TG} {wg : WG} {tt : TT} {wt : WT} {te : TE} {we : WE}
theorem de_lcK (i : Nat) {x : Str} (hc : X.calm = true) (hN : X.N.Nodup) (ok : BlkOk X.N X.env.scope scope own) (nd : (own.map (·.2)).Nodup)
    (hg : ∀ s H C cl fp, DGw (Blk X scope s H C cl fp) G (own.map (·.2)) tg g wg) (ht : ∀ s H C cl fp, DTs (Blk X scope s H C cl fp) G noW ifs tt wt) (he : ∀ s H C cl fp, DE (Blk X scope s H C cl fp) G noW e te we)
    (hNi : X.N[i]? = some x := by rfl) (hv : Vis X.env.scope x := by first | exact Or.inl rfl | exact Or.inr (Or.inl rfl) | exact Or.inr (Or.inr rfl)) (hd : (x == ("__debug__" : Str)) = false := by decide) (hcd : (x == ("__classdict__" : Str)) = false := by decide)
    (hs : ∀ y, foldedSetIterable (.Name x p) X.env y = pure y := by intro _; rfl) :
    DE X G W (.ListComp e [⟨tg, .Name x p, ifs, 0⟩] scope pos) (tLk (tLc (iKeys (tVar i)) g tt te (own.map (·.2)))) (wLcK i (own.map (·.2)) wg wt we) :=
  ⟨pe_lk (pe_lc hc hN (pi_keys (pe_var hNi hv hd hcd)) ok (fun s H C cl fp => (hg s H C cl fp).pe) (fun s H C cl fp => (ht s H C cl fp).pe) (fun s H C cl fp => (he s H C cl fp).pe) hs),
    sim_lcK nd i (hg X.s_0 X.H_0 0 [] []).sim (ht X.s_0 X.H_0 0 [] []).sim (he X.s_0 X.H_0 0 [] []).sim⟩
end
end VL

set_option Elab.async false
set_option linter.all false
set_option maxRecDepth 100000
set_option maxHeartbeats 2000000
/-! VSrt: sorted(d) of a dict of text keys, any number of them. -/
namespace SC
open PySem PySem.Spec PyProof.Rows L2

/-- the keys that a walk of a dict hands over, read as texts -/
theorem keys_text {vs : List (Key × Value)} {ks : List Str} {us : List Value} (hk : vs.map (·.1) = ks.map Sum.inr) (hn : us.length = ks.length)
    (h : ∀ (j : Nat) (v : Value), us[j]? = some v → ∃ k x, vs[j]? = some (k, x) ∧ keyIs k v = true) : StrsAre us ks := by
  refine strs_at hn fun j v e => ?_
  obtain ⟨k, x, a, b⟩ := h j v e
  have c := congrArg (fun l => l[j]?) hk
  simp only [List.getElem?_map, a, Option.map_some] at c
  cases d : ks[j]? with
  | none => simp [d] at c
  | some y =>
    have c' : k = Sum.inr y := by simpa [d] using c
    subst c'
    obtain ⟨t, ev⟩ := Value.isStrOf_shape (x := y) (v := v) b
    exact ⟨y, t, rfl, ev⟩
section
variable {X : Cx}
def rSortedDL : List V → Hp → VK → Prop := fun xs H Q => ∃ (a : Addr) (kvs : List (Key × V)) (ks : List Str), xs = [.ref a] ∧ Rd H a (.dK kvs) ∧ kvs.map (·.1) = ks.map Sum.inr ∧ ks.length ≤ sizeLine ∧
    ∀ ys p, ys.Perm ks → sortedS ys = true → H p = none → Q (.ref p) (upd H p (.lst (ys.map V.str)))
theorem cr_sortedDL (hcalm : X.calm = true) : CallR X (.builtin "sorted") rSortedDL := by
  rintro pins s σ H xs us Q I r ⟨a, kvs, ks, rfl, hd, hks, hz, q⟩
  obtain ⟨u, rfl, rx⟩ := vals1 r
  cases rx
  obtain ⟨z, lo, vs, rel, dd⟩ := dk_rd I.hok hd
  obtain ⟨ep, hat⟩ := dd.dictAt
  have hk : vs.map (·.1) = ks.map Sum.inr := rel.keys.symm.trans hks
  have hl : vs.length = ks.length := by simpa using congrArg List.length hk
  refine Calls.call_function_entry PyProof.Rows.kind_sorted PyProof.Rows.plain_sorted PyProof.Rows.entry_sorted (PyProof.Rows.args_sorted1 _) ?_
  unfold Builtin.«sorted»
  refine wpAny_bind (m := checkCount "sorted" 1 1 _) (wpAny_pure ?_)
  refine wpAny_bind (PySem.W.kdu_collect (A := X.A.in1) (PySem.W.kdl_dict (knd := mixKind X.prog X.w) (kvs := vs) (ep := ep) lo) (I.ok.hd hcalm) hat (hl ▸ hz) fun h' tk acc kept got => ?_)
  have hn : acc.toList.length = ks.length := by simpa [hl] using got.1
  have hS : StrsAre acc.toList ks := keys_text hk hn fun j v e => got.2 j v (by simpa using e)
  have J : Inv X pins σ H { s with heap := h', toks := tk } := I.kept kept
  have ho : (h'.push (seqObj "list" acc.toList.toArray 0)).get? h'.objs.size = some (seqObj "list" acc.toList.toArray 0) := Heap.get?_push_size _ rfl
  refine wpAny_bind (wpAny_newList ?_ (hn ▸ hz))
  refine wpAny_bind (wpAny_holding (wpAny_call_entry PyProof.Rows.slot_list_sort ⟨_, ho, rfl⟩ PyProof.Rows.entry_list_sort
    (list_sort_treeKAny strKind_oneLt (s := { s with heap := h'.push (seqObj "list" acc.toList.toArray 0), toks := tk }) ho hS.keysOf (fun v₁ v₂ rest e => keyKind_strs (by rw [← e]; exact hS)) (hn ▸ hz) fun st hp hs => ⟨_, rfl, ?_⟩)
    (PyProof.Rows.args_list_sort _)))
  obtain ⟨ys, g1, g2, g3⟩ := sorted_out_str hS hp hs
  obtain ⟨e', he⟩ := PyProof.Rows.sortedHeap_at (vs := acc.toList) (out := (arrOf st).map (·.2)) ho
  have hy : (ys.map V.str).length ≤ sizeLine := by
    rw [List.length_map, g2.length_eq]
    exact hz
  refine wpAny_pure ⟨_, rfl, .ref h'.objs.size, upd H h'.objs.size (.lst (ys.map V.str)), J.laid (t' := tk) (fun b u e => ?_) (Nat.le_refl _)
    (show ObjOk X.prog X.w _ _ _ (.lst (ys.map V.str)) from ⟨hy, ((arrOf st).map (·.2)).toList, e', vals_of_strs g1, by rw [Array.toArray_toList]; exact he⟩), rfl, q ys _ g2 g3 (J.hok.fresh (Nat.le_refl _))⟩
  have hb : b < h'.objs.size := Heap.lt_size e
  rw [PyProof.Rows.sortedHeap_old (Nat.ne_of_lt hb) (by rw [size_push']; exact Nat.lt_succ_of_lt hb)]
  exact Heap.get?_push_of_some _ e
end
end SC

set_option Elab.async false
set_option linter.all false
set_option maxRecDepth 100000
/-! VSrtB: sorted(dict of text keys), any number of keys, over data. -/
namespace VL
open PySem L2
variable {X : Cx} {G : Gb}
def oSortDL : Op1 := fun d k => isD d fun ps => ∃ ks : List Str, ps.map (·.1) = ks.map .str ∧ ks.length ≤ sizeLine ∧ ∀ ys : List Str, ys.Perm ks → PyProof.Rows.sortedS ys = true → k (.ow (.list (ys.map .str)))
theorem sem_sortDL : SemN G SC.rSortedDL (o1 oSortDL) := by
  refine semN_1 ?_
  intro C Hi σ H Γ x a k Q c ha h q
  obtain ⟨ps, rfl, ks, e1, e2, h1⟩ := isD_inv h
  obtain ⟨p, kvs, rfl, s1, r1⟩ := ha.dict c.imm
  exact ⟨p, kvs, ks, rfl, s1, repKV_keysS r1 e1, e2, fun ys p' hp hs hn => q _ _ _ Hi (Ext.refl _) (Out.newL c hn (strs_reps ys)) (h1 ys hp hs)⟩
theorem b_sortDL (hc : X.calm = true) : B1 X G "sorted" SC.rSortedDL (o1 oSortDL) := ⟨SC.cr_sortedDL hc, sem_sortDL⟩
end VL

set_option Elab.async false
set_option linter.all false
set_option maxRecDepth 100000
/-! VSc1: what the defs promise; names, items. -/
namespace SC
open PySem L2 VL

theorem small {n : Nat} (h : n ≤ 1000000) : n < sizeLine := by rw [sizeLine_eq]; omega
theorem smallE {n : Nat} (h : n ≤ 1000000) : n ≤ sizeLine := by rw [sizeLine_eq]; omega

/-! ### is_integer -/
def isIntD (v : D) (lo : Int) (hi : D) : Bool := match v with
  | .int i => decide (lo ≤ i) && (match hi with
    | .int h => decide (i ≤ h)
    | _ => true)
  | _ => false
def fs_is_integer : FS := fun io ds Q _ => io = none ∧ ∃ (v : D) (lo : Int) (hi : D), ds = [v, .int lo, hi] ∧ (hi = .none ∨ ∃ h, hi = .int h) ∧ Q (.sh (.bool (isIntD v lo hi))) none
def w_is_integer : WS := wSeq (wIfS (wOr (wNot (wT (wIsi "int" (wVar 0)))) (wOr (wT (wIsi "bool" (wVar 0))) (wT (wOp (oIB fun i j => decide (i < j)) (wVar 0) (wVar 1))))) (wRet (wC (.bool false))) (wNext)) (wRet (wOrV (wOp oIsN (wVar 2) (wC .none)) (wOp (oIB fun i j => decide (i ≤ j)) (wVar 0) (wVar 2))))
theorem fv_is_integer : FnV fs_is_integer 3 w_is_integer := by
  rintro io ds Q X ⟨rfl, v, lo, hi, rfl, hh, q⟩
  show w_is_integer [.sh v, .sh (.int lo), .sh hi] _ _
  cases v with
  | int i =>
    by_cases h : i < lo
    · have : isIntD (.int i) lo hi = false := by simp [isIntD]; intro h2; omega
      rw [this] at q
      simp [w_is_integer, isT, h, q]
    · rcases hh with rfl | ⟨z, rfl⟩
      · have : isIntD (.int i) lo .none = true := by simp [isIntD]; omega
        rw [this] at q
        simp [w_is_integer, isT, h, q]
      · have : isIntD (.int i) lo (.int z) = decide (i ≤ z) := by simp [isIntD]; omega
        rw [this] at q
        simp [w_is_integer, isT, h, q]
  | _ =>
    simp [w_is_integer, isT]
    simpa [isIntD] using q

/-! ### names -/
abbrev letters : Str := "abcdefghijklmnopqrstuvwxyz"
def letter (c : Nat) : Bool := decide (c ∈ letters.cps.toList)
def nameB (s : Str) : Bool := decide (1 ≤ s.length) && decide (s.length ≤ 8) && s.cps.toList.all letter
def fs_is_name : FS := fun io ds Q _ => io = none ∧ ∃ s : Str, ds = [.str s] ∧ nameB s = true ∧ Q (.sh (.bool true)) none
def w_is_name : WS := wSeq (wIfS (wOr (wNot (wT (wIsi "str" (wVar 0)))) (wNot (wT (wChain (oIB fun i j => decide (i ≤ j)) (oIB fun i j => decide (i ≤ j)) (wC (.int 1)) (wCB (o1 oLen) (wCons (wVar 0) (wNil))) (wC (.int 8)))))) (wRet (wC (.bool false))) (wNext)) (wRet (wCB (o1 oAll) (wCons (wLc [1] (wiS (wVar 0)) (wgName 1) (wYes) (wOp (oIn false) (wVar 1) (wC (.str "abcdefghijklmnopqrstuvwxyz")))) (wNil))))
theorem lc_name (z : D) (k : List D → Ev → Prop) : ∀ (cs : List Nat) (n : Nat), cs.all letter = true → n + cs.length ≤ 1000 → k (List.replicate (n + cs.length) (.bool true)) [.sh z, .no] →
    lcW [1] (wgName 1) wYes (wOp (oIn false) (wVar 1) (wC (.str "abcdefghijklmnopqrstuvwxyz"))) k (cs.map fun c => .str ⟨#[c]⟩) (List.replicate n (.bool true)) [.sh z, .no]
  | [], n, _, _, q => by simpa [lcW] using q
  | c :: cs, n, ha, hn, q => by
    rw [List.all_cons, Bool.and_eq_true] at ha
    rw [List.length_cons] at hn q
    have h1 : decide (c ∈ letters.cps.toList) = true := ha.1
    have ih := lc_name z k cs (n + 1) ha.2 (by omega) (by rw [show n + 1 + cs.length = n + (cs.length + 1) by omega]; exact q)
    rw [List.replicate_succ'] at ih
    rw [List.map_cons]
    unfold lcW
    simp only [ev_wgName, List.set_cons_succ, List.set_cons_zero, ev_wYes, ev_wOp, ev_wVar, getS_0, getS_s, slVar_sh, ev_wC, ev_rd_sh, if_true]
    rw [ev_in_str, ev_isS]
    refine ⟨c, rfl, ?_⟩
    rw [if_neg Bool.false_ne_true, h1]
    simp only [ev_fr_sh, List.length_replicate]
    exact ⟨small (by omega), ih⟩
theorem fv_is_name : FnV fs_is_name 2 w_is_name := by
  rintro io ds Q X ⟨rfl, s, rfl, hs, q⟩
  show w_is_name [.sh (.str s), .no] _ _
  unfold nameB at hs
  rw [Bool.and_eq_true, Bool.and_eq_true] at hs
  obtain ⟨⟨h1, h2⟩, h3⟩ := hs
  have h1 := of_decide_eq_true h1
  have h2 := of_decide_eq_true h2
  have e1 : (1 : Int) ≤ (s.length : Int) := by omega
  have e2 : (s.length : Int) ≤ 8 := by omega
  simp only [w_is_name, ev_wSeq, ev_wIfS, ev_wOr, ev_wNot, ev_wT, ev_wIsi, ev_wVar, getS_0, getS_s, slVar_sh, ev_rd_sh, tyN_str, isT_self, ev_isB, Bool.not_true, Bool.false_eq_true, if_false, ev_wChain, ev_wC, ev_wCB, ev_wCons, ev_wNil, ev_rdAll_cons, ev_rdAll_nil, ev_o1, ev_len_s, ev_oIB, e1, e2, decide_true, if_true, ev_wNext, ev_wRet, ev_wLc, ev_wiS, ev_isS]
  refine ⟨smallE (by omega), ⟨trivial, trivial⟩, ?_⟩
  refine lc_name _ _ s.cps.toList 0 h3 (by have : s.cps.toList.length = s.length := by simp [Str.length]
                                           omega) ?_
  simp only [ev_rd_ow]
  refine ⟨List.replicate (0 + s.cps.toList.length) true, by simp, ?_⟩
  have : (List.replicate (0 + s.cps.toList.length) true).all id = true := by simp
  rw [this]
  exact ⟨trivial, q⟩
end SC

set_option Elab.async false
set_option linter.all false
set_option maxRecDepth 100000
/-! VSc2: items, scores. -/
namespace SC
open PySem L2 VL

inductive It where
  | bar (n : Str)
  | mark (n : Str)
  | rep (n : Str) (c : Int)
def It.d : It → D
  | .bar n => .tuple [.str "bar", .str n]
  | .mark n => .tuple [.str "mark", .str n]
  | .rep n c => .tuple [.str "repeat", .str n, .int c]
def sc (l : List It) : List D := l.map It.d
/-- a score, behind marks ms -/
def ok : List Str → List It → Prop
  | _, [] => True
  | ms, .bar n :: r => nameB n = true ∧ ok ms r
  | ms, .mark n :: r => nameB n = true ∧ n ∉ ms ∧ ok (n :: ms) r
  | ms, .rep n c :: r => nameB n = true ∧ n ∈ ms ∧ (1 ≤ c ∧ c < 2 ^ 31) ∧ ok ms r

theorem eqv_str (x y : Str) : PyData.eqv (.str x) (.str y) = (x == y) := by simp only [PyData.eqv]
theorem eqv_int (x y : Int) : PyData.eqv (.int x) (.int y) = (x == y) := by simp only [PyData.eqv]
theorem shaped_str {x : Str} (h : PyData.strOk x = true) : SeqAt.shaped (.str x) = true := by simp [SeqAt.shaped, PyData.canLay0, PyData.depth, h]
theorem sh_bar : SeqAt.shaped (.str "bar") = true := shaped_str (by decide +kernel)
theorem sh_mark : SeqAt.shaped (.str "mark") = true := shaped_str (by decide +kernel)
theorem sh_rep : SeqAt.shaped (.str "repeat") = true := shaped_str (by decide +kernel)
theorem shaped_int (x : Int) : SeqAt.shaped (.int x) = true := by simp [SeqAt.shaped, PyData.canLay0, PyData.depth]
theorem bb : (("bar" : Str) == ("bar" : Str)) = true := by decide
theorem bm : (("bar" : Str) == ("mark" : Str)) = false := by decide
theorem br : (("bar" : Str) == ("repeat" : Str)) = false := by decide
theorem mb : (("mark" : Str) == ("bar" : Str)) = false := by decide
theorem mm : (("mark" : Str) == ("mark" : Str)) = true := by decide
theorem mr : (("mark" : Str) == ("repeat" : Str)) = false := by decide
theorem rb : (("repeat" : Str) == ("bar" : Str)) = false := by decide
theorem rm : (("repeat" : Str) == ("mark" : Str)) = false := by decide
theorem rr : (("repeat" : Str) == ("repeat" : Str)) = true := by decide

/-! ### is_item -/
def okI (ps : List (D × D)) : It → Prop
  | .bar n => nameB n = true
  | .mark n => nameB n = true ∧ dget ps (.str n) = none
  | .rep n c => nameB n = true ∧ (dget ps (.str n)).isSome = true ∧ 1 ≤ c
def fs_is_item : FS := fun io ds Q _ => io = none ∧ ∃ (it : It) (ps : List (D × D)), ds = [it.d, .dict ps] ∧ okI ps it ∧ Q (.sh (.bool true)) none
def w_is_item : WS := wSeq (wIfS (wOr (wNot (wT (wIsi "tuple" (wVar 0)))) (wOr (wT (wOp (oIn true) (wCB (o1 oLen) (wCons (wVar 0) (wNil))) (wTup (wCons (wC (.int 2)) (wCons (wC (.int 3)) (wNil)))))) (wNot (wT (wCall fs_is_name [] (wCons (wOp oIx (wVar 0) (wC (.int 1))) (wNil))))))) (wRet (wC (.bool false))) (wNext)) (wSeq (wIfS (wT (wOp oEq (wCB (o1 oLen) (wCons (wVar 0) (wNil))) (wC (.int 3)))) (wRet (wAndV (wOp oEq (wOp oIx (wVar 0) (wC (.int 0))) (wC (.str "repeat"))) (wAndV (wOp (oIn false) (wOp oIx (wVar 0) (wC (.int 1))) (wVar 1)) (wCall fs_is_integer [.none] (wCons (wOp oIx (wVar 0) (wC (.int 2))) (wCons (wC (.int 1)) (wNil))))))) (wNext)) (wRet (wOrV (wOp oEq (wOp oIx (wVar 0) (wC (.int 0))) (wC (.str "bar"))) (wAndV (wOp oEq (wOp oIx (wVar 0) (wC (.int 0))) (wC (.str "mark"))) (wOp (oIn true) (wOp oIx (wVar 0) (wC (.int 1))) (wVar 1))))))
theorem fv_is_item : FnV fs_is_item 2 w_is_item := by
  rintro io ds Q X ⟨rfl, it, ps, rfl, h, q⟩
  show w_is_item [.sh it.d, .sh (.dict ps)] _ _
  cases it with
  | bar n =>
    simp [w_is_item, It.d, ev_in_tup, flatD, eqv_int, eqv_str, sh_bar, sh_mark, sh_rep, shaped_int, bb, bm, br, mb, mm, mr, rb, rm, rr]
    refine ⟨rfl, n, rfl, h, ?_⟩
    simpa using q
  | mark n =>
    simp [w_is_item, It.d, ev_in_tup, flatD, eqv_int, eqv_str, sh_bar, sh_mark, sh_rep, shaped_int, bb, bm, br, mb, mm, mr, rb, rm, rr]
    refine ⟨rfl, n, rfl, h.1, ?_⟩
    simp [ev_in_dict, h.2]
    simpa [mb] using q
  | rep n c =>
    simp [w_is_item, It.d, ev_in_tup, flatD, eqv_int, eqv_str, sh_bar, sh_mark, sh_rep, shaped_int, bb, bm, br, mb, mm, mr, rb, rm, rr]
    refine ⟨rfl, n, rfl, h.1, ?_⟩
    simp [ev_in_dict, h.2.1, rr]
    refine ⟨rfl, .int c, 1, .none, rfl, .inl rfl, ?_⟩
    have : isIntD (.int c) 1 .none = true := by simp [isIntD]; exact h.2.2
    rw [this]
    exact q

/-! ### is_score -/
def fs_is_score : FS := fun io ds Q _ => io = none ∧ ∃ l : List It, ds = [.list (sc l)] ∧ ok [] l ∧ l.length ≤ 1000 ∧ Q (.sh (.bool true)) none
def w_is_score : WS := wSeq (wIfS (wNot (wT (wIsi "list" (wVar 0)))) (wRet (wC (.bool false))) (wNext)) (wSeq (wSet 1 (wDict0)) (wSeq (wFor (wiA enumD (wCons (wVar 0) (wNil))) (wgTup 2 (wgCons (wgName 2) (wgCons (wgName 3) (wgNil)))) (wSeq (wIfS (wNot (wT (wCallB fs_is_item [] (wCons (wVar 3) (wCons (wVar 1) (wNil)))))) (wRet (wC (.bool false))) (wNext)) (wIfS (wT (wOp oEq (wOp oIx (wVar 3) (wC (.int 0))) (wC (.str "mark")))) (wDPut 1 (wOp oIx (wVar 3) (wC (.int 1))) (wVar 2)) (wNext)))) (wRet (wC (.bool true)))))
theorem keyEq_ss (x y : Str) : keyEq (.str x) (.str y) = decide (x = y) := rfl
theorem keyEq_ii (x y : Int) : keyEq (.int x) (.int y) = (x == y) := rfl
theorem keyEq_iff (d : D) (k : Key) : keyEq d (kD k) = true ↔ d = kD k := by
  cases k <;> cases d <;> simp [keyEq, kD]
theorem kD_inj {k k' : Key} (h : kD k = kD k') : k = k' := by
  cases k <;> cases k' <;> simp [kD] at h <;> simp [h]
/-- what a put changes -/
theorem dget_put (ps : List (D × D)) (k k' : Key) (v : D) : dget (dput ps (kD k) v) (kD k') = if k = k' then some v else dget ps (kD k') := by
  unfold dput
  by_cases ha : (ps.any fun p => keyEq p.1 (kD k)) = true
  · rw [if_pos ha]
    unfold dget
    rw [List.find?_map]
    have e : ((fun p : D × D => keyEq p.1 (kD k')) ∘ fun p : D × D => if keyEq p.1 (kD k) = true then (p.1, v) else p) = fun p : D × D => keyEq p.1 (kD k') := by
      funext p
      show keyEq (if keyEq p.1 (kD k) = true then (p.1, v) else p).1 (kD k') = keyEq p.1 (kD k')
      split <;> rfl
    rw [e]
    cases hf : ps.find? fun p => keyEq p.1 (kD k') with
    | none =>
      by_cases hk : k = k'
      · subst hk
        obtain ⟨p, hp, h1⟩ := List.any_eq_true.mp ha
        have := List.find?_eq_none.mp hf p hp
        exact absurd h1 this
      · rw [if_neg hk]; rfl
    | some p =>
      have hp := List.find?_some hf
      have e2 := (keyEq_iff _ _).mp hp
      by_cases hk : k = k'
      · subst hk
        rw [if_pos rfl]
        simp [hp]
      · rw [if_neg hk]
        have : ¬ keyEq p.1 (kD k) = true := fun z => hk (kD_inj (((keyEq_iff _ _).mp z).symm.trans e2))
        simp [this]
  · rw [if_neg ha]
    unfold dget
    rw [List.find?_append]
    by_cases hk : k = k'
    · subst hk
      rw [if_pos rfl]
      have : (ps.find? fun p => keyEq p.1 (kD k)) = none := List.find?_eq_none.mpr fun p hp z => ha (List.any_eq_true.mpr ⟨p, hp, z⟩)
      rw [this]
      have h1 : keyEq (kD k) (kD k) = true := (keyEq_iff _ _).mpr rfl
      simp [h1]
    · rw [if_neg hk]
      have h1 : keyEq (kD k) (kD k') = false := by
        cases q : keyEq (kD k) (kD k') with
        | false => rfl
        | true => exact absurd (kD_inj ((keyEq_iff _ _).mp q)) hk
      simp [h1]
theorem dget_putS (ps : List (D × D)) (x y : Str) (v : D) : dget (dput ps (.str x) v) (.str y) = if x = y then some v else dget ps (.str y) := by
  have := dget_put ps (.inr x) (.inr y) v
  rw [show (kD (.inr x)) = .str x from rfl, show (kD (.inr y)) = .str y from rfl] at this
  rw [this]
  by_cases h : x = y
  · subst h; simp
  · rw [if_neg h, if_neg fun z => h (Sum.inr.inj z)]
theorem dget_putI (ps : List (D × D)) (x y : Int) (v : D) : dget (dput ps (.int x) v) (.int y) = if x = y then some v else dget ps (.int y) := by
  have := dget_put ps (.inl x) (.inl y) v
  rw [show (kD (.inl x)) = .int x from rfl, show (kD (.inl y)) = .int y from rfl] at this
  rw [this]
  by_cases h : x = y
  · subst h; simp
  · rw [if_neg h, if_neg fun z => h (Sum.inl.inj z)]
theorem dput_len (ps : List (D × D)) (k v : D) : (dput ps k v).length ≤ ps.length + 1 := by
  unfold dput
  split <;> simp
/-- the marks so far -/
def Marks (ps : List (D × D)) (ms : List Str) : Prop := ∀ n, (dget ps (.str n)).isSome = decide (n ∈ ms)
theorem Marks.put {ps : List (D × D)} {ms : List Str} (h : Marks ps ms) (n : Str) (v : D) : Marks (dput ps (.str n) v) (n :: ms) := by
  intro m
  rw [dget_putS]
  by_cases e : n = m
  · subst e; simp
  · rw [if_neg e, h m]
    have : ¬ m = n := fun z => e z.symm
    simp [this]
theorem enumD_cons_aux (l : List D) : ∀ n : Nat, (l.mapIdx fun (i : Nat) d => PyData.tuple [.int ((i + n : Nat) : Int), d]) = l.mapIdx fun (i : Nat) d => PyData.tuple [.int ((i + n : Nat) : Int), d] := fun _ => rfl
/-- enumerate from n on -/
def enumF : Nat → List D → List D
  | _, [] => []
  | n, d :: r => .tuple [.int (n : Int), d] :: enumF (n + 1) r
theorem enumF_eq : ∀ (n : Nat) (l : List D), enumF n l = l.mapIdx fun (i : Nat) d => PyData.tuple [.int ((i + n : Nat) : Int), d]
  | _, [] => rfl
  | n, d :: r => by
    rw [enumF, enumF_eq (n + 1) r, List.mapIdx_cons]
    congr 1
    · simp
    · congr 1
      funext i e
      congr 3
      omega
theorem enumD_eq (l : List D) : enumD l = enumF 0 l := by rw [enumF_eq]; rfl
theorem loop_is_score (Dn : WD) (X : XW) (z : D) : ∀ (l : List It) (ms : List Str) (ps : List (D × D)) (n : Nat) (a b : Sl), ok ms l → Marks ps ms → ps.length ≤ n → n + l.length ≤ 1000 → (∀ (ps : List (D × D)) (a b : Sl), Dn.nx [.sh z, .ow (.dict ps), a, b]) →
    loopW (wgTup 2 (wgCons (wgName 2) (wgCons (wgName 3) (wgNil)))) (wSeq (wIfS (wNot (wT (wCallB fs_is_item [] (wCons (wVar 3) (wCons (wVar 1) (wNil)))))) (wRet (wC (.bool false))) (wNext)) (wIfS (wT (wOp oEq (wOp oIx (wVar 3) (wC (.int 0))) (wC (.str "mark")))) (wDPut 1 (wOp oIx (wVar 3) (wC (.int 1))) (wVar 2)) (wNext))) Dn X (enumF n (sc l)) [.sh z, .ow (.dict ps), a, b]
  | [], ms, ps, n, a, b, _, _, _, _, q => q ps a b
  | it :: l, ms, ps, n, a, b, h, hm, hl, hn, q => by
    have hn2 : n + 1 + l.length ≤ 1000 := by rw [List.length_cons] at hn; omega
    have hz : ps.length < sizeLine := small (by rw [List.length_cons] at hn; omega)
    rw [show sc (it :: l) = it.d :: sc l from rfl, enumF, ev_loop_cons]
    cases it with
    | bar nm =>
      simp
      refine ⟨rfl, .bar nm, ps, rfl, h.1, ?_⟩
      simp [It.d, flatR, flatD, sh_bar, sh_mark, eqv_str, bm]
      exact loop_is_score Dn X z l ms ps (n + 1) _ _ h.2 hm (by omega) hn2 q
    | mark nm =>
      simp
      refine ⟨rfl, .mark nm, ps, rfl, ⟨h.1, by have := hm nm; simpa [h.2.1] using this⟩, ?_⟩
      simp [It.d, flatR, flatD, sh_bar, sh_mark, eqv_str, mm, owW]
      exact ⟨hz, loop_is_score Dn X z l (nm :: ms) _ (n + 1) _ _ h.2.2 (hm.put nm _) (Nat.le_trans (dput_len _ _ _) (by omega)) hn2 q⟩
    | rep nm c =>
      simp
      refine ⟨rfl, .rep nm c, ps, rfl, ⟨h.1, by rw [hm nm]; simpa using h.2.1, h.2.2.1.1⟩, ?_⟩
      simp [It.d, flatR, flatD, sh_rep, sh_mark, eqv_str, rm]
      exact loop_is_score Dn X z l ms ps (n + 1) _ _ h.2.2.2 hm (by omega) hn2 q
theorem fv_is_score : FnV fs_is_score 4 w_is_score := by
  rintro io ds Q X ⟨rfl, l, rfl, h, hl, q⟩
  show w_is_score [.sh (.list (sc l)), .no, .no, .no] _ _
  simp [w_is_score, ev_wFor, enumD_eq]
  exact loop_is_score _ _ (.list (sc l)) l [] [] 0 .no .no h (fun n => by simp [dget]) (Nat.le_refl _) (by omega) fun ps a b => by simp; exact q
def fs_require_score : FS := fun io ds Q _ => io = none ∧ ∃ l : List It, ds = [.list (sc l)] ∧ ok [] l ∧ l.length ≤ 1000 ∧ Q (.sh .none) none
def w_require_score : WS := wIfS (wNot (wT (wCall fs_is_score [] (wCons (wVar 0) (wNil))))) (wNev) (wNext)
theorem fv_require_score : FnV fs_require_score 1 w_require_score := by
  rintro io ds Q X ⟨rfl, l, rfl, h, hl, q⟩
  show w_require_score [.sh (.list (sc l))] _ _
  simp [w_require_score]
  refine ⟨rfl, l, rfl, h, hl, ?_⟩
  simp
  exact q
end SC

set_option Elab.async false
set_option linter.all false
set_option maxRecDepth 100000
/-! VSc3: marks, starts, times. -/
namespace SC
open PySem L2 VL

/-! ### mark_indices -/
def MI (ps : List (D × D)) (l : List It) : Prop := ∀ n (j : Nat), l[j]? = some (.mark n) → dget ps (.str n) = some (.int (j : Int))
def fs_mark_indices : FS := fun io ds Q _ => io = none ∧ ∃ l : List It, ds = [.list (sc l)] ∧ ok [] l ∧ l.length ≤ 1000 ∧ ∀ ps, MI ps l → Q (.ow (.dict ps)) none
def w_mark_indices : WS := wRet (wDc [1, 2] (wiA enumD (wCons (wVar 0) (wNil))) (wgTup 2 (wgCons (wgName 1) (wgCons (wgName 2) (wgNil)))) (wT (wOp oEq (wOp oIx (wVar 2) (wC (.int 0))) (wC (.str "mark")))) (wOp oIx (wVar 2) (wC (.int 1))) (wVar 1))
theorem dc_marks (z : D) (k : List (D × D) → Ev → Prop) : ∀ (l : List It) (ms : List Str) (acc : List (D × D)) (n : Nat), ok ms l → acc.length ≤ n → n + l.length ≤ 1000 → Marks acc ms →
    (∀ ps, (∀ m v, dget acc (.str m) = some v → dget ps (.str m) = some v) → (∀ m (j : Nat), l[j]? = some (.mark m) → dget ps (.str m) = some (.int ((n + j : Nat) : Int))) → k ps [.sh z, .no, .no]) →
    dcW [1, 2] (wgTup 2 (wgCons (wgName 1) (wgCons (wgName 2) (wgNil)))) (wT (wOp oEq (wOp oIx (wVar 2) (wC (.int 0))) (wC (.str "mark")))) (wOp oIx (wVar 2) (wC (.int 1))) (wVar 1) k (enumF n (sc l)) acc [.sh z, .no, .no]
  | [], ms, acc, n, _, _, _, _, q => q acc (fun _ _ h => h) fun m j h => by simp at h
  | it :: l, ms, acc, n, h, hl, hn, hm, q => by
    have hn2 : n + 1 + l.length ≤ 1000 := by rw [List.length_cons] at hn; omega
    have hz : acc.length < sizeLine := small (by rw [List.length_cons] at hn; omega)
    have nx : ∀ ms' acc', ok ms' l → acc'.length ≤ n + 1 → Marks acc' ms' → (∀ m v, dget acc (.str m) = some v → dget acc' (.str m) = some v) → (∀ m, it = .mark m → dget acc' (.str m) = some (.int (n : Int))) →
        dcW [1, 2] (wgTup 2 (wgCons (wgName 1) (wgCons (wgName 2) (wgNil)))) (wT (wOp oEq (wOp oIx (wVar 2) (wC (.int 0))) (wC (.str "mark")))) (wOp oIx (wVar 2) (wC (.int 1))) (wVar 1) k (enumF (n + 1) (sc l)) acc' [.sh z, .no, .no] :=
      fun ms' acc' h1 h2 h3 h4 h5 => dc_marks z k l ms' acc' (n + 1) h1 h2 hn2 h3 fun ps p1 p2 => q ps (fun m v e => p1 m v (h4 m v e)) fun m j e => by
        cases j with
        | zero =>
          have : it = .mark m := by simpa using e
          exact p1 m _ (h5 m this)
        | succ j =>
          rw [p2 m j (by simpa using e)]
          congr 2
          omega
    rw [show sc (it :: l) = it.d :: sc l from rfl, enumF, dcW]
    cases it with
    | bar nm =>
      simp [It.d, sh_bar, sh_mark, eqv_str, bm, wipeE]
      exact nx ms acc h.2 (by omega) hm (fun _ _ e => e) fun m e => by cases e
    | mark nm =>
      simp [It.d, sh_mark, eqv_str, mm, wipeE]
      refine ⟨hz, nx (nm :: ms) _ h.2.2 (Nat.le_trans (dput_len _ _ _) (by omega)) (hm.put nm _) (fun m v e => ?_) fun m e => ?_⟩
      · rw [dget_putS]
        have : m ∈ ms := by
          have := hm m
          rw [e] at this
          simpa using this
        rw [if_neg fun z => h.2.1 (by rw [z]; exact this)]
        exact e
      · cases e
        rw [dget_putS, if_pos rfl]
    | rep nm c =>
      simp [It.d, sh_rep, sh_mark, eqv_str, rm, wipeE]
      exact nx ms acc h.2.2.2 (by omega) hm (fun _ _ e => e) fun m e => by cases e
theorem fv_mark_indices : FnV fs_mark_indices 3 w_mark_indices := by
  rintro io ds Q X ⟨rfl, l, rfl, h, hl, q⟩
  show w_mark_indices [.sh (.list (sc l)), .no, .no] _ _
  simp only [w_mark_indices, ev_wRet, ev_wDc, ev_wiA, ev_wCons, ev_wNil, ev_wVar, getS_0, slVar_sh, ev_frAll_cons, ev_frAll_nil, ev_fr_sh, enumD_eq]
  refine ⟨⟨trivial, trivial, trivial⟩, dc_marks (.list (sc l)) _ l [] [] 0 h (Nat.le_refl _) (by omega) (fun n => by simp [dget]) fun ps _ p => ?_⟩
  exact ⟨trivial, q ps fun n j e => by rw [p n j e]; congr 2; omega⟩

/-! ### segment_starts -/
theorem ok_mark : ∀ {l : List It} {ms : List Str} {i : Nat} {n : Str} {c : Int}, ok ms l → l[i]? = some (.rep n c) → n ∈ ms ∨ ∃ j, j < i ∧ l[j]? = some (.mark n)
  | [], _, _, _, _, _, e => by simp at e
  | it :: l, ms, 0, n, c, h, e => by
    have : it = .rep n c := by simpa using e
    subst this
    exact .inl h.2.1
  | it :: l, ms, i + 1, n, c, h, e => by
    have e : l[i]? = some (.rep n c) := by simpa using e
    cases it with
    | bar m =>
      rcases ok_mark h.2 e with z | ⟨j, h1, h2⟩
      · exact .inl z
      · exact .inr ⟨j + 1, by omega, by simpa using h2⟩
    | rep m d =>
      rcases ok_mark h.2.2.2 e with z | ⟨j, h1, h2⟩
      · exact .inl z
      · exact .inr ⟨j + 1, by omega, by simpa using h2⟩
    | mark m =>
      rcases ok_mark h.2.2 e with z | ⟨j, h1, h2⟩
      · rcases List.mem_cons.mp z with rfl | z
        · exact .inr ⟨0, by omega, rfl⟩
        · exact .inl z
      · exact .inr ⟨j + 1, by omega, by simpa using h2⟩
def SS (ps : List (D × D)) (l : List It) : Prop := ∀ (i : Nat) n c, l[i]? = some (.rep n c) → ∃ j : Nat, j < i ∧ l[j]? = some (.mark n) ∧ dget ps (.int (i : Int)) = some (.int ((j : Int) + 1))
def fs_segment_starts : FS := fun io ds Q _ => io = none ∧ ∃ l : List It, ds = [.list (sc l)] ∧ ok [] l ∧ l.length ≤ 1000 ∧ ∀ ps, SS ps l → Q (.ow (.dict ps)) none
def w_segment_starts : WS := wSeq (wSet 1 (wCall fs_mark_indices [] (wCons (wVar 0) (wNil)))) (wRet (wDc [2, 3] (wiA enumD (wCons (wVar 0) (wNil))) (wgTup 2 (wgCons (wgName 2) (wgCons (wgName 3) (wgNil)))) (wT (wOp oEq (wOp oIx (wVar 3) (wC (.int 0))) (wC (.str "repeat")))) (wVar 2) (wOp oAdd (wOp oIx (wVar 1) (wOp oIx (wVar 3) (wC (.int 1)))) (wC (.int 1)))))
theorem dc_starts (L : List It) (mps : List (D × D)) (hMI : MI mps L) (hok : ok [] L) (z : D) (k : List (D × D) → Ev → Prop) : ∀ (l : List It) (acc : List (D × D)) (n : Nat), L.drop n = l → acc.length ≤ n → n + l.length ≤ 1000 →
    (∀ ps, (∀ (i : Nat) v, i < n → dget acc (.int (i : Int)) = some v → dget ps (.int (i : Int)) = some v) → (∀ (i : Nat) nm c, n ≤ i → L[i]? = some (.rep nm c) → ∃ j : Nat, j < i ∧ L[j]? = some (.mark nm) ∧ dget ps (.int (i : Int)) = some (.int ((j : Int) + 1))) → k ps [.sh z, .ow (.dict mps), .no, .no]) →
    dcW [2, 3] (wgTup 2 (wgCons (wgName 2) (wgCons (wgName 3) (wgNil)))) (wT (wOp oEq (wOp oIx (wVar 3) (wC (.int 0))) (wC (.str "repeat")))) (wVar 2) (wOp oAdd (wOp oIx (wVar 1) (wOp oIx (wVar 3) (wC (.int 1)))) (wC (.int 1))) k (enumF n (sc l)) acc [.sh z, .ow (.dict mps), .no, .no]
  | [], acc, n, hd, _, _, q => q acc (fun _ _ _ h => h) fun i nm c hi e => by
      have : L.length ≤ n := by simpa using hd
      have := (List.getElem?_eq_some_iff.mp e).1
      omega
  | it :: l, acc, n, hd, hl, hn, q => by
    have hn2 : n + 1 + l.length ≤ 1000 := by rw [List.length_cons] at hn; omega
    have hz : acc.length < sizeLine := small (by rw [List.length_cons] at hn; omega)
    have hit : L[n]? = some it := by
      have := congrArg (·[0]?) hd
      simpa using this
    have hd2 : L.drop (n + 1) = l := by
      have := congrArg (List.drop 1) hd
      simpa [Nat.add_comm] using this
    have nx : ∀ acc', acc'.length ≤ n + 1 → (∀ (i : Nat) v, i < n → dget acc (.int (i : Int)) = some v → dget acc' (.int (i : Int)) = some v) → (∀ nm c, it = .rep nm c → ∃ j : Nat, j < n ∧ L[j]? = some (.mark nm) ∧ dget acc' (.int (n : Int)) = some (.int ((j : Int) + 1))) →
        dcW [2, 3] (wgTup 2 (wgCons (wgName 2) (wgCons (wgName 3) (wgNil)))) (wT (wOp oEq (wOp oIx (wVar 3) (wC (.int 0))) (wC (.str "repeat")))) (wVar 2) (wOp oAdd (wOp oIx (wVar 1) (wOp oIx (wVar 3) (wC (.int 1)))) (wC (.int 1))) k (enumF (n + 1) (sc l)) acc' [.sh z, .ow (.dict mps), .no, .no] :=
      fun acc' h1 h2 h3 => dc_starts L mps hMI hok z k l acc' (n + 1) hd2 h1 hn2 fun ps p1 p2 => q ps (fun i v hi e => p1 i v (by omega) (h2 i v hi e)) fun i nm c hi e => by
        by_cases hin : i = n
        · subst hin
          rw [hit] at e
          obtain ⟨j, j1, j2, j3⟩ := h3 nm c (Option.some.inj e)
          exact ⟨j, j1, j2, p1 i _ (by omega) j3⟩
        · exact p2 i nm c (by omega) e
    rw [show sc (it :: l) = it.d :: sc l from rfl, enumF, dcW]
    cases it with
    | bar nm =>
      simp [It.d, sh_bar, sh_rep, eqv_str, br, wipeE]
      exact nx acc (by omega) (fun _ _ _ e => e) fun m c e => by cases e
    | mark nm =>
      simp [It.d, sh_mark, sh_rep, eqv_str, mr, wipeE]
      exact nx acc (by omega) (fun _ _ _ e => e) fun m c e => by cases e
    | rep nm c =>
      rcases ok_mark hok hit with zz | ⟨j, j1, j2⟩
      · cases zz
      · simp [It.d, sh_rep, eqv_str, rr, wipeE, ev_rd_vr, ev_ixd, hMI nm j j2]
        refine ⟨hz, nx _ (Nat.le_trans (dput_len _ _ _) (by omega)) (fun i v hi e => ?_) fun m d e => ?_⟩
        · rw [dget_putI, if_neg (by omega)]
          exact e
        · cases e
          exact ⟨j, j1, j2, by rw [dget_putI, if_pos rfl]⟩
theorem fv_segment_starts : FnV fs_segment_starts 4 w_segment_starts := by
  rintro io ds Q X ⟨rfl, l, rfl, h, hl, q⟩
  show w_segment_starts [.sh (.list (sc l)), .no, .no, .no] _ _
  simp only [w_segment_starts, ev_wSeq, ev_wSet, ev_wCall, ev_wCons, ev_wNil, ev_wVar, getS_0, slVar_sh, ev_frAll_cons, ev_frAll_nil, ev_fr_sh, List.append_nil]
  refine ⟨rfl, l, rfl, h, hl, fun mps hMI => ?_⟩
  simp only [ev_setR_ow, List.set_cons_succ, List.set_cons_zero, ev_wRet, ev_wDc, ev_wiA, ev_wCons, ev_wNil, ev_wVar, getS_0, slVar_sh, ev_frAll_cons, ev_frAll_nil, ev_fr_sh, enumD_eq]
  refine ⟨⟨trivial, trivial, trivial⟩, dc_starts l mps hMI h (.list (sc l)) _ l [] 0 rfl (Nat.le_refl _) (by omega) fun ps _ p => ?_⟩
  exact ⟨trivial, q ps fun i n c e => p i n c (by omega) e⟩
end SC

set_option Elab.async false
set_option linter.all false
set_option maxRecDepth 100000
/-! VSc4: times, visits. -/
namespace SC
open PySem L2 VL

/-! ### times -/
abbrev Sta := (Str → Int) × Int
def stp (p : Sta) : It → Sta
  | .bar _ => (p.1, p.2 + 1)
  | .mark n => (fun m => if m = n then p.2 else p.1 m, p.2)
  | .rep n c => (p.1, p.2 + c * (p.2 - p.1 n))
def st (p : Sta) (l : List It) : Sta := l.foldl stp p
def p0 : Sta := (fun _ => 0, 0)
def run (p : Sta) : List It → List Int
  | [] => [p.2]
  | it :: r => p.2 :: run (stp p it) r
theorem run_length : ∀ (l : List It) (p : Sta), (run p l).length = l.length + 1
  | [], _ => rfl
  | it :: r, p => by rw [run, List.length_cons, run_length r, List.length_cons]
theorem run_get : ∀ (l : List It) (p : Sta) (i : Nat), i ≤ l.length → (run p l)[i]? = some (st p (l.take i)).2
  | [], p, i, h => by
    have : i = 0 := by simpa using h
    subst this; rfl
  | it :: r, p, 0, _ => rfl
  | it :: r, p, i + 1, h => by
    rw [run, List.getElem?_cons_succ, run_get r (stp p it) i (by simpa using h)]
    rfl
theorem st_take {l : List It} {p : Sta} {n : Nat} {it : It} (h : l[n]? = some it) : st p (l.take (n + 1)) = stp (st p (l.take n)) it := by
  have hn : n < l.length := (List.getElem?_eq_some_iff.mp h).1
  have : l.take (n + 1) = l.take n ++ [it] := by
    rw [List.take_succ, h]; rfl
  unfold st
  rw [this, List.foldl_append]
  rfl
theorem ok_fresh : ∀ {l : List It} {ms : List Str} {i : Nat} {n : Str}, ok ms l → l[i]? = some (.mark n) → n ∉ ms
  | [], _, _, _, _, e => by simp at e
  | it :: l, ms, 0, n, h, e => by
    have : it = .mark n := by simpa using e
    subst this
    exact h.2.1
  | it :: l, ms, i + 1, n, h, e => by
    have e : l[i]? = some (.mark n) := by simpa using e
    cases it with
    | bar m => exact ok_fresh h.2 e
    | rep m d => exact ok_fresh h.2.2.2 e
    | mark m => exact fun z => ok_fresh h.2.2 e (List.mem_cons_of_mem _ z)
theorem ok_uniq : ∀ {l : List It} {ms : List Str} {i j : Nat} {n : Str}, ok ms l → l[i]? = some (.mark n) → l[j]? = some (.mark n) → i = j
  | [], _, _, _, _, _, e, _ => by simp at e
  | it :: l, ms, 0, 0, n, _, _, _ => rfl
  | it :: l, ms, 0, j + 1, n, h, e, e2 => by
    have : it = .mark n := by simpa using e
    subst this
    exact absurd List.mem_cons_self (ok_fresh (i := j) h.2.2 (by simpa using e2))
  | it :: l, ms, i + 1, 0, n, h, e, e2 => by
    have : it = .mark n := by simpa using e2
    subst this
    exact absurd List.mem_cons_self (ok_fresh (i := i) h.2.2 (by simpa using e))
  | it :: l, ms, i + 1, j + 1, n, h, e, e2 => by
    have e : l[i]? = some (.mark n) := by simpa using e
    have e2 : l[j]? = some (.mark n) := by simpa using e2
    congr 1
    cases it with
    | bar m => exact ok_uniq h.2 e e2
    | rep m d => exact ok_uniq h.2.2.2 e e2
    | mark m => exact ok_uniq h.2.2 e e2
/-- the time of a mark stays -/
theorem mark_time {l : List It} {p : Sta} (h : ok [] l) {j : Nat} {n : Str} (hj : l[j]? = some (.mark n)) : ∀ i, j < i → i ≤ l.length → (st p (l.take i)).1 n = (st p (l.take (j + 1))).2 := by
  intro i
  induction i with
  | zero => intro z; omega
  | succ i ih =>
    intro hji hil
    have hi : i < l.length := by omega
    have e := st_take (p := p) (List.getElem?_eq_getElem hi)
    by_cases hij : j = i
    · subst hij
      rw [List.getElem?_eq_getElem hi] at hj
      rw [e, Option.some.inj hj]
      simp [stp]
    · rw [e, ← ih (by omega) (by omega)]
      cases q : l[i] with
      | bar m => rfl
      | rep m c => rfl
      | mark m =>
        have : ¬ n = m := fun z => hij (ok_uniq h hj (by rw [List.getElem?_eq_getElem hi, q, z]))
        simp [stp, this]
def Bd (p : Sta) (n : Nat) : Prop := 0 ≤ p.2 ∧ p.2 < ((2 ^ (32 * n) : Nat) : Int) ∧ ∀ m, 0 ≤ p.1 m ∧ p.1 m ≤ p.2
theorem Bd.stp {p : Sta} {n : Nat} (h : Bd p n) {it : It} (hc : ∀ m c, it = .rep m c → 1 ≤ c ∧ c < 2 ^ 31) : Bd (stp p it) (n + 1) := by
  obtain ⟨h1, h2, h3⟩ := h
  have e : ((2 ^ (32 * (n + 1)) : Nat) : Int) = 4294967296 * ((2 ^ (32 * n) : Nat) : Int) := by
    have : 2 ^ (32 * (n + 1)) = 2 ^ (32 * n) * 4294967296 := by
      rw [show 32 * (n + 1) = 32 * n + 32 by omega, Nat.pow_add]
    rw [this, Int.natCast_mul]; omega
  cases it with
  | bar m =>
    refine ⟨?_, ?_, fun m => ?_⟩
    · show 0 ≤ p.2 + 1; omega
    · show p.2 + 1 < _; rw [e]; omega
    · have := h3 m; show 0 ≤ p.1 m ∧ p.1 m ≤ p.2 + 1; omega
  | mark m =>
    refine ⟨h1, by show p.2 < _; rw [e]; omega, fun x => ?_⟩
    show 0 ≤ (if x = m then p.2 else p.1 x) ∧ (if x = m then p.2 else p.1 x) ≤ p.2
    have := h3 x
    split <;> omega
  | rep m c =>
    obtain ⟨c1, c2⟩ := hc m c rfl
    have := h3 m
    have l1 : 0 ≤ c * (p.2 - p.1 m) := Int.mul_nonneg (by omega) (by omega)
    have l2 : c * (p.2 - p.1 m) ≤ 2147483648 * p.2 := by
      calc c * (p.2 - p.1 m) ≤ 2147483648 * (p.2 - p.1 m) := Int.mul_le_mul_of_nonneg_right (by omega) (by omega)
        _ ≤ 2147483648 * p.2 := by omega
    refine ⟨?_, ?_, fun x => ?_⟩
    · show 0 ≤ p.2 + c * (p.2 - p.1 m); omega
    · show p.2 + c * (p.2 - p.1 m) < _; rw [e]; omega
    · have := h3 x
      show 0 ≤ p.1 x ∧ p.1 x ≤ p.2 + c * (p.2 - p.1 m); omega
theorem ok_count : ∀ {l : List It} {ms : List Str} {i : Nat} {n : Str} {c : Int}, ok ms l → l[i]? = some (.rep n c) → 1 ≤ c ∧ c < 2 ^ 31
  | [], _, _, _, _, _, e => by simp at e
  | it :: l, ms, 0, n, c, h, e => by
    have : it = .rep n c := by simpa using e
    subst this
    exact h.2.2.1
  | it :: l, ms, i + 1, n, c, h, e => by
    have e : l[i]? = some (.rep n c) := by simpa using e
    cases it with
    | bar m => exact ok_count h.2 e
    | rep m d => exact ok_count h.2.2.2 e
    | mark m => exact ok_count h.2.2 e
theorem bd_st {l : List It} (h : ok [] l) : ∀ n, n ≤ l.length → Bd (st p0 (l.take n)) n := by
  intro n
  induction n with
  | zero => intro _; exact ⟨Int.le_refl 0, (by decide : (0 : Int) < ((2 ^ (32 * 0) : Nat) : Int)), fun m => ⟨Int.le_refl 0, Int.le_refl 0⟩⟩
  | succ n ih =>
    intro hn
    have hi : n < l.length := by omega
    rw [st_take (List.getElem?_eq_getElem hi)]
    exact (ih (by omega)).stp fun m c e => ok_count h (by rw [List.getElem?_eq_getElem hi, e])
theorem ix_lastE {l : List D} {d : D} {k : R → Prop} (h : l.getLast? = some d) : oIx (.list l) (.int (-1)) k = k (.sh d) := by
  rw [List.getLast?_eq_getElem?] at h
  have hn : l.length - 1 < l.length := (List.getElem?_eq_some_iff.mp h).1
  rw [ev_ixl]
  have : atI l (-1) = some d := by
    unfold atI
    have : ixN l.length (-1) = some (l.length - 1) := by
      unfold ixN
      rw [if_neg (by omega), if_pos (by omega)]
      congr 1
      omega
    rw [this]; exact h
  rw [this]
theorem ix_lnE {l : List D} {n : Nat} {d : D} {k : R → Prop} (h : l[n]? = some d) : oIx (.list l) (.int (n : Int)) k = k (.sh d) := by
  have hn : n < l.length := (List.getElem?_eq_some_iff.mp h).1
  rw [ev_ixl]
  have : atI l (n : Int) = some d := by
    unfold atI
    have : ixN l.length (n : Int) = some n := by
      unfold ixN
      simp
      omega
    rw [this]; exact h
  rw [this]
theorem mul_ok {i j : Int} {b : Nat} (hi : i.natAbs < 2 ^ 32) (hj : j.natAbs < 2 ^ b) (h0 : 0 < b) (hb : b ≤ 900000) : CMulW i j := wide_mul (a := 32) (b := b) hi hj (by decide) h0 (by omega)
def fs_arrival_times : FS := fun io ds Q _ => io = none ∧ ∃ l : List It, ds = [.list (sc l)] ∧ ok [] l ∧ l.length ≤ 1000 ∧ Q (.ow (.list ((run p0 l).map .int))) none
def w_arrival_times : WS := wSeq (wSet 1 (wCall fs_segment_starts [] (wCons (wVar 0) (wNil)))) (wSeq (wSet 2 (wLst (wCons (wC (.int 0)) (wNil)))) (wSeq (wFor (wiA enumD (wCons (wVar 0) (wNil))) (wgTup 2 (wgCons (wgName 3) (wgCons (wgName 4) (wgNil)))) (wSeq (wSet 5 (wOp oIx (wVar 2) (wUn (fun a k => isI a fun i => k (.sh (.int (-i)))) (wC (.int 1))))) (wIfS (wT (wOp oEq (wOp oIx (wVar 4) (wC (.int 0))) (wC (.str "repeat")))) (wDrop (wMut 2 fAppend (wCons (wOp oAdd (wVar 5) (wOp oMul (wOp oIx (wVar 4) (wC (.int 2))) (wOp (oII (fun _ _ => True) (· - ·)) (wVar 5) (wOp oIx (wVar 2) (wOp oIx (wVar 1) (wVar 3)))))) wNil))) (wDrop (wMut 2 fAppend (wCons (wOp oAdd (wVar 5) (wCB (o1 oInt) (wCons (wOp oEq (wOp oIx (wVar 4) (wC (.int 0))) (wC (.str "bar"))) (wNil)))) wNil)))))) (wRet (wVar 2))))
theorem take_run {L : List It} {p : Sta} {n : Nat} (h : n ≤ L.length) : ((run p L).take (n + 1)).getLast? = some (st p (L.take n)).2 := by
  have hl := run_length L p
  rw [List.getLast?_eq_getElem?, List.length_take, Nat.min_eq_left (by omega), List.getElem?_take_of_lt (by omega)]
  exact run_get L p n h
theorem take_run_succ {L : List It} {p : Sta} {n : Nat} {it : It} (h : L[n]? = some it) : (run p L).take (n + 1 + 1) = (run p L).take (n + 1) ++ [(stp (st p (L.take n)) it).2] := by
  have hn : n < L.length := (List.getElem?_eq_some_iff.mp h).1
  rw [List.take_succ, run_get L p (n + 1) (by omega), st_take h]
  rfl
theorem loop_times (L : List It) (sps : List (D × D)) (hSS : SS sps L) (hok : ok [] L) (hlen : L.length ≤ 1000) (Dn : WD) (X : XW) (z : D) : ∀ (l : List It) (n : Nat) (a b c : Sl), L.drop n = l → n ≤ L.length →
    (∀ a b c : Sl, Dn.nx [.sh z, .ow (.dict sps), .ow (.list ((run p0 L).map .int)), a, b, c]) →
    loopW (wgTup 2 (wgCons (wgName 3) (wgCons (wgName 4) (wgNil)))) (wSeq (wSet 5 (wOp oIx (wVar 2) (wUn (fun a k => isI a fun i => k (.sh (.int (-i)))) (wC (.int 1))))) (wIfS (wT (wOp oEq (wOp oIx (wVar 4) (wC (.int 0))) (wC (.str "repeat")))) (wDrop (wMut 2 fAppend (wCons (wOp oAdd (wVar 5) (wOp oMul (wOp oIx (wVar 4) (wC (.int 2))) (wOp (oII (fun _ _ => True) (· - ·)) (wVar 5) (wOp oIx (wVar 2) (wOp oIx (wVar 1) (wVar 3)))))) wNil))) (wDrop (wMut 2 fAppend (wCons (wOp oAdd (wVar 5) (wCB (o1 oInt) (wCons (wOp oEq (wOp oIx (wVar 4) (wC (.int 0))) (wC (.str "bar"))) (wNil)))) wNil)))))
      Dn X (enumF n (sc l)) [.sh z, .ow (.dict sps), .ow (.list (((run p0 L).take (n + 1)).map .int)), a, b, c]
  | [], n, a, b, c, hd, hn, q => by
    have : L.length ≤ n := by simpa using hd
    have e : (run p0 L).take (n + 1) = run p0 L := List.take_of_length_le (by rw [run_length]; omega)
    rw [e]
    exact q a b c
  | it :: l, n, a, b, c, hd, hn, q => by
    have hit : L[n]? = some it := by
      have := congrArg (·[0]?) hd
      simpa using this
    have hd2 : L.drop (n + 1) = l := by
      have := congrArg (List.drop 1) hd
      simpa [Nat.add_comm] using this
    have hnl : n < L.length := (List.getElem?_eq_some_iff.mp hit).1
    have hlast : (((run p0 L).take (n + 1)).map PyData.int).getLast? = some (.int (st p0 (L.take n)).2) := by rw [List.getLast?_map, take_run (by omega)]; rfl
    have hz : (((run p0 L).take (n + 1)).map PyData.int).length < sizeLine := by
      rw [List.length_map, List.length_take]
      exact small (by omega)
    have nx := fun a b c => loop_times L sps hSS hok hlen Dn X z l (n + 1) a b c hd2 (by omega) q
    rw [take_run_succ hit, List.map_append] at nx
    have hts : ∀ nm c, it = .rep nm c → ∃ j : Nat, dget sps (.int (n : Int)) = some (.int ((j : Int) + 1)) ∧ (((run p0 L).take (n + 1)).map PyData.int)[j + 1]? = some (.int ((st p0 (L.take n)).1 nm)) ∧ CMulW c ((st p0 (L.take n)).2 - (st p0 (L.take n)).1 nm) := by
      rintro nm c rfl
      obtain ⟨j, j1, j2, j3⟩ := hSS n nm c hit
      refine ⟨j, j3, ?_, ?_⟩
      · rw [List.getElem?_map, List.getElem?_take_of_lt (by omega), run_get L p0 (j + 1) (by omega), ← mark_time hok j2 n j1 (by omega)]
        rfl
      · have hb := bd_st hok n (by omega)
        have hc := ok_count hok hit
        obtain ⟨b1, b2, b3⟩ := hb
        have b3 := b3 nm
        refine mul_ok (b := 32 * n + 1) (by omega) ?_ (by omega) (by omega)
        rw [Nat.pow_succ]
        omega
    rw [List.map_cons, List.map_nil] at nx
    generalize ((run p0 L).take (n + 1)).map PyData.int = B at *
    rw [show sc (it :: l) = it.d :: sc l from rfl, enumF, ev_loop_cons]
    cases it with
    | bar nm =>
      simp [It.d, sh_bar, sh_rep, eqv_str, br, bb, ix_lastE hlast]
      exact ⟨hz, nx _ _ _⟩
    | mark nm =>
      simp [It.d, sh_bar, sh_mark, sh_rep, eqv_str, mr, mb, ix_lastE hlast]
      exact ⟨hz, nx _ _ _⟩
    | rep nm c =>
      obtain ⟨j, j3, ht, hm⟩ := hts nm c rfl
      have ht2 := fun k => ix_lnE (k := k) ht
      rw [Int.natCast_add] at ht2
      simp [It.d, sh_rep, eqv_str, rr, ix_lastE hlast, ev_ixd, j3]
      have ht3 := ht2
      simp at ht3
      simp [ht3, hm]
      exact ⟨hz, nx _ _ _⟩
theorem fv_arrival_times : FnV fs_arrival_times 6 w_arrival_times := by
  rintro io ds Q X ⟨rfl, l, rfl, h, hl, q⟩
  show w_arrival_times [.sh (.list (sc l)), .no, .no, .no, .no, .no] _ _
  simp [w_arrival_times, ev_wFor, enumD_eq]
  refine ⟨rfl, l, rfl, h, hl, fun sps hSS => ?_⟩
  simp
  have e : [PyData.int 0] = ((run p0 l).take (0 + 1)).map .int := by cases l <;> rfl
  rw [e]
  exact loop_times l sps hSS h hl _ _ (.list (sc l)) l 0 .no .no .no rfl (by omega) fun a b c => by simp; exact q
end SC

set_option Elab.async false
set_option linter.all false
set_option maxRecDepth 100000
/-! VSc5: visits; length_of, total_length, is_repeat, require_repeat. -/
namespace SC
open PySem L2 VL

/-! ### visits -/
def vis : List It → Int × (Str → Int)
  | [] => (1, fun _ => 0)
  | .bar _ :: r => vis r
  | .mark n :: r => ((vis r).1 - (vis r).2 n, (vis r).2)
  | .rep n c :: r => ((vis r).1 * (c + 1), fun m => if m = n then (vis r).2 m + c * (vis r).1 else (vis r).2 m)
def visL : List It → List Int
  | [] => [1]
  | it :: r => (vis (it :: r)).1 :: visL r
theorem visL_length : ∀ l : List It, (visL l).length = l.length + 1
  | [] => rfl
  | it :: r => by rw [visL, List.length_cons, visL_length r, List.length_cons]
theorem visL_get : ∀ (l : List It) (i : Nat), i ≤ l.length → (visL l)[i]? = some (vis (l.drop i)).1
  | [], i, h => by
    have : i = 0 := by simpa using h
    subst this; rfl
  | it :: r, 0, _ => rfl
  | it :: r, i + 1, h => by
    rw [visL, List.getElem?_cons_succ, visL_get r i (by simpa using h)]
    rfl
theorem visL_head (l : List It) : (visL l).head? = some (vis l).1 := by cases l <;> rfl
def Vb (p : Int × (Str → Int)) (n : Nat) : Prop := p.1.natAbs ≤ 2 ^ (32 * n) ∧ ∀ m, (p.2 m).natAbs ≤ 2 ^ (32 * n)
theorem vb : ∀ {l : List It} {ms : List Str}, (∀ (i : Nat) n c, l[i]? = some (.rep n c) → 1 ≤ c ∧ c < 2 ^ 31) → Vb (vis l) l.length
  | [], _, _ => ⟨by decide, fun m => by simp [vis]⟩
  | it :: r, ms, h => by
    have ih := vb (l := r) (ms := []) fun i n c e => h (i + 1) n c (by simpa using e)
    obtain ⟨h1, h2⟩ := ih
    have e : 2 ^ (32 * (r.length + 1)) = 2 ^ (32 * r.length) * 4294967296 := by rw [show 32 * (r.length + 1) = 32 * r.length + 32 by omega, Nat.pow_add]
    rw [List.length_cons]
    unfold Vb
    rw [e]
    generalize 2 ^ (32 * r.length) = B at *
    cases it with
    | bar m => exact ⟨by show (vis r).1.natAbs ≤ _; omega, fun x => by have := h2 x; show ((vis r).2 x).natAbs ≤ _; omega⟩
    | mark m =>
      have := h2 m
      exact ⟨by show ((vis r).1 - (vis r).2 m).natAbs ≤ _; omega, fun x => by have := h2 x; show ((vis r).2 x).natAbs ≤ _; omega⟩
    | rep m c =>
      obtain ⟨c1, c2⟩ := h 0 m c rfl
      have l1 : ((vis r).1 * (c + 1)).natAbs ≤ B * 4294967296 := by
        rw [Int.natAbs_mul]
        exact Nat.mul_le_mul h1 (by omega)
      have l2 : (c * (vis r).1).natAbs ≤ 2147483648 * B := by
        rw [Int.natAbs_mul]
        exact Nat.mul_le_mul (by omega) h1
      refine ⟨l1, fun x => ?_⟩
      show (if x = m then (vis r).2 x + c * (vis r).1 else (vis r).2 x).natAbs ≤ _
      have := h2 x
      split <;> omega
theorem ix_last0 {l : List D} {d : D} (h : l.head? = some d) : l.reverse.getLast? = some d := by rw [List.getLast?_reverse]; exact h
def fs_count_visits : FS := fun io ds Q _ => io = none ∧ ∃ l : List It, ds = [.list (sc l)] ∧ ok [] l ∧ l.length ≤ 1000 ∧ Q (.ow (.list ((visL l).map .int))) none
def w_count_visits : WS := wSeq (wSet 1 (wLst (wCons (wC (.int 1)) (wNil)))) (wSeq (wSet 2 (wDict0)) (wSeq (wFor (wiA List.reverse (wCons (wVar 0) (wNil))) (wgName 3) (wSeq (wSet 4 (wOp oIx (wVar 1) (wUn (fun a k => isI a fun i => k (.sh (.int (-i)))) (wC (.int 1))))) (wSeq (wIfS (wT (wOp oEq (wOp oIx (wVar 3) (wC (.int 0))) (wC (.str "repeat")))) (wSeq (wDPut 2 (wOp oIx (wVar 3) (wC (.int 1))) (wOp oAdd (wDGet2 (wVar 2) (wOp oIx (wVar 3) (wC (.int 1))) (wC (.int 0))) (wOp oMul (wOp oIx (wVar 3) (wC (.int 2))) (wVar 4)))) (wAug 4 (oII CMulW (· * ·)) (wOp oAdd (wOp oIx (wVar 3) (wC (.int 2))) (wC (.int 1))))) (wIfS (wT (wOp oEq (wOp oIx (wVar 3) (wC (.int 0))) (wC (.str "mark")))) (wAug 4 (oII (fun _ _ => True) (· - ·)) (wDGet2 (wVar 2) (wOp oIx (wVar 3) (wC (.int 1))) (wC (.int 0)))) (wNext))) (wDrop (wMut 1 fAppend (wCons (wVar 4) wNil)))))) (wRet (wRevL (wVar 1)))))
theorem loop_visits (L : List It) (hok : ok [] L) (hlen : L.length ≤ 1000) (Dn : WD) (X : XW) (z : D) : ∀ (n : Nat) (ps : List (D × D)) (a b : Sl), n ≤ L.length → ps.length ≤ L.length - n → (∀ m, (dget ps (.str m)).getD (.int 0) = .int ((vis (L.drop n)).2 m)) →
    (∀ (ps : List (D × D)) (a b : Sl), Dn.nx [.sh z, .ow (.list (((visL L).map .int).reverse)), .ow (.dict ps), a, b]) →
    loopW (wgName 3) (wSeq (wSet 4 (wOp oIx (wVar 1) (wUn (fun a k => isI a fun i => k (.sh (.int (-i)))) (wC (.int 1))))) (wSeq (wIfS (wT (wOp oEq (wOp oIx (wVar 3) (wC (.int 0))) (wC (.str "repeat")))) (wSeq (wDPut 2 (wOp oIx (wVar 3) (wC (.int 1))) (wOp oAdd (wDGet2 (wVar 2) (wOp oIx (wVar 3) (wC (.int 1))) (wC (.int 0))) (wOp oMul (wOp oIx (wVar 3) (wC (.int 2))) (wVar 4)))) (wAug 4 (oII CMulW (· * ·)) (wOp oAdd (wOp oIx (wVar 3) (wC (.int 2))) (wC (.int 1))))) (wIfS (wT (wOp oEq (wOp oIx (wVar 3) (wC (.int 0))) (wC (.str "mark")))) (wAug 4 (oII (fun _ _ => True) (· - ·)) (wDGet2 (wVar 2) (wOp oIx (wVar 3) (wC (.int 1))) (wC (.int 0)))) (wNext))) (wDrop (wMut 1 fAppend (wCons (wVar 4) wNil)))))
      Dn X (sc (L.take n)).reverse [.sh z, .ow (.list (((visL (L.drop n)).map .int).reverse)), .ow (.dict ps), a, b]
  | 0, ps, a, b, _, _, _, q => q ps a b
  | n + 1, ps, a, b, hn, hl, hd, q => by
    have hnl : n < L.length := by omega
    have hit : L[n]? = some L[n] := List.getElem?_eq_getElem hnl
    have et : (sc (L.take (n + 1))).reverse = (L[n]).d :: (sc (L.take n)).reverse := by
      have : L.take (n + 1) = L.take n ++ [L[n]] := by rw [List.take_succ, hit]; rfl
      rw [this]; unfold sc; rw [List.map_append, List.reverse_append]; rfl
    have edr : L.drop n = L[n] :: L.drop (n + 1) := List.drop_eq_getElem_cons hnl
    have hlast : (((visL (L.drop (n + 1))).map PyData.int).reverse).getLast? = some (.int (vis (L.drop (n + 1))).1) := ix_last0 (by rw [List.head?_map, visL_head]; rfl)
    have hz : (((visL (L.drop (n + 1))).map PyData.int).reverse).length < sizeLine := by
      rw [List.length_reverse, List.length_map, visL_length, List.length_drop]
      exact small (by omega)
    have hb := vb (l := L.drop (n + 1)) (ms := []) fun i m c e => ok_count hok (by rw [List.getElem?_drop] at e; exact e)
    have nx := fun ps a b h1 h2 => loop_visits L hok hlen Dn X z n ps a b (by omega) h1 h2 q
    have ev : ((visL (L.drop n)).map PyData.int).reverse = ((visL (L.drop (n + 1))).map PyData.int).reverse ++ [.int (vis (L.drop n)).1] := by
      rw [edr]
      show (((vis (L[n] :: L.drop (n + 1))).1 :: visL (L.drop (n + 1))).map PyData.int).reverse = _
      simp
    rw [ev] at nx
    have hlb : (L.drop (n + 1)).length ≤ 1000 := by rw [List.length_drop]; omega
    have hzp : ps.length < sizeLine := small (by omega)
    rw [et, ev_loop_cons]
    rw [edr] at nx
    generalize L.drop (n + 1) = r at *
    generalize ((visL r).map PyData.int).reverse = B at *
    cases eit : L[n] with
    | bar nm =>
      rw [eit] at nx
      simp [It.d, sh_bar, sh_rep, sh_mark, eqv_str, br, bm, ix_lastE hlast]
      exact ⟨hz, nx _ _ _ (by omega) hd⟩
    | mark nm =>
      rw [eit] at nx
      simp [It.d, sh_mark, sh_rep, eqv_str, mr, mm, ix_lastE hlast, hd nm]
      exact ⟨hz, nx _ _ _ (by omega) hd⟩
    | rep nm c =>
      rw [eit] at nx
      have hc := ok_count hok (by rw [hit, eit])
      have hm1 : CMulW c (vis r).1 := mul_ok (b := 32 * r.length + 1) (by omega) (by have := hb.1; have := Nat.two_pow_pos (32 * r.length); rw [Nat.pow_succ]; omega) (by omega) (by omega)
      have hm2 : CMulW (vis r).1 (c + 1) := wide_mul (a := 32 * r.length + 1) (b := 33) (by have := hb.1; have := Nat.two_pow_pos (32 * r.length); rw [Nat.pow_succ]; omega) (by omega) (by omega) (by omega) (by omega)
      simp [It.d, sh_rep, eqv_str, rr, ix_lastE hlast, hd nm, hm1, hm2]
      refine ⟨hzp, hz, nx _ _ _ (Nat.le_trans (dput_len _ _ _) (by omega)) fun m => ?_⟩
      rw [dget_putS]
      show _ = PyData.int (if m = nm then (vis r).2 m + c * (vis r).1 else (vis r).2 m)
      by_cases e : nm = m
      · subst e; simp
      · rw [if_neg e, if_neg (fun z => e z.symm)]
        exact hd m
theorem fv_count_visits : FnV fs_count_visits 5 w_count_visits := by
  rintro io ds Q X ⟨rfl, l, rfl, h, hl, q⟩
  show w_count_visits [.sh (.list (sc l)), .no, .no, .no, .no] _ _
  simp [w_count_visits]
  have e1 : [PyData.int 1] = ((visL (l.drop l.length)).map PyData.int).reverse := by simp [visL]
  have e2 : (sc l).reverse = (sc (l.take l.length)).reverse := by simp
  rw [e1, e2]
  exact loop_visits l h hl _ _ (.list (sc l)) l.length [] .no .no (Nat.le_refl _) (by simp) (fun m => by simp [dget, vis]) fun ps a b => by simp; exact q

/-! ### length_of, total_length -/
def total (l : List It) : Int := (st p0 l).2
def fs_length_of : FS := fun io ds Q _ => io = none ∧ ∃ l : List It, ds = [.list (sc l)] ∧ ok [] l ∧ l.length ≤ 1000 ∧ Q (.sh (.int (total l))) none
def w_length_of : WS := wRet (wOp oIx (wCall fs_arrival_times [] (wCons (wVar 0) (wNil))) (wUn (fun a k => isI a fun i => k (.sh (.int (-i)))) (wC (.int 1))))
theorem run_last (l : List It) : ((run p0 l).map PyData.int).getLast? = some (.int (total l)) := by
  have := take_run (L := l) (p := p0) (n := l.length) (Nat.le_refl _)
  rw [List.take_of_length_le (by rw [run_length]; omega), List.take_length] at this
  rw [List.getLast?_map, this]; rfl
theorem fv_length_of : FnV fs_length_of 1 w_length_of := by
  rintro io ds Q X ⟨rfl, l, rfl, h, hl, q⟩
  show w_length_of [.sh (.list (sc l))] _ _
  simp [w_length_of]
  refine ⟨rfl, l, rfl, h, hl, ?_⟩
  simp [ix_lastE (run_last l)]
  exact q
def fs_total_length : FS := fun io ds Q _ => io = none ∧ ∃ l : List It, ds = [.list (sc l)] ∧ ok [] l ∧ l.length ≤ 1000 ∧ Q (.sh (.int (total l))) none
def w_total_length : WS := wSeq (wDrop (wCall fs_require_score [] (wCons (wVar 0) (wNil)))) (wRet (wCall fs_length_of [] (wCons (wVar 0) (wNil))))
theorem fv_total_length : FnV fs_total_length 1 w_total_length := by
  rintro io ds Q X ⟨rfl, l, rfl, h, hl, q⟩
  show w_total_length [.sh (.list (sc l))] _ _
  simp [w_total_length]
  refine ⟨rfl, l, rfl, h, hl, ?_⟩
  simp
  refine ⟨rfl, l, rfl, h, hl, ?_⟩
  simp
  exact q
/-! ### is_repeat, require_repeat -/
def fs_is_repeat : FS := fun io ds Q _ => io = none ∧ ∃ (l : List It) (i : Nat) (n : Str) (c : Int), ds = [.list (sc l), .int (i : Int)] ∧ l[i]? = some (.rep n c) ∧ Q (.sh (.bool true)) none
def w_is_repeat : WS := wRet (wAndV (wCall fs_is_integer [] (wCons (wVar 1) (wCons (wC (.int 0)) (wCons (wOp (oII (fun _ _ => True) (· - ·)) (wCB (o1 oLen) (wCons (wVar 0) (wNil))) (wC (.int 1))) (wNil))))) (wOp oEq (wOp oIx (wOp oIx (wVar 0) (wVar 1)) (wC (.int 0))) (wC (.str "repeat"))))
theorem sc_get {l : List It} {i : Nat} {it : It} (h : l[i]? = some it) : (sc l)[i]? = some it.d := by rw [sc, List.getElem?_map, h]; rfl
theorem sc_length (l : List It) : (sc l).length = l.length := by simp [sc]
theorem fv_is_repeat : FnV fs_is_repeat 2 w_is_repeat := by
  rintro io ds Q X ⟨rfl, l, i, n, c, rfl, h, q⟩
  have hi : i < l.length := (List.getElem?_eq_some_iff.mp h).1
  show w_is_repeat [.sh (.list (sc l)), .sh (.int (i : Int))] _ _
  simp [w_is_repeat]
  refine ⟨rfl, .int (i : Int), 0, .int (((sc l).length : Int) - 1), by simp, .inr ⟨_, rfl⟩, ?_⟩
  have : isIntD (.int (i : Int)) 0 (.int (((sc l).length : Int) - 1)) = true := by simp [isIntD, sc_length]; omega
  rw [this]
  simp [ix_lnE (sc_get h), It.d, sh_rep, eqv_str, rr]
  exact q
def fs_require_repeat : FS := fun io ds Q _ => io = none ∧ ∃ (l : List It) (i : Nat) (n : Str) (c : Int), ds = [.list (sc l), .int (i : Int)] ∧ l[i]? = some (.rep n c) ∧ Q (.sh .none) none
def w_require_repeat : WS := wIfS (wNot (wT (wCall fs_is_repeat [] (wCons (wVar 0) (wCons (wVar 1) (wNil)))))) (wNev) (wNext)
theorem fv_require_repeat : FnV fs_require_repeat 2 w_require_repeat := by
  rintro io ds Q X ⟨rfl, l, i, n, c, rfl, h, q⟩
  show w_require_repeat [.sh (.list (sc l)), .sh (.int (i : Int))] _ _
  simp [w_require_repeat]
  refine ⟨rfl, l, i, n, c, rfl, h, ?_⟩
  simp
  exact q
end SC

set_option Elab.async false
set_option linter.all false
set_option maxRecDepth 100000
/-! VSc6: the streams of draws, names drawn. -/
namespace SC
open PySem L2 VL

/-- a stream of which n draws were made -/
def StrOk (n : Nat) (d : D) : Prop := ∃ a b c : Int, d = .list [.int a, .int b, .int c] ∧ 0 ≤ a ∧ 0 ≤ b ∧ b < 2 ^ 200 ∧ 0 ≤ c ∧ c ≤ (n : Int)
theorem StrOk.mono {n m : Nat} {d : D} (h : StrOk n d) (l : n ≤ m) : StrOk m d := by
  obtain ⟨a, b, c, e, h1, h2, h3, h4, h5⟩ := h
  exact ⟨a, b, c, e, h1, h2, h3, h4, by omega⟩
theorem bits_le (x : Int) : Builtin.Int.intBits x ≤ x.natAbs.log2 + 1 := by
  unfold Builtin.Int.intBits
  split <;> omega
theorem pow_ok {x : Int} {b : Nat} (h0 : 0 < b) (hb : b ≤ 1000000) (h : x.natAbs < 2 ^ b) : CPowW x 3 := by
  refine ⟨by decide, ?_⟩
  have h1 := bits_le x
  have h2 := PySem.Flt.log2_lt_of h0 h
  have : (2 : Int) ^ 27 = 134217728 := by decide
  rw [this]
  omega
theorem pow10 (n : Int) (h : 0 ≤ n) (h2 : n ≤ 1000) : CPowW 10 n := by
  refine ⟨h, ?_⟩
  have h1 := bits_le 10
  have e : (10 : Int).natAbs.log2 = 3 := by decide
  rw [e] at h1
  have : (2 : Int) ^ 27 = 134217728 := by decide
  rw [this]
  have : (Builtin.Int.intBits 10 : Int) * n ≤ 4 * n := Int.mul_le_mul_of_nonneg_right (by omega) h
  omega
def fs_law_draw : FS := fun io ds Q _ => ∃ (n : Nat) (d : D) (m : Int), io = some (.io d) ∧ StrOk n d ∧ n ≤ 1000000 ∧ ds = [.int m] ∧ 0 < m ∧ m.natAbs < 2 ^ 9000 ∧ ∀ r d', 0 ≤ r → r < m → StrOk (n + 1) d' → Q (.sh (.int r)) (some (.io d'))
def w_law_draw : WS := wSeq (wIfS (wT (wOp (oIB fun i j => decide (j < i)) (wOp oIx (wVar 0) (wC (.int 0))) (wC (.int 0)))) (wSeq (wSet 2 (wOp (oII (fun _ j => 0 < j) (· % ·)) (wOp oIx (wVar 0) (wC (.int 0))) (wVar 1))) (wSeq (wLPut 0 (wC (.int 0)) (wOp (oII CDivW (· / ·)) (wOp oIx (wVar 0) (wC (.int 0))) (wVar 1))) (wRet (wVar 2)))) (wNext)) (wSeq (wLPut 0 (wC (.int 2)) (wOp oAdd (wOp oIx (wVar 0) (wC (.int 2))) (wC (.int 1)))) (wSeq (wSet 3 (wOp (oII (fun _ j => 0 < j) (· % ·)) (wOp (oII CPowW fun i j => i ^ j.toNat) (wOp oAdd (wOp oIx (wVar 0) (wC (.int 1))) (wOp oMul (wC (.int 39916801)) (wOp oIx (wVar 0) (wC (.int 2))))) (wC (.int 3))) (wOp oAdd (wOp (oII CPowW fun i j => i ^ j.toNat) (wC (.int 10)) (wC (.int 37))) (wC (.int 43))))) (wSeq (wSet 3 (wOp (oII (fun _ j => 0 < j) (· % ·)) (wOp (oII CPowW fun i j => i ^ j.toNat) (wOp oAdd (wOp oMul (wVar 3) (wOp oAdd (wOp oIx (wVar 0) (wC (.int 2))) (wC (.int 2)))) (wC (.int 6700417))) (wC (.int 3))) (wOp oAdd (wOp (oII CPowW fun i j => i ^ j.toNat) (wC (.int 10)) (wC (.int 39))) (wC (.int 3))))) (wRet (wOp (oII (fun _ j => 0 < j) (· % ·)) (wOp (oII CDivW (· / ·)) (wVar 3) (wC (.int 1000033))) (wVar 1))))))
theorem ix3_0 : ixN 3 0 = some 0 := by decide
theorem ix3_2 : ixN 3 2 = some 2 := by decide
theorem div_ok {i j : Int} (h : 0 < j) (h2 : j < 2 ^ 64) : CDivW i j := wide_div (b := 64) h (by omega) (by decide) (by decide)
theorem fv_law_draw : FnV fs_law_draw 4 w_law_draw := by
  rintro io ds Q X ⟨n, d, m, rfl, ⟨a, b, c, rfl, ha, hb, hb2, hc, hcn⟩, hn, rfl, hm, hm2, q⟩
  show w_law_draw [.io (.list [.int a, .int b, .int c]), .sh (.int m), .no, .no] _ _
  by_cases h : 0 < a
  · have hd : CDivW a m := wide_div (b := 9000) hm hm2 (by decide) (by decide)
    simp [w_law_draw, h, hm, hd, ix3_0]
    exact q _ _ (Int.emod_nonneg a (by omega)) (Int.emod_lt_of_pos a hm) ⟨a / m, b, c, rfl, Int.ediv_nonneg ha (by omega), hb, hb2, hc, by omega⟩
  · have m1 : CMulW 39916801 (c + 1) := mul_ok (b := 64) (by decide) (by omega) (by decide) (by decide)
    have p1 : CPowW (b + 39916801 * (c + 1)) 3 := pow_ok (b := 300) (by decide) (by decide) (by omega)
    have t1 : CPowW 10 37 := pow10 37 (by decide) (by decide)
    have t2 : CPowW 10 39 := pow10 39 (by decide) (by decide)
    have e1 : (0 : Int) < 10 ^ 37 + 43 := by decide
    have e2 : (0 : Int) < 10 ^ 39 + 3 := by decide
    have d1 : ∀ i : Int, CDivW i 1000033 := fun i => div_ok (by decide) (by decide)
    have g1 := Int.emod_nonneg ((b + 39916801 * (c + 1)) ^ 3) (b := 10000000000000000000000000000000000043) (by decide)
    have g2 := Int.emod_lt_of_pos ((b + 39916801 * (c + 1)) ^ 3) (b := 10000000000000000000000000000000000043) (by decide)
    simp [w_law_draw, h, hm, ix3_0, ix3_2, m1, p1, t1, t2, e1, e2, d1]
    generalize (b + 39916801 * (c + 1)) ^ 3 % 10000000000000000000000000000000000043 = x at *
    have hx : x.natAbs < 2 ^ 130 := by omega
    have hc3 : (c + 1 + 2).natAbs < 2 ^ 64 := by omega
    have hp := wide_lt hx hc3
    refine ⟨wide_mul hx hc3 (by decide) (by decide) (by decide), pow_ok (b := 300) (by decide) (by decide) (by omega), ?_⟩
    exact q _ _ (Int.emod_nonneg _ (by omega)) (Int.emod_lt_of_pos _ hm) ⟨a, b, c + 1, rfl, ha, hb, hb2, by omega, by omega⟩

/-! ### names -/
theorem two {r : Int} (h0 : 0 ≤ r) (h : r < 2) : r = 0 ∨ r = 1 := by omega
theorem four {r : Int} (h0 : 0 ≤ r) (h : r < 4) : r = 0 ∨ r = 1 ∨ r = 2 ∨ r = 3 := by omega
theorem ix_l3 (a b c d : D) (l : List D) (k : R → Prop) : oIx (.list (a :: b :: c :: d :: l)) (.int 3) k = k (.sh d) := by
  rw [ev_ixl]
  have : atI (a :: b :: c :: d :: l) 3 = some d := by
    unfold atI
    simp only [ixN, List.length_cons]
    rw [if_pos (by decide), if_pos (by omega)]
    rfl
  rw [this]
/-- a sign of a text -/
theorem ix_str {z : Str} {i : Int} {k : R → Prop} (h0 : 0 ≤ i) (h : i < (z.length : Int)) (hz : z.length ≤ 1000000) (q : ∀ c, c ∈ z.cps.toList → k (.sh (.str ⟨#[c]⟩))) : oIx (.str z) (.int i) k := by
  have hl : z.cps.toList.length = z.length := by simp [Str.length]
  refine ⟨smallE hz, ?_⟩
  have : atI z.cps.toList i = z.cps.toList[i.toNat]? := by
    unfold atI ixN
    rw [if_pos h0, if_pos (by omega)]
    rfl
  rw [this]
  have hi : i.toNat < z.cps.toList.length := by omega
  rw [List.getElem?_eq_getElem hi]
  exact q _ (List.getElem_mem hi)
theorem letters_len : letters.length = 26 := by decide +kernel
theorem name1 {c : Nat} (h : c ∈ letters.cps.toList) : nameB ⟨#[c]⟩ = true := by
  have : letter c = true := decide_eq_true h
  simp [nameB, Str.length, this]
theorem name2 {c : Nat} (h : c ∈ letters.cps.toList) : nameB ((⟨#[c]⟩ : Str) ++ (⟨#[c]⟩ : Str)) = true := by
  have : letter c = true := decide_eq_true h
  show nameB ⟨#[c] ++ #[c]⟩ = true
  simp [nameB, Str.length, this]
theorem name8 {c : Nat} (h : c ∈ letters.cps.toList) : nameB (("quartzy" : Str) ++ (⟨#[c]⟩ : Str)) = true := by
  have h1 : letter c = true := decide_eq_true h
  have e : (("quartzy" : Str) ++ (⟨#[c]⟩ : Str)) = ⟨("quartzy" : Str).cps ++ #[c]⟩ := rfl
  have l1 : ("quartzy" : Str).cps.size = 7 := by decide +kernel
  have l2 : ("quartzy" : Str).cps.toList.all letter = true := by decide +kernel
  rw [e]
  unfold nameB
  rw [Bool.and_eq_true, Bool.and_eq_true]
  refine ⟨⟨?_, ?_⟩, ?_⟩
  · simp [Str.length, l1]
  · simp [Str.length, l1]
  · rw [Array.toList_append, List.all_append, l2]
    simp [h1]
def fs_law_name : FS := fun io ds Q _ => ∃ (n : Nat) (d : D) (m : Int), io = some (.io d) ∧ StrOk n d ∧ n ≤ 999990 ∧ ds = [.int m] ∧ 1 ≤ m ∧ m ≤ 26 ∧ ∀ s d', nameB s = true ∧ s.length ≠ 4 → StrOk (n + 3) d' → Q (.sh (.str s)) (some (.io d'))
def w_law_name : WS := wSeq (wSet 2 (wC (.str "abcdefghijklmnopqrstuvwxyz"))) (wSeq (wSet 3 (wOp oIx (wVar 2) (wCallIo fs_law_draw 0 [] (wCons (wOp oIx (wLst (wCons (wVar 1) (wCons (wC (.int 26)) (wNil)))) (wCallIo fs_law_draw 0 [] (wCons (wC (.int 2)) (wNil)))) (wNil))))) (wRet (wOp oIx (wLst (wCons (wVar 3) (wCons (wVar 3) (wCons (wOp oAdd (wVar 3) (wVar 3)) (wCons (wOp oAdd (wC (.str "quartzy")) (wVar 3)) (wNil)))))) (wCallIo fs_law_draw 0 [] (wCons (wC (.int 4)) (wNil))))))
theorem drw {n : Nat} {d : D} {m : Int} {Q : R → Option Sl → Prop} {X : Exn → Option Sl → Prop} (hs : StrOk n d) (hn : n ≤ 1000000) (h0 : 0 < m) (h1 : m < 2 ^ 64) (q : ∀ r d', 0 ≤ r → r < m → StrOk (n + 1) d' → Q (.sh (.int r)) (some (.io d'))) :
    fs_law_draw (some (.io d)) [.int m] Q X := ⟨n, d, m, rfl, hs, hn, rfl, h0, Nat.lt_of_lt_of_le (by omega : m.natAbs < 2 ^ 64) (Nat.pow_le_pow_right (by decide) (by decide)), q⟩
theorem drwW {n : Nat} {d : D} {m : Int} {Q : R → Option Sl → Prop} {X : Exn → Option Sl → Prop} (hs : StrOk n d) (hn : n ≤ 1000000) (h0 : 0 < m) (h1 : m.natAbs < 2 ^ 9000) (q : ∀ r d', 0 ≤ r → r < m → StrOk (n + 1) d' → Q (.sh (.int r)) (some (.io d'))) :
    fs_law_draw (some (.io d)) [.int m] Q X := ⟨n, d, m, rfl, hs, hn, rfl, h0, h1, q⟩
theorem len1 (c : Nat) : (⟨#[c]⟩ : Str).length = 1 := rfl
theorem lenq : ("quartzy" : Str).length = 7 := by decide +kernel
theorem fv_law_name : FnV fs_law_name 4 w_law_name := by
  rintro io ds Q X ⟨n, d, m, rfl, hs, hn, rfl, hm, hm2, q⟩
  show w_law_name [.io d, .sh (.int m), .no, .no] _ _
  simp [w_law_name]
  refine drw hs (by omega) (by decide) (by decide) fun r d1 r0 r1 s1 => ?_
  simp
  refine pick r0 (by simpa using r1) fun x hx => ?_
  obtain ⟨j, rfl, j1, j2⟩ : ∃ j : Int, x = .int j ∧ 1 ≤ j ∧ j ≤ 26 := by
    simp at hx
    rcases hx with rfl | rfl
    · exact ⟨m, rfl, hm, hm2⟩
    · exact ⟨26, rfl, by decide, by decide⟩
  simp
  refine drw s1 (by omega) (by omega) (by omega) fun r d2 r0 r1 s2 => ?_
  simp
  have e26 : (Str.ofString "abcdefghijklmnopqrstuvwxyz").length = 26 := letters_len
  refine ix_str r0 (by omega) (by omega) fun c hc => ?_
  simp [len1, lenq]
  refine ⟨smallE (by decide), smallE (by decide), drw s2 (by omega) (by decide) (by decide) fun r d3 r0 r1 s3 => ?_⟩
  simp
  refine pick r0 (by simpa using r1) fun x hx => ?_
  obtain ⟨s, rfl, js⟩ : ∃ s : Str, x = .str s ∧ nameB s = true ∧ s.length ≠ 4 := by
    simp at hx
    rcases hx with rfl | rfl | rfl
    · exact ⟨_, rfl, name1 hc, by rw [len1]; decide⟩
    · exact ⟨_, rfl, name2 hc, by show (#[c] ++ #[c]).size ≠ 4; simp⟩
    · refine ⟨_, rfl, name8 hc, ?_⟩
      show (("quartzy" : Str).cps ++ #[c]).size ≠ 4
      have := lenq
      rw [show ("quartzy" : Str).length = ("quartzy" : Str).cps.size from rfl] at this
      rw [Array.size_append, this]
      simp
  simp
  exact q s d3 js s3
end SC

set_option Elab.async false
set_option linter.all false
set_option maxRecDepth 100000
/-! VSc7: the scores drawn. -/
namespace SC
open PySem L2 VL

/-- the marks behind a part -/
def mk : List Str → List It → List Str
  | ms, [] => ms
  | ms, .bar _ :: r => mk ms r
  | ms, .mark n :: r => mk (n :: ms) r
  | ms, .rep _ _ :: r => mk ms r
theorem mk_app : ∀ (a b : List It) (ms : List Str), mk ms (a ++ b) = mk (mk ms a) b
  | [], b, ms => rfl
  | it :: a, b, ms => by cases it <;> exact mk_app a b _
theorem ok_app : ∀ (a b : List It) (ms : List Str), ok ms (a ++ b) ↔ ok ms a ∧ ok (mk ms a) b
  | [], b, ms => by simp [ok, mk]
  | it :: a, b, ms => by
    cases it <;> simp [ok, mk, ok_app a b, and_assoc]
theorem name_strOk {s : Str} (h : nameB s = true) : PyData.strOk s = true := by
  unfold nameB at h
  rw [Bool.and_eq_true] at h
  have h := h.2
  unfold PyData.strOk
  rw [← Array.all_toList]
  refine List.all_eq_true.mpr fun c hc => ?_
  have hl : letter c = true := List.all_eq_true.mp h c hc
  have hm : c ∈ letters.cps.toList := of_decide_eq_true hl
  have ha : (letters.cps.toList.all fun c => decide (c < 0x110000)) = true := by decide +kernel
  exact List.all_eq_true.mp ha c hm
theorem name_ne {s : Str} (h : nameB s = true) : s ≠ "" := by
  rintro rfl
  exact absurd h (by decide +kernel)
theorem canAll_strs : ∀ ys : List Str, (∀ n ∈ ys, PyData.strOk n = true) → PyData.canLayAll0 (ys.map .str) = true
  | [], _ => by simp [PyData.canLayAll0]
  | y :: ys, h => by
    have ih := canAll_strs ys fun n hn => h n (List.mem_cons_of_mem _ hn)
    simp [PyData.canLayAll0, PyData.canLay0, h y List.mem_cons_self, ih]
theorem dep_strs : ∀ ys : List Str, PyData.depthAll (ys.map .str) = 0
  | [] => by simp [PyData.depthAll]
  | y :: ys => by simp [PyData.depthAll, PyData.depth, dep_strs ys]
theorem shaped_strs {ys : List Str} (h : ∀ n ∈ ys, PyData.strOk n = true) : SeqAt.shaped (.list (ys.map .str)) = true := by
  simp [SeqAt.shaped, PyData.canLay0, PyData.depth, canAll_strs ys h, dep_strs ys]
theorem eqv_nil (ys : List Str) : PyData.eqv (.list (ys.map .str)) (.list []) = ys.isEmpty := by
  cases ys <;> simp only [PyData.eqv, List.map, PyData.eqvAll] <;> rfl
structure ScI (i : Nat) (l : List It) (ps : List (D × D)) (len : Int) : Prop where
  ok : ok [] l
  ll : l.length ≤ i
  mks : Marks ps (mk [] l)
  ks : ∃ ks : List Str, ps.map (·.1) = ks.map .str ∧ ks.length ≤ i ∧ ∀ n ∈ ks, n ∈ mk [] l ∧ nameB n = true
  vals : ∀ x v, dget ps (.str x) = some v → ∃ j : Int, v = .int j ∧ 0 ≤ j ∧ j ≤ len
  l0 : 0 ≤ len
  l1 : len < ((2 ^ (32 * i) : Nat) : Int)
def c_law_score : WS := wIfS (wAnd (wT (wOp oEq (wVar 9) (wC (.int 3)))) (wT (wOp (oIn true) (wVar 10) (wVar 4)))) (wSeq (wDrop (wMut 3 fAppend (wCons (wTup (wCons (wC (.str "mark")) (wCons (wVar 10) (wNil)))) wNil))) (wDPut 4 (wVar 10) (wVar 5))) (wIfS (wAnd (wT (wOp (oIB fun i j => decide (j < i)) (wVar 9) (wC (.int 3)))) (wAnd (wT (wOp oNe (wVar 13) (wC (.str "")))) (wAnd (wT (wOp (oIB fun i j => decide (j < i)) (wVar 11) (wC (.int 0)))) (wOr (wT (wOp (oIB fun i j => decide (j < i)) (wVar 14) (wC (.int 0)))) (wOr (wT (wOp oEq (wVar 2) (wC (.int 0)))) (wT (wOp (oIB fun i j => decide (i < j)) (wVar 6) (wC (.int 4))))))))) (wSeq (wDrop (wMut 3 fAppend (wCons (wTup (wCons (wC (.str "repeat")) (wCons (wVar 13) (wCons (wIf (wOr (wT (wOp (oIB fun i j => decide (j < i)) (wVar 14) (wC (.int 0)))) (wT (wOp oEq (wVar 2) (wC (.int 0))))) (wVar 11) (wC (.int 1))) (wNil))))) wNil))) (wSet 5 (wOp oAdd (wVar 5) (wOp oMul (wVar 11) (wVar 14))))) (wIfS (wOr (wT (wOp oEq (wVar 2) (wC (.int 0)))) (wT (wOp (oIB fun i j => decide (i < j)) (wVar 5) (wVar 2)))) (wSeq (wDrop (wMut 3 fAppend (wCons (wTup (wCons (wC (.str "bar")) (wCons (wVar 10) (wNil)))) wNil))) (wSet 5 (wOp oAdd (wVar 5) (wC (.int 1))))) (wNext)))
def d_law_score : WS := wSeq (wSet 14 (wOp (oII (fun _ _ => True) (· - ·)) (wVar 5) (wDGet2 (wVar 4) (wVar 13) (wC (.int 0))))) (wSeq (wIfS (wAnd (wT (wOp (oIB fun i j => decide (j < i)) (wVar 2) (wC (.int 0)))) (wT (wOp (oIB fun i j => decide (j < i)) (wVar 14) (wC (.int 0))))) (wSet 11 (wCB (o2 oMin) (wCons (wVar 11) (wCons (wOp (oII CDivW (· / ·)) (wOp (oII (fun _ _ => True) (· - ·)) (wVar 2) (wVar 5)) (wVar 14)) (wNil))))) (wNext)) (wSeq (wSet 6 (wOp oAdd (wVar 6) (wCB (o1 oInt) (wCons (wAndV (wOp (oIB fun i j => decide (j < i)) (wVar 9) (wC (.int 3))) (wAndV (wOp oNe (wVar 13) (wC (.str ""))) (wOp oEq (wVar 14) (wC (.int 0))))) (wNil))))) c_law_score))
def b_law_score : WS := wSeq (wSet 9 (wCallIo fs_law_draw 0 [] (wCons (wC (.int 6)) (wNil)))) (wSeq (wSet 10 (wCallIo fs_law_name 0 [] (wCons (wVar 7) (wNil)))) (wSeq (wSet 11 (wOp oIx (wLst (wCons (wC (.int 1)) (wCons (wC (.int 2)) (wCons (wOp oAdd (wC (.int 1)) (wCallIo fs_law_draw 0 [] (wCons (wC (.int 5)) (wNil)))) (wCons (wOp oAdd (wC (.int 1)) (wCallIo fs_law_draw 0 [] (wCons (wOp (oII (fun _ _ => True) (· - ·)) (wOp (oII CPowW fun i j => i ^ j.toNat) (wC (.int 10)) (wC (.int 9))) (wC (.int 1))) (wNil)))) (wNil)))))) (wCallIo fs_law_draw 0 [] (wCons (wC (.int 4)) (wNil))))) (wSeq (wSet 12 (wCB (o1 oSortDL) (wCons (wVar 4) (wNil)))) (wSeq (wSet 13 (wIf (wT (wOp oNe (wVar 12) (wLst (wNil)))) (wOp oIx (wVar 12) (wCallIo fs_law_draw 0 [] (wCons (wCB (o1 oLen) (wCons (wVar 12) (wNil))) (wNil)))) (wC (.str "")))) d_law_score))))
def w_law_score : WS := wSeq (wPar [3, 4, 5, 6] (wsCons (wLst (wNil)) (wsCons (wDict0) (wsCons (wC (.int 0)) (wsCons (wC (.int 0)) (wsNil)))))) (wSeq (wSet 7 (wOp oAdd (wC (.int 1)) (wCallIo fs_law_draw 0 [] (wCons (wC (.int 9)) (wNil))))) (wSeq (wFor (wiR1 (wCons (wCallIo fs_law_draw 0 [] (wCons (wOp oAdd (wVar 1) (wC (.int 1))) (wNil))) (wNil))) (wgName 8) b_law_score) (wRet (wVar 3))))
/-- what a turn needs of the rest -/
theorem sh_nil : SeqAt.shaped (.list []) = true := by decide +kernel
theorem sh_e : SeqAt.shaped (.str "") = true := shaped_str (by decide +kernel)
theorem tail_score (most few : Int) (i : Nat) (hi : i ≤ 300) (d : D) (l : List It) (ps : List (D × D)) (len emp way jumps : Int) (nm own : Str) (a8 a12 a14 : Sl) (Dn : WD) (X : XW) (si : ScI i l ps len) (hnm : nameB nm = true) (hown : own = "" ∨ (nameB own = true ∧ own ∈ mk [] l)) (j1 : 1 ≤ jumps) (j2 : jumps < 2 ^ 31)
    (q : ∀ (l : List It) (ps : List (D × D)) (len emp : Int) (a8 a9 a10 a11 a12 a13 a14 : Sl), ScI (i + 1) l ps len → Dn.nx [.io d, .sh (.int most), .sh (.int 0), .ow (.list (sc l)), .ow (.dict ps), .sh (.int len), .sh (.int emp), .sh (.int few), a8, a9, a10, a11, a12, a13, a14]) :
    d_law_score [.io d, .sh (.int most), .sh (.int 0), .ow (.list (sc l)), .ow (.dict ps), .sh (.int len), .sh (.int emp), .sh (.int few), a8, .sh (.int way), .sh (.str nm), .sh (.int jumps), a12, .sh (.str own), a14] Dn X := by
  obtain ⟨j, ej, g0, g1⟩ : ∃ j : Int, (dget ps (.str own)).getD (.int 0) = .int j ∧ 0 ≤ j ∧ j ≤ len := by
    cases e : dget ps (.str own) with
    | none => exact ⟨0, rfl, by decide, si.l0⟩
    | some v => obtain ⟨j, rfl, h⟩ := si.vals own v e; exact ⟨j, rfl, h⟩
  have so : SeqAt.shaped (.str own) = true := by
    rcases hown with rfl | ⟨h, _⟩
    · exact sh_e
    · exact shaped_str (name_strOk h)
  have emp' : ∀ (e : Int) (Q : R → Prop), True := fun _ _ => trivial
  have hz : (sc l).length < sizeLine := by rw [sc_length]; exact small (by have := si.ll; omega)
  have hpl : ps.length < sizeLine := by
    obtain ⟨ks, k1, k2, _⟩ := si.ks
    have := congrArg List.length k1
    simp at this
    exact small (by omega)
  -- the three ends
  have rest : ∀ emp : Int, c_law_score [.io d, .sh (.int most), .sh (.int 0), .ow (.list (sc l)), .ow (.dict ps), .sh (.int len), .sh (.int emp), .sh (.int few), a8, .sh (.int way), .sh (.str nm), .sh (.int jumps), a12, .sh (.str own), .sh (.int (len - j))] Dn X := by
    intro emp
    have e32 : ((2 ^ (32 * (i + 1)) : Nat) : Int) = 4294967296 * ((2 ^ (32 * i) : Nat) : Int) := by
      have : 2 ^ (32 * (i + 1)) = 2 ^ (32 * i) * 4294967296 := by
        rw [show 32 * (i + 1) = 32 * i + 32 by omega, Nat.pow_add]
      rw [this, Int.natCast_mul]; omega
    have b0 := si.l0
    have b1 := si.l1
    have kks : ∃ ks : List Str, ps.map (·.1) = ks.map .str ∧ ks.length ≤ i + 1 ∧ ∀ n ∈ ks, n ∈ mk [] l ∧ nameB n = true := by
      obtain ⟨ks, k1, k2, k3⟩ := si.ks
      exact ⟨ks, k1, by omega, k3⟩
    have hll : ∀ it : It, (l ++ [it]).length ≤ i + 1 := fun it => by rw [List.length_append]; have := si.ll; simp; omega
    have vals' : ∀ len', len ≤ len' → ∀ x v, dget ps (.str x) = some v → ∃ j : Int, v = .int j ∧ 0 ≤ j ∧ j ≤ len' := fun len' hl x v e => by
      obtain ⟨j, e1, e2, e3⟩ := si.vals x v e
      exact ⟨j, e1, e2, by omega⟩
    have eBar : ScI (i + 1) (l ++ [.bar nm]) ps (len + 1) := ⟨(ok_app _ _ _).mpr ⟨si.ok, hnm, trivial⟩, hll _, by rw [mk_app]; exact si.mks, by rw [mk_app]; exact kks, vals' _ (by omega), by omega, by rw [e32]; omega⟩
    have scs : ∀ it : It, sc (l ++ [it]) = sc l ++ [it.d] := fun it => by simp [sc]
    have qBar := fun b8 b9 b10 b11 b12 b13 b14 => q _ _ _ emp b8 b9 b10 b11 b12 b13 b14 eBar
    rw [scs] at qBar
    have eRep : (nameB own = true ∧ own ∈ mk [] l) → ScI (i + 1) (l ++ [.rep own jumps]) ps (len + jumps * (len - j)) := fun ⟨o1, o2⟩ => by
      have m1 : 0 ≤ jumps * (len - j) := Int.mul_nonneg (by omega) (by omega)
      have m2 : jumps * (len - j) ≤ 2147483648 * len := by
        calc jumps * (len - j) ≤ 2147483648 * (len - j) := Int.mul_le_mul_of_nonneg_right (by omega) (by omega)
          _ ≤ 2147483648 * len := by omega
      exact ⟨(ok_app _ _ _).mpr ⟨si.ok, o1, o2, ⟨j1, j2⟩, trivial⟩, hll _, by rw [mk_app]; exact si.mks, by rw [mk_app]; exact kks, vals' _ (by omega), by omega, by rw [e32]; omega⟩
    have qRep := fun h b8 b9 b10 b11 b12 b13 b14 => q _ _ _ emp b8 b9 b10 b11 b12 b13 b14 (eRep h)
    rw [scs] at qRep
    have eMark : dget ps (.str nm) = none → ScI (i + 1) (l ++ [.mark nm]) (dput ps (.str nm) (.int len)) len := fun hn => by
      have hnot : nm ∉ mk [] l := by
        have := si.mks nm
        rw [hn] at this
        simpa using this
      refine ⟨(ok_app _ _ _).mpr ⟨si.ok, hnm, hnot, trivial⟩, hll _, by rw [mk_app]; exact si.mks.put nm _, ?_, fun x v e => ?_, by omega, by rw [e32]; omega⟩
      · obtain ⟨ks, k1, k2, k3⟩ := si.ks
        refine ⟨ks ++ [nm], ?_, by simp; omega, fun n hn' => ?_⟩
        · unfold dput
          have : (ps.any fun p => keyEq p.1 (.str nm)) = false := by
            cases h : ps.any fun p => keyEq p.1 (.str nm) with
            | false => rfl
            | true =>
              obtain ⟨p, hp, hk⟩ := List.any_eq_true.mp h
              unfold dget at hn
              have h2 : (ps.find? fun p => keyEq p.1 (.str nm)) = none := by simpa using hn
              exact absurd hk (List.find?_eq_none.mp h2 p hp)
          rw [if_neg (by rw [this]; simp)]
          simp [k1]
        · rw [mk_app]
          rcases List.mem_append.mp hn' with z | z
          · exact ⟨List.mem_cons_of_mem _ (k3 n z).1, (k3 n z).2⟩
          · have : n = nm := by simpa using z
            subst this
            exact ⟨List.mem_cons_self, hnm⟩
      · rw [dget_putS] at e
        by_cases hx : nm = x
        · rw [if_pos hx] at e
          exact ⟨len, (Option.some.inj e).symm, by omega, by omega⟩
        · rw [if_neg hx] at e
          exact si.vals x v e
    have qMark := fun h b8 b9 b10 b11 b12 b13 b14 => q _ _ _ emp b8 b9 b10 b11 b12 b13 b14 (eMark h)
    rw [scs] at qMark
    have hmul : CMulW jumps (len - j) := mul_ok (b := 32 * i + 1) (by omega) (by rw [Nat.pow_succ]; omega) (by omega) (by omega)
    by_cases w3 : way = 3
    · subst w3
      cases hin : dget ps (.str nm) with
      | none =>
        simp [c_law_score, eqv_int, shaped_int, hin]
        exact ⟨hz, hpl, qMark hin _ _ _ _ _ _ _⟩
      | some v =>
        simp [c_law_score, eqv_int, shaped_int, hin]
        exact ⟨hz, qBar _ _ _ _ _ _ _⟩
    · by_cases h3 : 3 < way
      · rcases hown with rfl | ho
        · simp [c_law_score, eqv_int, shaped_int, w3, h3, sh_e, eqv_str]
          exact ⟨hz, qBar _ _ _ _ _ _ _⟩
        · have hne := name_ne ho.1
          simp [c_law_score, eqv_int, shaped_int, w3, h3, sh_e, eqv_str, so, hne, show 0 < jumps by omega]
          exact ⟨hz, hmul, qRep ho _ _ _ _ _ _ _⟩
      · simp [c_law_score, eqv_int, shaped_int, w3, h3]
        exact ⟨hz, qBar _ _ _ _ _ _ _⟩
  simp [d_law_score, ej, so, sh_e, eqv_str, eqv_int, shaped_int]
  by_cases h3 : 3 < way
  · simp [h3]
    by_cases ho : own = ""
    · simp [ho] at rest ⊢
      exact rest _
    · simp [ho]
      exact rest _
  · simp [h3]
    exact rest _
theorem loop_score (most few : Int) (hf : 1 ≤ few) (hf2 : few ≤ 26) (n : Nat) (hn : n ≤ 200000) (Dn : WD) (X : XW) (m : Nat) (hm : m ≤ 300) : ∀ (ds : List D) (i : Nat) (d : D) (l : List It) (ps : List (D × D)) (len emp : Int) (a8 a9 a10 a11 a12 a13 a14 : Sl), i + ds.length = m → StrOk (n + 8 * i) d → ScI i l ps len →
    (∀ (d : D) (l : List It) (ps len emp a8 a9 a10 a11 a12 a13 a14), StrOk (n + 8 * m) d → ok [] l → l.length ≤ m → Dn.nx [.io d, .sh (.int most), .sh (.int 0), .ow (.list (sc l)), ps, len, emp, .sh (.int few), a8, a9, a10, a11, a12, a13, a14]) →
    loopW (wgName 8) b_law_score Dn X ds [.io d, .sh (.int most), .sh (.int 0), .ow (.list (sc l)), .ow (.dict ps), .sh (.int len), .sh (.int emp), .sh (.int few), a8, a9, a10, a11, a12, a13, a14]
  | [], i, d, l, ps, len, emp, a8, a9, a10, a11, a12, a13, a14, hi, hs, si, q => by
    have : i = m := by simpa using hi
    subst this
    exact q _ _ _ _ _ _ _ _ _ _ _ _ hs si.ok si.ll
  | x :: ds, i, d, l, ps, len, emp, a8, a9, a10, a11, a12, a13, a14, hi, hs, si, q => by
    rw [List.length_cons] at hi
    have nx := loop_score most few hf hf2 n hn Dn X m hm ds (i + 1)
    rw [ev_loop_cons]
    simp [b_law_score]
    refine drw hs (by omega) (by decide) (by decide) fun way d1 w0 w1 s1 => ?_
    simp
    refine ⟨_, d1, few, rfl, s1, by omega, rfl, hf, hf2, fun nm d2 hnm0 s2 => ?_⟩
    have hnm := hnm0.1
    simp
    refine drw s2 (by omega) (by decide) (by decide) fun r5 d3 r50 r51 s3 => ?_
    have t9 : CPowW 10 9 := pow10 9 (by decide) (by decide)
    simp [t9]
    refine drw s3 (by omega) (by decide) (by decide) fun r9 d4 r90 r91 s4 => ?_
    simp
    refine drw s4 (by omega) (by decide) (by decide) fun r4 d5 r40 r41 s5 => ?_
    simp
    refine pick r40 (by simpa using r41) fun y hy => ?_
    obtain ⟨jumps, rfl, j1, j2⟩ : ∃ j : Int, y = .int j ∧ 1 ≤ j ∧ j < 2 ^ 31 := by
      simp at hy
      rcases hy with rfl | rfl | rfl | rfl
      · exact ⟨_, rfl, by decide, by decide⟩
      · exact ⟨_, rfl, by decide, by decide⟩
      · exact ⟨_, rfl, by omega, by omega⟩
      · exact ⟨_, rfl, by omega, by omega⟩
    simp
    obtain ⟨ks, k1, k2, k3⟩ := si.ks
    refine ⟨ks, k1, smallE (by omega), fun ys yp ysd => ?_⟩
    have hys : ∀ n ∈ ys, nameB n = true := fun n hn => (k3 n (yp.mem_iff.mp hn)).2
    have sh1 := shaped_strs (ys := ys) fun n hn => name_strOk (hys n hn)
    simp [sh1, eqv_nil, sh_nil]
    have fin : ∀ (d6 : D) (own : Str) (a12 : Sl), StrOk (n + 8 * (i + 1)) d6 → (own = "" ∨ (nameB own = true ∧ own ∈ mk [] l)) →
        d_law_score [.io d6, .sh (.int most), .sh (.int 0), .ow (.list (sc l)), .ow (.dict ps), .sh (.int len), .sh (.int emp), .sh (.int few), .sh x, .sh (.int way), .sh (.str nm), .sh (.int jumps), a12, .sh (.str own), a14] ⟨loopW (wgName 8) b_law_score Dn X ds, Dn.rt, Dn.nx, loopW (wgName 8) b_law_score Dn X ds⟩ X :=
      fun d6 own a12 s6 ho => tail_score most few i (by omega) d6 l ps len emp way jumps nm own (.sh x) a12 a14 _ X si hnm ho j1 j2 fun l' ps' len' emp' b8 b9 b10 b11 b12 b13 b14 si' => nx _ _ _ _ _ _ _ _ _ _ _ _ (by omega) s6 si' q
    by_cases hy0 : ys = []
    · simp [hy0]
      exact fin _ _ _ (s5.mono (by omega)) (.inl rfl)
    · simp [hy0]
      have hl0 : 0 < ys.length := List.length_pos_iff.mpr hy0
      have hyl := yp.length_eq
      refine drw s5 (by omega) (by omega) (by omega) fun r d6 r0 r1 s6 => ?_
      simp
      refine pick r0 (by simpa using r1) fun z hz => ?_
      obtain ⟨s, hsm, rfl⟩ := List.mem_map.mp hz
      simp
      exact fin _ _ _ (s6.mono (by omega)) (.inr ⟨hys s hsm, (k3 s (yp.mem_iff.mp hsm)).1⟩)
def fs_law_score : FS := fun io ds Q _ => ∃ (n : Nat) (d : D) (most : Int), io = some (.io d) ∧ StrOk n d ∧ n ≤ 100000 ∧ ds = [.int most, .int 0] ∧ 0 ≤ most ∧ most ≤ 300 ∧ ∀ (l : List It) d', ok [] l → (l.length : Int) ≤ most → StrOk (n + 3000) d' → Q (.ow (.list (sc l))) (some (.io d'))
theorem fv_law_score : FnV fs_law_score 15 w_law_score := by
  rintro io ds Q X ⟨n, d, most, rfl, hs, hn, rfl, h0, h1, q⟩
  show w_law_score [.io d, .sh (.int most), .sh (.int 0), .no, .no, .no, .no, .no, .no, .no, .no, .no, .no, .no, .no] _ _
  simp [w_law_score]
  refine drw hs (by omega) (by decide) (by decide) fun r d1 r0 r1 s1 => ?_
  simp [ev_wFor]
  refine drw s1 (by omega) (by omega) (by omega) fun k d2 k0 k1 s2 => ?_
  simp
  refine ⟨by omega, by omega, ?_⟩
  have e : (rangeD 0 k.toNat).length = k.toNat := by simp [rangeD]
  refine loop_score most (1 + r) (by omega) (by omega) (n + 2) (by omega) _ _ k.toNat (by omega) _ 0 d2 [] [] 0 0 _ _ _ _ _ _ _ (by rw [e]; omega) (s2.mono (by omega)) ⟨trivial, Nat.le_refl _, fun n => by simp [dget, mk], ⟨[], rfl, Nat.le_refl _, fun n h => nomatch h⟩, fun x v h => by simp [dget] at h, by decide, by decide⟩ ?_
  intro d l ps len emp b8 b9 b10 b11 b12 b13 b14 s3 h2 h3
  simp
  exact q l d h2 (by omega) (s3.mono (by omega))

/-! ### the streams -/
def fs_law_stream : FS := fun io ds Q _ => ∃ (ns : List Int) (k : Int), io = some (.op 0 (.list (ns.map .int))) ∧ ds = [.int k] ∧ 0 ≤ k ∧ k ≤ 1000 ∧ ∀ d, StrOk 0 d → Q (.ow d) (some (.op 0 (.list (ns.map .int))))
def w_law_stream : WS := wSeq (wSet 2 (wC (.int 0))) (wSeq (wIfS (wT (wOp (oIB fun i j => decide (i < j)) (wVar 1) (wLenS 0))) (wSet 2 (wIxS 0 (wVar 1))) (wNext)) (wRet (wLst (wCons (wCB (o2 oMax) (wCons (wC (.int 0)) (wCons (wOp (oII (fun _ _ => True) (· - ·)) (wVar 2) (wOp (oII CPowW fun i j => i ^ j.toNat) (wC (.int 10)) (wC (.int 18)))) (wNil)))) (wCons (wOp oAdd (wOp oAdd (wOp oMul (wOp (oII (fun _ j => 0 < j) (· % ·)) (wVar 2) (wOp oAdd (wOp (oII CPowW fun i j => i ^ j.toNat) (wC (.int 10)) (wC (.int 39))) (wC (.int 3)))) (wC (.int 16))) (wVar 1)) (wC (.int 5))) (wCons (wC (.int 0)) (wNil)))))))
theorem fv_law_stream : FnV fs_law_stream 3 w_law_stream := by
  rintro io ds Q X ⟨ns, k, rfl, rfl, k0, k1, q⟩
  show w_law_stream [.op 0 (.list (ns.map .int)), .sh (.int k), .no] _ _
  have t1 : CPowW 10 18 := pow10 18 (by decide) (by decide)
  have t2 : CPowW 10 39 := pow10 39 (by decide) (by decide)
  have fin : ∀ cell : Int, wRet (wLst (wCons (wCB (o2 oMax) (wCons (wC (.int 0)) (wCons (wOp (oII (fun _ _ => True) (· - ·)) (wVar 2) (wOp (oII CPowW fun i j => i ^ j.toNat) (wC (.int 10)) (wC (.int 18)))) (wNil)))) (wCons (wOp oAdd (wOp oAdd (wOp oMul (wOp (oII (fun _ j => 0 < j) (· % ·)) (wVar 2) (wOp oAdd (wOp (oII CPowW fun i j => i ^ j.toNat) (wC (.int 10)) (wC (.int 39))) (wC (.int 3)))) (wC (.int 16))) (wVar 1)) (wC (.int 5))) (wCons (wC (.int 0)) (wNil)))))
      [.op 0 (.list (ns.map .int)), .sh (.int k), .sh (.int cell)] ⟨fun Γ => SameIo (some (.op 0 (.list (ns.map .int)))) (ioOf (some (.op 0 (.list (ns.map .int)))) Γ) ∧ Q (.sh .none) (ioOf (some (.op 0 (.list (ns.map .int)))) Γ), fun r Γ => retW r Γ fun r' Γ' => SameIo (some (.op 0 (.list (ns.map .int)))) (ioOf (some (.op 0 (.list (ns.map .int)))) Γ') ∧ Q r' (ioOf (some (.op 0 (.list (ns.map .int)))) Γ'), fun _ => False, fun _ => False⟩
      (fun x Γ => SameIo (some (.op 0 (.list (ns.map .int)))) (ioOf (some (.op 0 (.list (ns.map .int)))) Γ) ∧ X x (ioOf (some (.op 0 (.list (ns.map .int)))) Γ)) := by
    intro cell
    have g1 := Int.emod_nonneg cell (b := 1000000000000000000000000000000000000003) (by decide)
    have g2 := Int.emod_lt_of_pos cell (b := 1000000000000000000000000000000000000003) (by decide)
    have m : CMulW (cell % 1000000000000000000000000000000000000003) 16 := wide_mul (a := 200) (b := 64) (by omega) (by decide) (by decide) (by decide) (by decide)
    simp [t1, t2, m]
    refine q _ ⟨_, _, _, rfl, ?_, by omega, by omega, by decide, by decide⟩
    split <;> omega
  by_cases h : k < (ns.length : Int)
  · have hk : k.toNat < ns.length := by omega
    have ea : atI (ns.map PyData.int) k = some (.int ns[k.toNat]) := by
      rw [atI_map]
      have : atI ns k = ns[k.toNat]? := by
        unfold atI ixN
        rw [if_pos k0, if_pos h]
        rfl
      rw [this, List.getElem?_eq_getElem hk]
      rfl
    simp only [w_law_stream, ev_wSeq, ev_wSet, ev_wC, ev_setR_sh, List.set_cons_succ, List.set_cons_zero, ev_wIfS, ev_wT, ev_wOp, ev_wVar, getS_0, getS_s, slVar_sh, ev_wLenS, slScr_op, ev_rd_sh, ev_oIB, ev_isB, List.length_map, h, decide_true, if_true, ev_wIxS, ev_isOwn, slIs_op, ev_isI, ea]
    exact ⟨trivial, fin _⟩
  · simp only [w_law_stream, ev_wSeq, ev_wSet, ev_wC, ev_setR_sh, List.set_cons_succ, List.set_cons_zero, ev_wIfS, ev_wT, ev_wOp, ev_wVar, getS_0, getS_s, slVar_sh, ev_wLenS, slScr_op, ev_rd_sh, ev_oIB, ev_isB, List.length_map, h, decide_false, Bool.false_eq_true, if_false, ev_wNext]
    exact fin _
end SC

set_option Elab.async false
set_option linter.all false
set_option maxRecDepth 100000
/-! VRepr: repr, in a law's own def; a law's head. -/
namespace VL
open PySem L2

/-! ### data, read off the heap -/
section
variable {P : Program} {w : World} {K : Fg} {H : Hp} {h : Heap}
theorem tup_obj {a : Addr} {items : Array Value} (p : PyProof.Rows.IsTup h a items) : ∃ o n, h.get? a = some o ∧ o.cls = .type "tuple" ∧ o.data = .seq items n := by
  obtain ⟨o, h1, h2, n, h3⟩ := p
  exact ⟨o, n, h1, h2, h3⟩
mutual
theorem Rep.reads (I : HOk P w H h) : ∀ {v : V} {d : D} {u : Value}, Rep K H v d → d.canLay0 = true → RelV v u → ∃ as, Reads h u d as
  | _, _, u, .non, _, r => by cases (show u = .none from r); exact ⟨_, .none⟩
  | _, _, u, .bl b, _, r => by cases (show u = .bool b from r); exact ⟨_, .bool b⟩
  | _, _, u, .int i, _, r => by obtain ⟨t, rfl⟩ := r; exact ⟨_, .int i t⟩
  | _, _, u, .str x, _, r => by obtain ⟨t, rfl⟩ := r; exact ⟨_, .str x t⟩
  | _, _, u, .lst hl rs, e, r => by
    cases (show u = .ref _ from r)
    obtain ⟨_, its, n, rv, ho⟩ := I _ _ hl
    obtain ⟨as, ra⟩ := Reps.reads I rs (by simpa [PyData.canLay0] using e) rv
    exact ⟨_, .list ho rfl rfl (by simpa using ra)⟩
  | _, _, u, .tup hl rs, e, r => by
    cases (show u = .ref _ from r)
    obtain ⟨_, its, rv, ho⟩ := I _ _ hl
    obtain ⟨as, ra⟩ := Reps.reads I rs (by simpa [PyData.canLay0] using e) rv
    obtain ⟨o, n, h1, h2, h3⟩ := tup_obj ho
    exact ⟨_, .tuple h1 h2 h3 (by simpa using ra)⟩
  | _, _, u, .dct hl rs, e, r => by simp [PyData.canLay0] at e
theorem Reps.reads (I : HOk P w H h) : ∀ {vs : List V} {ds : List D} {us : List Value}, Reps K H vs ds → PyData.canLayAll0 ds = true → Vals vs us → ∃ as, ReadsAll h us ds as
  | _, _, _, .nil, _, .nil => ⟨_, .nil⟩
  | _, _, _, .cons h1 r1, e, .cons h2 r2 => by
    have e' := (show _ ∧ _ by simpa [PyData.canLayAll0] using e)
    obtain ⟨as, ra⟩ := Rep.reads I h1 e'.1 h2
    obtain ⟨bs, rb⟩ := Reps.reads I r1 e'.2 r2
    exact ⟨_, .cons ra rb⟩
end
end
/-! ### repr -/
def rRepr (K : Fg) : List V → Hp → VK → Prop := fun xs H Q => ∃ (a : Addr) (d : D), xs = [.ref a] ∧ Rep K H (.ref a) d ∧ SeqAt.shaped d = true ∧ d.showable = true ∧ d.shown.length ≤ sizeLine ∧ Q (.str d.shown) H
theorem call_repr {X : Cx} (hgd : X.A.guards = some []) (hu : X.A.units + 65 < cLine) : CallR X (.builtin "repr") (rRepr X.K) := by
  intro pins s σ H xs us Q I r h
  obtain ⟨a, d, rfl, hr, hs, hsh, hsz, q⟩ := h
  obtain ⟨u, rfl, ru⟩ := vals1 r
  cases (show u = .ref a from ru)
  obtain ⟨as, rd⟩ := hr.reads I.hok (SeqAt.canLay_of_shaped hs) rfl
  have hd := SeqAt.depth_of_shaped hs
  exact repr_of_reads' rd hsh (PyData.noDict_hsm (PyData.hasDict_of_canLay d (SeqAt.canLay_of_shaped hs))) hgd (by omega) (fun _ _ e => e) (fun h' u tk k => ⟨.str d.shown, H, I.kept k, ⟨_, rfl⟩, q⟩) hsz
/-- repr of a list, a tuple -/
def oRepr : Op1 := fun d k => SeqAt.shaped d = true ∧ d.showable = true ∧ d.shown.length ≤ sizeLine ∧ (match d with
  | .list _ => k (.sh (.str d.shown))
  | .tuple _ => k (.sh (.str d.shown))
  | _ => False)
theorem sem_repr {G : Gb} : SemN G (rRepr G.K) (o1 oRepr) := by
  refine semN_1 ?_
  intro C Hi σ H Γ x a k Q c ha h q
  obtain ⟨h1, h2, h3, h4⟩ := h
  have hr := ha.rep c.imm
  cases a with
  | list l =>
    obtain ⟨p, xs, rfl, _, _⟩ := ha.list c.imm
    exact ⟨p, _, rfl, hr, h1, h2, h3, q _ _ H Hi (Ext.refl _) (out_str c _) h4⟩
  | tuple l =>
    obtain ⟨p, xs, rfl, _, _⟩ := ha.tuple c.imm
    exact ⟨p, _, rfl, hr, h1, h2, h3, q _ _ H Hi (Ext.refl _) (out_str c _) h4⟩
  | _ => exact h4.elim
theorem b_repr {X : Cx} {G : Gb} (hK : X.K = G.K) (hgd : X.A.guards = some []) (hu : X.A.units + 65 < cLine) : B1 X G "repr" (rRepr G.K) (o1 oRepr) := ⟨by rw [← hK]; exact call_repr hgd hu, sem_repr⟩
/-! ### a law's def, run by the caller alone -/
section
variable {P : Program} {w : World} {K : Fg} {mg : Str → Option Value}
open PyProof.Rows in
/-- the law's def at the caller: its own calls see an empty repr guard -/
theorem law_run {base : Heap} {x qual y : Str} {params : Arguments} {body : List Stmt} {scope : Scope} {dvs : List V} {kws : List (Str × V)} {f : Addr} {fd : FuncData} {N : List Str} {k : Nat} {ca : Str → Addr} {ws : WS}
    (F : FunD K x qual params body scope dvs kws f fd) (S : FnScope N [y] scope) (hV : FnV fsLaw N.length ws)
    (hb : ∀ (cdv : Value) (s : Shared) (H : Hp) (E : XK), Room k (callerA.deeper (envOfC qual scope s.heap.objs.size f cdv)) →
      ∃ t, PSs (cxOf (L2N.CX P w) P w K mg base N qual scope f cdv callerA [] s H E) body t ∧ SimS ⟨K, OpS K, ca⟩ (fun c d _ H => E c d H) t ws)
    (s : Shared) (H : Hp) (args : Args) (us : List Value) (vs : List V) (Q : VK) (E : XK) (hr : Room (k + 1) callerA) (e0 : Env0 P w K mg base callerA [] s H) (hbd : BindsTo s fd args ([y].zip us)) (r : Vals vs us) (hsp : lift ⟨K, OpS K, ca⟩ fsLaw vs H Q E) :
    codeAny (model P w) callerA (.call (.ref f) args) (CR (L2N.CX P w) [] P w H s Q E) s := by
  obtain ⟨oc, od, dV, kV, doc, pm, an, cdv, ct, osl, rfl, lk, hcd, _, _⟩ := F.ex
  have hl : vs.length = [y].length := lift_len fsLaw_len hsp
  have old : ∀ b o, base.get? b = some o → s.heap.get? b = some o := fun b o e => (e0.bs b o e).1
  have hkind : ∀ z ∈ [y].zip us, scope.names.lookup z.1 = some .local ∨ (scope.names.lookup z.1 = some .cell ∧ ((cellsFrom (s.heap.objs.size + 1) scope.names []).lookup z.1).isSome = true) := by
    rintro ⟨n, v⟩ hz
    rcases S.par n (List.of_mem_zip hz).1 with q | q
    · exact .inl q
    · exact .inr ⟨q, PySem.W.cellsFrom_some _ _ _ (.inl q)⟩
  have KX := e0.mod.kin.keeps old
  refine codeAny_call_function hr.depth (KX _ _ lk) rfl S.co S.gen rfl (PySem.W.codeRec_of KX hcd) (hbd _ _ _ _ ?_)
  refine wpAny_newFunctionEnv_cells S.kind hkind fun env he s1 ic => ?_
  subst he
  refine ⟨(e0.mod.nolimit.keeps old).keeps ic.toInCall.keep, codeAny_func ?_⟩
  obtain ⟨t, ht, hs⟩ := hb cdv s H E (hr.deeper _)
  have I := inv_start (CX := L2N.CX P w) (E := E) S hr.hd e0 hl r ic
  refine wpAny_mono (ht.run [] s1 (start N vs) H _ I (vbody hV hs hsp)) (fun fl s' hs => ?_) fun e s' hs => hs
  cases fl with
  | ret u =>
    obtain ⟨v, σ', H', J, rv, q⟩ := hs
    exact ⟨v, H', J.os, J.bare, J.base, J.hok, rv, q⟩
  | next =>
    obtain ⟨σ', H', J, q⟩ := hs
    exact ⟨.non, H', J.os, J.bare, J.base, J.hok, rfl, q⟩
  | brk =>
    obtain ⟨_, _, _, q⟩ := hs
    exact q.elim
  | cont =>
    obtain ⟨_, _, _, q⟩ := hs
    exact q.elim
end
end VL

set_option Elab.async false
set_option linter.all false
set_option maxRecDepth 100000
set_option maxHeartbeats 2000000
/-! VLaw: from a law's promise to its statement. -/
namespace VL
open PySem L2 PyProof.Rows

/-- what the law's def does, called by the caller on the script -/
def LawRuns (P : Program) (w : World) (K : Fg) (mg : Str → Option Value) (base : Heap) (k : Nat) (f : Addr) (fd : FuncData) (y : Str) : Prop :=
  ∀ (s : Shared) (H : Hp) (args : Args) (us : List Value) (vs : List V) (Q : VK) (E : XK), Room k callerA → Env0 P w K mg base callerA [] s H → BindsTo s fd args ([y].zip us) → Vals vs us → lift ⟨K, OpS K, fun _ => 0⟩ fsLaw vs H Q E →
    codeAny (model P w) callerA (.call (.ref f) args) (CR (L2N.CX P w) [] P w H s Q E) s
section
variable {P : Program} {w : World} {K : Fg} {mg mb : Str → Option Value}
theorem law_ends {k : Nat} {fa a : Addr} {fd : FuncData} {y : Str} {s₁ : Shared} {vs : List Value} {ns : List Int}
    (KX : K.In s₁.heap) (hns : s₁.heap.Ns mainGlobals mg) (hb : s₁.heap.Ns builtinsNs mb) (hbb : ∀ x : Str, x ≠ "__name__" → mb x = bootBuiltins x) (hlim : s₁.heap.NoLimit) (hg : s₁.gens = #[])
    (ha : s₁.heap.get? a = some { cls := .type "list", data := .seq vs.toArray }) (hi : IntsAre vs ns) (hl : ns.length ≤ 63) (hr : Room k callerA)
    (F : ∀ base : Heap, K.In base → base.Ns mainGlobals mg → LawRuns P w K mg base k fa fd y) (hbind : ∀ (s : Shared) (u : Value), BindsTo s fd ⟨[u], []⟩ [(y, u)]) :
    codeAny (model P w) callerA (.call (.ref fa) ⟨[.ref a], []⟩) (fun r s' => r = .ok (.ret (.bool true)) ∧ OldK s₁.heap s'.heap ∧ s'.os = s₁.os ∧ AllBare s'.gens) s₁ := by
  have hlz : ns.length ≤ sizeLine := by rw [sizeLine_eq]; omega
  -- one road for both abstract heaps: H tracks the script, frozen, or nothing
  have road : ∀ H : Hp, (∀ b u, H b = some u → b = a ∧ K.lookup a = none ∧ u = .frz { cls := .type "list", data := .seq vs.toArray } (.lst (ns.map V.int))) → SqL K H a (ns.map V.int) →
      codeAny (model P w) callerA (.call (.ref fa) ⟨[.ref a], []⟩) (fun r s' => r = .ok (.ret (.bool true)) ∧ OldK s₁.heap s'.heap ∧ s'.os = s₁.os ∧ AllBare s'.gens) s₁ := by
    intro H hH hS
    have free : ∀ {b : Addr}, b ≠ a → H b = none := fun {b} hb => by
      cases q : H b with
      | none => rfl
      | some u => exact absurd (hH b u q).1 hb
    have hok : HOk P w H s₁.heap := fun b u q => by
      obtain ⟨rfl, _, rfl⟩ := hH b u q
      exact ⟨ha, by rw [List.length_map]; exact hlz, vs, _, vals_ints hi, ha⟩
    have nsK : ∀ {b : Addr} {m : Str → Option Value}, s₁.heap.Ns b m → (hidT s₁.heap H).Ns b m := fun {b m} ⟨o, es, ep, e, d, r⟩ =>
      ⟨o, es, ep, hidT_get e (free fun z => by
        rw [z, ha] at e
        cases e
        have d' : Data.seq vs.toArray _ = Data.dict es ep := d
        cases d'), d, r⟩
    have hKb : K.In (hidT s₁.heap H) := fun b o e => hidT_get (KX b o e) (by
      cases q : H b with
      | none => rfl
      | some u =>
        obtain ⟨rfl, hk, _⟩ := hH b u q
        rw [hk] at e; cases e)
    obtain ⟨mc, l1, l2⟩ := hlim
    have e0 : Env0 P w K mg (hidT s₁.heap H) callerA [] s₁ H :=
      ⟨rfl, ⟨hKb, nsK hns, ⟨mb, nsK hb, hbb⟩, ⟨mc, nsK l1, l2⟩⟩, fun b o e => of_hidT e, Nat.le_of_eq (hidT_size _ _), trivial, fun b hb => absurd (show b ∈ ([] : List Addr) from hb) (by simp), hok, .of_eq hg⟩
    refine codeAny_mono (F _ hKb (nsK hns) s₁ H ⟨[.ref a], []⟩ [.ref a] [.ref a] _ _ hr e0 (hbind s₁ (.ref a)) (.cons rfl .nil) (law_sp hl hS)) fun r s' h => ?_
    cases r with
    | error e =>
      obtain ⟨_, _, _, _, _, _, _, _, _, _, _, _, z⟩ := h
      exact z.elim
    | ok fl =>
      cases fl with
      | next => exact False.elim h
      | brk => exact False.elim h
      | cont => exact False.elim h
      | ret u =>
        obtain ⟨v, H', os, bare, un, hok', rv, q⟩ := h
        cases (show v = .bl true from q)
        cases (show u = Value.bool true from rv)
        refine ⟨rfl, OldK.of_keep fun b o e => ?_, os, bare⟩
        cases qb : H b with
        | none => exact un.keep b o e qb (by intro z; exact absurd (show b ∈ ([] : List Addr) from z) (by simp)) (by simp)
        | some u =>
          obtain ⟨rfl, _, rfl⟩ := hH b u qb
          obtain ⟨e1, _⟩ := hok b _ qb
          obtain ⟨e2, _⟩ := hok' b _ (un.frzs b _ _ qb)
          rw [e1] at e; cases e
          exact e2
  cases hk : K.lookup a with
  | some o =>
    have e := KX a o hk
    rw [ha] at e
    cases e
    exact road (fun _ => none) (fun b u z => by cases (show (none : Option HO) = some u from z)) (.inr ⟨_, vs.toArray, _, hk, rfl, rfl, rfl, by rw [List.size_toArray, hi.length]; exact hlz, by simpa using vals_ints hi⟩)
  | none =>
    refine road (fun b => if b = a then some (.frz { cls := .type "list", data := .seq vs.toArray } (.lst (ns.map V.int))) else none) (fun b u z => ?_) (.inl (.inr ⟨_, if_pos rfl⟩))
    by_cases hb : b = a
    · rw [if_pos hb] at z
      exact ⟨hb, hk, (Option.some.inj z).symm⟩
    · rw [if_neg hb] at z; cases z
end
/-- the goal that the head leaves -/
theorem walk_law {l : PySem.W.OpenLaw} {k : Nat} {q : Program} {loose : List Str} {XP : (Str → Option Value) → Heap → Prop} {YP : World → Heap → Prop} {d : DefRec} {y : Str}
    (hn : l.most = some 63) (hdf : d.params.defaults = []) (hr : Room k callerA)
    (F : ∀ (w : World) (mg : Str → Option Value) (fa : Addr) (h : Heap), YP w h → h.Ns mainGlobals mg → mg d.name = some (.ref fa) →
      ∃ (K : Fg) (fd : FuncData), K.In h ∧ (∀ (s : Shared) (u : Value), BindsTo s fd ⟨[u], []⟩ [(y, u)]) ∧ ∀ base : Heap, K.In base → base.Ns mainGlobals mg → LawRuns l.prog w K mg base k fa fd y) :
    PySem.W.WalkO q loose XP YP l.row.toRowW d [] (fun f vs => PySem.call f vs) := by
  refine Att.attach_call hn hdf fun w s₀ s₁ mg mb fa o pm cd doc a vs ns G Y ho hd hcd hmg hobj hints hlen hg => ?_
  obtain ⟨K, fd, KX, hb, hF⟩ := F w mg fa _ Y G.T.g hmg
  exact law_ends KX G.T.g G.T.b G.T.builtins G.T.nolimit hg hobj hints hlen hr hF hb
end VL

set_option Elab.async false
set_option linter.all false
set_option maxRecDepth 100000
/-! VKw: calls by keywords alone. -/
namespace VL
open PySem L2

/-- the items at these places -/
def reord {α : Type} (is : List Nat) (xs : List α) : List α := is.filterMap (xs[·]?)
theorem Vals.reord {vs : List V} {us : List Value} (r : Vals vs us) : ∀ is : List Nat, Vals (reord is vs) (VL.reord is us)
  | [] => .nil
  | i :: is => by
    have ih := Vals.reord r is
    unfold VL.reord at ih ⊢
    rw [List.filterMap_cons, List.filterMap_cons]
    cases e : vs[i]? with
    | none =>
      have : us[i]? = none := by
        rw [List.getElem?_eq_none_iff] at e ⊢
        rw [← r.length]; exact e
      rw [this]; exact ih
    | some v =>
      obtain ⟨u, hu, rv⟩ := r.get e
      rw [hu]
      exact .cons rv ih
theorem Reps.reord {K : Fg} {H : Hp} {vs : List V} {ds : List D} (r : Reps K H vs ds) : ∀ is : List Nat, Reps K H (reord is vs) (VL.reord is ds)
  | [] => .nil
  | i :: is => by
    have ih := Reps.reord r is
    unfold VL.reord at ih ⊢
    rw [List.filterMap_cons, List.filterMap_cons]
    cases e : vs[i]? with
    | none =>
      have : ds[i]? = none := by
        rw [List.getElem?_eq_none_iff] at e ⊢
        rw [← r.length]; exact e
      rw [this]; exact ih
    | some v =>
      obtain ⟨d, hd, rv⟩ := r.get' e
      rw [hd]
      exact .cons rv ih
def tCallKw (sp : Sp) (is : List Nat) (m : Nat) (E : St → XK) (t : TA) : TE := fun σ H Q => t σ H fun vs H1 => vs.length = m ∧ sp (reord is vs) H1 Q (E σ)
def wCallKw (fs : FS) (is : List Nat) (m : Nat) (wa : WA) : WE := fun Γ Q X => wa Γ (fun rs Γ1 => frAll rs Γ1 fun ds Γ2 => ds.length = m ∧ fs none (reord is ds) (fun r _ => Q r Γ2) fun x _ => X x Γ2) X
/-- a def called by the keywords ks -/
def GdK (P : Program) (wd : World) (G : Gb) (mg : Str → Option Value) (base : Heap) (k : Nat) (x : Str) (fs : FS) (ps ks : List Str) (is : List Nat) : Prop :=
  ∃ (f : Addr) (fd : FuncData), mg x = some (.ref f) ∧ PySem.W.keepIn G.K (.ref f) = true ∧ FnOk P wd G.K mg base (L2N.CX P wd) k f fd ps (lift G fs) ∧ ∀ (s : Shared) (ws : List Value), ws.length = ks.length → BindsTo s fd ⟨[], ks.zip ws⟩ (ps.zip (reord is ws))
theorem GdK.mono {P : Program} {wd : World} {G : Gb} {mg : Str → Option Value} {base : Heap} {k k' : Nat} {x : Str} {fs : FS} {ps ks : List Str} {is : List Nat} (h : GdK P wd G mg base k x fs ps ks is) (l : k ≤ k') : GdK P wd G mg base k' x fs ps ks is :=
  let ⟨f, fd, h1, h2, h3, h4⟩ := h
  ⟨f, fd, h1, h2, h3.mono l, h4⟩
structure DK (X : Cx) (G : Gb) (W : WX) (kws : List Keyword) (t : TA) (w : WA) : Prop where
  pe : PK X kws t
  sim : SimA G W t w
section
variable {X : Cx} {G : Gb} {W : WX} {e : Expr} {te : TE} {we : WE} {pos p kpos : Pos} {t : TA} {w : WA} {kws : List Keyword} {nm : Option Str} {k : Nat} {x : Str} {fs : FS} {ps ks : List Str} {is : List Nat}
theorem dk_nil : DK X G W [] tNil wNil := ⟨pk_nil, sim_nil⟩
theorem dk_cons (he : DE X G W e te we) (hr : DK X G W kws t w) : DK X G W (⟨nm, e, kpos⟩ :: kws) (tCons te t) (wCons we w) := ⟨pk_cons he.pe hr.pe, sim_cons he.sim hr.sim⟩
theorem sim_callKw {m : Nat} (ha : SimA G W t w) : SimE G W (tCallKw (lift G fs) is m (L2.WE W) t) (wCallKw fs is m w) := by
  intro C Hi σ H Γ Q Qd Xd c hw hQ hX
  refine ha C Hi σ H Γ _ _ Xd c hw (fun vs rs H1 Hi1 Γ1 e1 c1 h1 q1 => ?_) hX
  obtain ⟨ds, Hi2, Γ2, e2, c2, rp, hl, q2⟩ := h1.share (Ext.refl _) c1 q1
  have f2 := e1.trans e2
  refine ⟨by rw [rp.length]; exact hl, none, reord is ds, Hi2, _, _, [], reord is vs, [], rfl, ⟨rfl, rfl⟩, rp.reord is, c2.imm, fun a ha => (nomatch ha), q2, fun v r H' Hi' io' fp' L ra q => ?_, fun x cl d H' Hi' io' fp' L hx q => ?_⟩
  · have c3 := c2.grow (fun a o h => L.keep a o h (fun z => nomatch z)) L.e L.imm L.ov
    cases r with
    | sh d => exact hQ v (.sh d) H' Hi' Γ2 (f2.trans L.e) ⟨c3, ra⟩ q
    | vr i => exact ra.elim
    | op t d =>
      obtain ⟨ht, p, fp2, rfl, okk, hn⟩ := ra
      obtain ⟨fpc, c2⟩ := c2
      have c4 := c2.grow (fun a o h => L.keep a o h (fun z => nomatch z)) L.e L.imm L.ov
      refine hQ _ (.op t d) H' Hi' Γ2 (f2.trans L.e) ⟨c4.len, _, c4.push2 (x := some (.ref p)) (l := fp2) (s := .op t d) ⟨p, rfl, okk, fun a ha => .inl (c2.fresh (hn a ha).2.1).2, fun q hq => by omega⟩ fun a ha => ?_⟩ q
      exact ⟨(hn a ha).1, fun j hj hm => by obtain ⟨o, z⟩ := c2.trk hj hm; rw [(hn a ha).2.1] at z; cases z⟩
    | ow d =>
      obtain ⟨p, rfl, ow, hn, h0, hnf⟩ := ra
      obtain ⟨fpc, c2⟩ := c2
      obtain ⟨n1, n2⟩ := c2.fresh h0
      have c4 := c2.grow (fun a o h => L.keep a o h (fun z => nomatch z)) L.e L.imm L.ov
      refine hQ _ (.ow d) H' Hi' Γ2 (f2.trans L.e) ⟨c4.len, _, c4.push2 (x := some (.ref p)) (l := [p]) (s := .ow d) ⟨p, rfl, rfl, ow, n2⟩ fun a ha => ?_⟩ q
      have : a = p := by simpa using ha
      subst this
      exact ⟨hn, fun j hj hm => by obtain ⟨o, z⟩ := c2.trk hj hm; rw [h0] at z; cases z⟩
  · have c3 := c2.grow (fun a o h => L.keep a o h (fun z => nomatch z)) L.e L.imm L.ov
    exact hX x cl d H' Hi' Γ2 (f2.trans L.e) c3 hx q
theorem de_callKw (hK : X.K = G.K) (F : GdK X.prog X.w G X.mg X.base k x fs ps ks is) (hr : Room k X.A) (tk : L2N.Takes X W) (ha : DK X G W kws t w) (hall : (backToKw pos (keywordEach kws X.env)).all (·.1.isSome) = true := by rfl)
    (hks : (backToKw pos (keywordEach kws X.env)).filterMap (·.1) = ks := by rfl) (hg : Gl X x := by rfl) (hdb : (x == ("__debug__" : Str)) = false := by decide)
    (hpl : ((backTo pos (starEach [] X.env)).any (·.1) || (backToKw pos (keywordEach kws X.env)).any (·.1.isNone)) = false := by rfl) :
    DE X G W (.Call (.Name x p) [] kws pos) (tCallKw (lift G fs) is ks.length (L2.WE W) t) (wCallKw fs is ks.length w) := by
  obtain ⟨f, fd, h1, h2, h3, h4⟩ := F
  refine ⟨⟨fun pins s σ H Q I h => ?_⟩, sim_callKw ha.sim⟩
  rw [← hK] at h2 h3
  refine wpAny_Call_Name_kw (ld_glob I hg h1 ?_ hdb)
  refine PySem.W.callWith_KW0 (h₀ := X.base) I.ok.mod.kin h2 hall (thn (ha.pe.run pos pins s σ H _ I h) fun ws s1 ⟨vs, H1, I1, r, hl, q⟩ => ⟨I1.kIn, ?_⟩) hpl
  rw [hks]
  have hwl : ws.length = ks.length := by rw [← r.length]; exact hl
  refine wpAny_call (codeAny_mono (h3.run X.A X.stack s1 H1 ⟨[] ++ [], ks.zip ws⟩ (reord is ws) (reord is vs) Q (L2.WE W σ) hr I1.env0 (h4 s1 ws hwl) (Vals.reord r is) q) fun r s' hq => ?_)
  cases r with
  | error e => exact L2N.passAt tk σ pins H1 s1 e s' I1 hq
  | ok fl =>
    cases fl with
    | ret u => exact I1.after hq
    | next => exact False.elim hq
    | brk => exact False.elim hq
    | cont => exact False.elim hq
end
/-! ### texts compared, whatever their signs -/
def oEqS : Op2 := fun a b k => isS a fun x => isS b fun y => k (.sh (.bool (decide (x = y))))
def oNeS : Op2 := fun a b k => isS a fun x => isS b fun y => k (.sh (.bool (!decide (x = y))))
theorem c_eqS {X : Cx} {G : Gb} : C2 X G .Eq rEq oEqS := ⟨op_eq, by
  intro C Hi σ H Γ x y a b k Q c ha hb h q
  obtain ⟨i, rfl, h1⟩ := isS_inv h
  obtain ⟨j, rfl, h2⟩ := isS_inv h1
  rw [ha.str, hb.str]
  refine ⟨rfl, ?_⟩
  have : decide (V.str i = V.str j) = decide (i = j) := by by_cases e : i = j <;> simp [e]
  rw [this]
  exact q _ _ H Hi (Ext.refl _) (out_bl c _) h2⟩
theorem c_neS {X : Cx} {G : Gb} : C2 X G .NotEq rNe oNeS := ⟨op_ne, by
  intro C Hi σ H Γ x y a b k Q c ha hb h q
  obtain ⟨i, rfl, h1⟩ := isS_inv h
  obtain ⟨j, rfl, h2⟩ := isS_inv h1
  rw [ha.str, hb.str]
  refine ⟨rfl, ?_⟩
  have : decide (V.str i = V.str j) = decide (i = j) := by by_cases e : i = j <;> simp [e]
  rw [this]
  exact q _ _ H Hi (Ext.refl _) (out_bl c _) h2⟩
end VL

set_option Elab.async false
set_option linter.all false
set_option maxRecDepth 100000
/-! VSc8: gains and losses. -/
namespace SC
open PySem L2 VL

/-! ### how the end moves with the time -/
theorem sum_upd (n : Str) (x : Int) (f g : Str → Int) : ∀ S : List Str, S.Nodup → n ∈ S → (∀ m, g m = if m = n then f m + x else f m) → ∀ e : Str → Int, (S.map fun m => e m * g m).sum = (S.map fun m => e m * f m).sum + e n * x
  | [], _, h, _, _ => by cases h
  | a :: S, nd, h, hg, e => by
    rw [List.nodup_cons] at nd
    simp only [List.map_cons, List.sum_cons]
    by_cases ha : a = n
    · subst ha
      have : (S.map fun m => e m * g m) = S.map fun m => e m * f m := List.map_congr_left fun m hm => by
        rw [hg m, if_neg (show ¬ m = a from fun z => nd.1 (by rw [z] at hm; exact hm))]
      rw [this, hg a, if_pos rfl, Int.mul_add]
      omega
    · have hn : n ∈ S := by
        rcases List.mem_cons.mp h with z | z
        · exact absurd z.symm ha
        · exact z
      rw [sum_upd n x f g S nd.2 hn hg e, hg a, if_neg ha]
      omega
theorem sum_same (n : Str) (f g : Str → Int) (S : List Str) (h : n ∉ S) (hg : ∀ m, m ≠ n → g m = f m) (e : Str → Int) : (S.map fun m => e m * g m).sum = (S.map fun m => e m * f m).sum := by
  congr 1
  exact List.map_congr_left fun m hm => by rw [hg m fun z => h (z ▸ hm)]
theorem sum0 : ∀ S : List Str, (S.map fun _ => (0 : Int)).sum = 0
  | [] => rfl
  | _ :: S => by rw [List.map_cons, List.sum_cons, sum0 S]; rfl
theorem lin : ∀ (r : List It) (ms S : List Str) (p q : Sta) (δ : Int) (ε : Str → Int), ok ms r → (∀ m ∈ S, m ∈ ms) → S.Nodup → (∀ m, m ∉ S → ε m = 0) → q.2 = p.2 + δ → (∀ m, q.1 m = p.1 m + ε m) →
    (st q r).2 = (st p r).2 + δ * (vis r).1 - (S.map fun m => ε m * (vis r).2 m).sum
  | [], ms, S, p, q, δ, ε, _, _, _, _, h1, _ => by
    have : (S.map fun m => ε m * (vis []).2 m).sum = 0 := by
      have : (S.map fun m => ε m * (vis []).2 m) = S.map fun _ => 0 := List.map_congr_left fun m _ => by simp [vis]
      rw [this, sum0]
    rw [this]
    show q.2 = p.2 + δ * 1 - 0
    omega
  | .bar n :: r, ms, S, p, q, δ, ε, h, hS, nd, h0, h1, h2 => lin r ms S (stp p (.bar n)) (stp q (.bar n)) δ ε h.2 hS nd h0 (by show q.2 + 1 = p.2 + 1 + δ; omega) h2
  | .mark n :: r, ms, S, p, q, δ, ε, h, hS, nd, h0, h1, h2 => by
    have hn : n ∉ S := fun z => h.2.1 (hS n z)
    have ih := lin r (n :: ms) (n :: S) (stp p (.mark n)) (stp q (.mark n)) δ (fun m => if m = n then δ else ε m) h.2.2 (fun m hm => by
        rcases List.mem_cons.mp hm with z | z
        · exact z ▸ List.mem_cons_self
        · exact List.mem_cons_of_mem _ (hS m z)) (List.nodup_cons.mpr ⟨hn, nd⟩) (fun m hm => by
        have : m ≠ n := fun z => hm (z ▸ List.mem_cons_self)
        rw [if_neg this]
        exact h0 m fun z => hm (List.mem_cons_of_mem _ z)) h1 (fun m => by
        show (if m = n then q.2 else q.1 m) = (if m = n then p.2 else p.1 m) + (if m = n then δ else ε m)
        split
        · exact h1
        · exact h2 m)
    have e : (S.map fun m => (if m = n then δ else ε m) * (vis r).2 m) = S.map fun m => ε m * (vis r).2 m := List.map_congr_left fun m hm => by rw [if_neg (show ¬ m = n from fun z => hn (by rw [z] at hm; exact hm))]
    simp only [List.map_cons, List.sum_cons, if_true, e] at ih
    show (st (stp q (.mark n)) r).2 = (st (stp p (.mark n)) r).2 + δ * ((vis r).1 - (vis r).2 n) - (S.map fun m => ε m * (vis r).2 m).sum
    rw [ih, Int.mul_sub]
    omega
  | .rep n c :: r, ms, S, p, q, δ, ε, h, hS, nd, h0, h1, h2 => by
    have ih := lin r ms S (stp p (.rep n c)) (stp q (.rep n c)) (δ + c * (δ - ε n)) ε h.2.2.2 hS nd h0 (by
      show q.2 + c * (q.2 - q.1 n) = p.2 + c * (p.2 - p.1 n) + (δ + c * (δ - ε n))
      rw [h1, h2 n, show p.2 + δ - (p.1 n + ε n) = (p.2 - p.1 n) + (δ - ε n) by omega, Int.mul_add]
      omega) h2
    show (st (stp q (.rep n c)) r).2 = (st (stp p (.rep n c)) r).2 + δ * ((vis r).1 * (c + 1)) - (S.map fun m => ε m * (if m = n then (vis r).2 m + c * (vis r).1 else (vis r).2 m)).sum
    rw [ih]
    have ea : (δ + c * (δ - ε n)) * (vis r).1 = δ * ((vis r).1 * (c + 1)) - ε n * (c * (vis r).1) := by
      rw [Int.add_mul, Int.mul_sub, Int.sub_mul, Int.mul_add, Int.mul_add, Int.mul_one]
      have x1 : c * δ * (vis r).1 = δ * ((vis r).1 * c) := by rw [Int.mul_comm c δ, Int.mul_assoc, Int.mul_comm c]
      have x2 : c * ε n * (vis r).1 = ε n * (c * (vis r).1) := by rw [Int.mul_comm c (ε n), Int.mul_assoc]
      rw [x1, x2]
      omega
    rw [ea]
    by_cases hn : n ∈ S
    · rw [sum_upd n (c * (vis r).1) (vis r).2 (fun m => if m = n then (vis r).2 m + c * (vis r).1 else (vis r).2 m) S nd hn (fun m => rfl) ε]
      omega
    · rw [sum_same n (vis r).2 (fun m => if m = n then (vis r).2 m + c * (vis r).1 else (vis r).2 m) S hn (fun m hm => if_neg hm) ε, h0 n hn]
      omega
/-- the gain of a repeat put at p -/
def gain (l : List It) (p : Nat) (n : Str) (c : Int) : Int := c * ((st p0 (l.take p)).2 - (st p0 (l.take p)).1 n) * (vis (l.drop p)).1
def ins (l : List It) (p : Nat) (n : Str) (c : Int) : List It := l.take p ++ .rep n c :: l.drop p
theorem total_ins {l : List It} (h : ok [] l) (p : Nat) (n : Str) (c : Int) : total (ins l p n c) = total l + gain l p n c := by
  have e : ∀ r : List It, st p0 (l.take p ++ r) = st (st p0 (l.take p)) r := fun r => by unfold st; rw [List.foldl_append]
  have h2 : ok (mk [] (l.take p)) (l.drop p) := ((ok_app (l.take p) (l.drop p) []).mp (by rw [List.take_append_drop]; exact h)).2
  unfold total ins gain
  rw [e]
  have e2 : (st p0 l).2 = (st (st p0 (l.take p)) (l.drop p)).2 := by rw [← e, List.take_append_drop]
  rw [e2]
  have := lin (l.drop p) _ [] (st p0 (l.take p)) (stp (st p0 (l.take p)) (.rep n c)) (c * ((st p0 (l.take p)).2 - (st p0 (l.take p)).1 n)) (fun _ => 0) h2 (fun m z => nomatch z) List.nodup_nil (fun _ _ => rfl) rfl (fun m => (Int.add_zero _).symm)
  simp at this
  exact this
theorem ok_ins {l : List It} (h : ok [] l) {p j : Nat} {n : Str} {c : Int} (hn : nameB n = true) (hj : l[j]? = some (.mark n)) (hjp : j < p) (hc : 1 ≤ c ∧ c < 2 ^ 31) : ok [] (ins l p n c) := by
  obtain ⟨h1, h2⟩ := (ok_app (l.take p) (l.drop p) []).mp (by rw [List.take_append_drop]; exact h)
  refine (ok_app _ _ _).mpr ⟨h1, hn, ?_, hc, h2⟩
  have : ∀ (a : List It) (ms : List Str) (j : Nat), a[j]? = some (.mark n) → n ∈ mk ms a := by
    intro a
    induction a with
    | nil => intro ms j e; simp at e
    | cons it a ih =>
      intro ms j e
      have up : ∀ (a : List It) (ms : List Str), n ∈ ms → n ∈ mk ms a := by
        intro a
        induction a with
        | nil => intro ms h; exact h
        | cons it a ih => intro ms h; cases it <;> first | exact ih _ h | exact ih _ (List.mem_cons_of_mem _ h)
      cases j with
      | zero =>
        have : it = .mark n := by simpa using e
        subst this
        exact up a _ List.mem_cons_self
      | succ j => cases it <;> exact ih _ j (by simpa using e)
  exact this _ _ j (by rw [List.getElem?_take_of_lt hjp]; exact hj)
end SC

set_option Elab.async false
set_option linter.all false
set_option maxRecDepth 100000
/-! VSc9: insertion_gain, removal_loss; the laws' own times. -/
namespace SC
open PySem L2 VL

theorem cut_take {l : List D} {p : Nat} (h : p ≤ l.length) : cutD l none (some (p : Int)) = l.take p := by
  unfold cutD
  have : HT.sIx l.length l.length (some (p : Int)) = p := by rw [HT.sIx_nat]; omega
  rw [this]
  simp [HT.sIx]
theorem cut_drop {l : List D} {p : Nat} (h : p ≤ l.length) : cutD l (some (p : Int)) none = l.drop p := by
  unfold cutD
  have : HT.sIx l.length 0 (some (p : Int)) = p := by rw [HT.sIx_nat]; omega
  rw [this]
  have : HT.sIx l.length l.length none = l.length := by simp [HT.sIx]
  rw [this]
  exact List.take_of_length_le (by simp)
theorem sc_take (l : List It) (p : Nat) : (sc l).take p = sc (l.take p) := by simp [sc]
theorem sc_drop (l : List It) (p : Nat) : (sc l).drop p = sc (l.drop p) := by simp [sc]
/-- what items are -/
def It.fine : It → Prop
  | .bar n => PyData.strOk n = true
  | .mark n => PyData.strOk n = true
  | .rep n _ => PyData.strOk n = true
theorem ok_fine : ∀ {l : List It} {ms : List Str} {i : Nat} {it : It}, ok ms l → l[i]? = some it → it.fine
  | [], _, _, _, _, e => by simp at e
  | x :: l, ms, 0, it, h, e => by
    have : x = it := by simpa using e
    subst this
    cases x with
    | bar n => exact name_strOk h.1
    | mark n => exact name_strOk h.1
    | rep n c => exact name_strOk h.1
  | x :: l, ms, i + 1, it, h, e => by
    have e : l[i]? = some it := by simpa using e
    cases x with
    | bar m => exact ok_fine h.2 e
    | rep m d => exact ok_fine h.2.2.2 e
    | mark m => exact ok_fine h.2.2 e
theorem shaped_item {it : It} (h : it.fine) : SeqAt.shaped it.d = true := by
  have b1 : PyData.strOk "bar" = true := by decide +kernel
  have b2 : PyData.strOk "mark" = true := by decide +kernel
  have b3 : PyData.strOk "repeat" = true := by decide +kernel
  cases it with
  | bar n => have h : PyData.strOk n = true := h; simp [It.d, SeqAt.shaped, PyData.canLay0, PyData.canLayAll0, PyData.depth, PyData.depthAll, h, b1]
  | mark n => have h : PyData.strOk n = true := h; simp [It.d, SeqAt.shaped, PyData.canLay0, PyData.canLayAll0, PyData.depth, PyData.depthAll, h, b2]
  | rep n c => have h : PyData.strOk n = true := h; simp [It.d, SeqAt.shaped, PyData.canLay0, PyData.canLayAll0, PyData.depth, PyData.depthAll, h, b3]
def isMark : It → Str → Bool
  | .mark m, n => m == n
  | _, _ => false
theorem isMark_iff (it : It) (n : Str) : isMark it n = true ↔ it = .mark n := by
  cases it <;> simp [isMark]
theorem eqv_mark (it : It) (n : Str) : PyData.eqv it.d (.tuple [.str "mark", .str n]) = isMark it n := by
  cases it with
  | bar m => simp only [It.d, PyData.eqv, PyData.eqvAll, bm, Bool.false_and, isMark]
  | mark m => simp only [It.d, PyData.eqv, PyData.eqvAll, mm, Bool.true_and, Bool.and_true, isMark]
  | rep m c => simp only [It.d, PyData.eqv, PyData.eqvAll, rm, Bool.false_and, isMark]
def idxM (nm : Str) : Nat → List It → List Int
  | _, [] => []
  | n, it :: r => if isMark it nm then (n : Int) :: idxM nm (n + 1) r else idxM nm (n + 1) r
theorem idxM_none (nm : Str) : ∀ (r : List It) (n : Nat), (∀ i : Nat, r[i]? ≠ some (It.mark nm)) → idxM nm n r = []
  | [], _, _ => rfl
  | it :: r, n, h => by
    have h0 : isMark it nm = false := by
      cases q : isMark it nm with
      | false => rfl
      | true => exact absurd (show (it :: r)[0]? = some (.mark nm) by rw [(isMark_iff _ _).mp q]; rfl) (h 0)
    rw [idxM, h0]
    exact idxM_none nm r (n + 1) fun i e => h (i + 1) (by simpa using e)
theorem idxM_one (nm : Str) : ∀ (r : List It) (n j : Nat), r[j]? = some (It.mark nm) → (∀ i : Nat, r[i]? = some (It.mark nm) → i = j) → idxM nm n r = [((n + j : Nat) : Int)]
  | [], _, _, e, _ => by simp at e
  | it :: r, n, 0, e, u => by
    have : it = .mark nm := by simpa using e
    subst this
    have h0 : isMark (.mark nm) nm = true := (isMark_iff _ _).mpr rfl
    rw [idxM, h0, if_pos rfl, idxM_none nm r (n + 1) fun i z => by have := u (i + 1) (by simpa using z); omega]
    rfl
  | it :: r, n, j + 1, e, u => by
    have h0 : isMark it nm = false := by
      cases q : isMark it nm with
      | false => rfl
      | true => have := u 0 (show (it :: r)[0]? = some (.mark nm) by rw [(isMark_iff _ _).mp q]; rfl); omega
    rw [idxM, h0, if_neg Bool.false_ne_true, idxM_one nm r (n + 1) j (by simpa using e) fun i z => by have := u (i + 1) (by simpa using z); omega]
    congr 2
    omega
theorem sh_pair {n : Str} (h : PyData.strOk n = true) : SeqAt.shaped (.tuple [.str "mark", .str n]) = true := shaped_item (it := .mark n) h

/-! ### insertion_gain -/
def fs_insertion_gain : FS := fun io ds Q _ => io = none ∧ ∃ (l : List It) (p j : Nat) (n : Str) (c : Int), ds = [.list (sc l), .int (p : Int), .str n, .int c] ∧ ok [] l ∧ l.length ≤ 1000 ∧ p ≤ l.length ∧ l[j]? = some (.mark n) ∧ j < p ∧ 1 ≤ c ∧ c < 2 ^ 31 ∧ Q (.sh (.int (gain l p n c))) none
def w_insertion_gain : WS := wSeq (wDrop (wCall fs_require_score [] (wCons (wVar 0) (wNil)))) (wSeq (wIfS (wNot (wT (wCall fs_is_integer [] (wCons (wVar 1) (wCons (wC (.int 0)) (wCons (wCB (o1 oLen) (wCons (wVar 0) (wNil))) (wNil))))))) (wNev) (wNext)) (wSeq (wSet 4 (wLc [6, 7] (wiA enumD (wCons (wSlL (wVar 0) (wNoP) (wPart (wVar 1))) (wNil))) (wgTup 2 (wgCons (wgName 6) (wgCons (wgName 7) (wgNil)))) (wT (wOp oEq (wVar 7) (wTup (wCons (wC (.str "mark")) (wCons (wVar 2) (wNil)))))) (wVar 6))) (wSeq (wIfS (wT (wOp oEq (wVar 4) (wLst (wNil)))) (wNev) (wNext)) (wSeq (wIfS (wNot (wT (wCall fs_is_integer [.none] (wCons (wVar 3) (wCons (wC (.int 1)) (wNil)))))) (wNev) (wNext)) (wSeq (wSet 5 (wCall fs_arrival_times [] (wCons (wVar 0) (wNil)))) (wRet (wOp oMul (wOp oMul (wVar 3) (wOp (oII (fun _ _ => True) (· - ·)) (wOp oIx (wVar 5) (wVar 1)) (wOp oIx (wVar 5) (wOp oAdd (wOp oIx (wVar 4) (wC (.int 0))) (wC (.int 1)))))) (wOp oIx (wCall fs_count_visits [] (wCons (wVar 0) (wNil))) (wVar 1)))))))))
theorem lc_mk (nm : Str) (hnm : PyData.strOk nm = true) (z0 z1 z3 : Sl) (k : List D → Ev → Prop) : ∀ (r : List It) (n : Nat) (acc : List D), acc.length + r.length ≤ 1000 → (∀ it ∈ r, it.fine) → k (acc ++ (idxM nm n r).map .int) [z0, z1, .sh (.str nm), z3, .no, .no, .no, .no] →
    lcW [6, 7] (wgTup 2 (wgCons (wgName 6) (wgCons (wgName 7) (wgNil)))) (wT (wOp oEq (wVar 7) (wTup (wCons (wC (.str "mark")) (wCons (wVar 2) (wNil)))))) (wVar 6) k (enumF n (sc r)) acc [z0, z1, .sh (.str nm), z3, .no, .no, .no, .no]
  | [], n, acc, _, _, q => by simpa [lcW, enumF, sc, idxM] using q
  | it :: r, n, acc, hl, hf, q => by
    rw [List.length_cons] at hl
    have hz : acc.length < sizeLine := small (by omega)
    have hfi := shaped_item (hf it List.mem_cons_self)
    have hp := sh_pair hnm
    rw [show sc (it :: r) = it.d :: sc r from rfl, enumF, lcW]
    cases e : isMark it nm with
    | false =>
      rw [idxM, e, if_neg Bool.false_ne_true] at q
      simp [hfi, hp, eqv_mark, e, wipeE]
      exact lc_mk nm hnm z0 z1 z3 k r (n + 1) acc (by omega) (fun i hi => hf i (List.mem_cons_of_mem _ hi)) q
    | true =>
      rw [idxM, e, if_pos rfl] at q
      simp [hfi, hp, eqv_mark, e, wipeE]
      exact ⟨hz, lc_mk nm hnm z0 z1 z3 k r (n + 1) _ (by simp; omega) (fun i hi => hf i (List.mem_cons_of_mem _ hi)) (by simpa using q)⟩
theorem run_at {l : List It} {i : Nat} (h : i ≤ l.length) : ((run p0 l).map PyData.int)[i]? = some (.int (st p0 (l.take i)).2) := by rw [List.getElem?_map, run_get l p0 i h]; rfl
theorem visL_at {l : List It} {i : Nat} (h : i ≤ l.length) : ((visL l).map PyData.int)[i]? = some (.int (vis (l.drop i)).1) := by rw [List.getElem?_map, visL_get l i h]; rfl
theorem gain_mul {l : List It} (h : ok [] l) (hl : l.length ≤ 1000) {p i : Nat} (hp : p ≤ l.length) {n : Str} {c : Int} (hc : 1 ≤ c ∧ c < 2 ^ 31) :
    CMulW c ((st p0 (l.take p)).2 - (st p0 (l.take p)).1 n) ∧ CMulW (c * ((st p0 (l.take p)).2 - (st p0 (l.take p)).1 n)) (vis (l.drop i)).1 := by
  obtain ⟨b1, b2, b3⟩ := bd_st h p hp
  have b3 := b3 n
  have hd : ((st p0 (l.take p)).2 - (st p0 (l.take p)).1 n).natAbs < 2 ^ (32 * p + 1) := by rw [Nat.pow_succ]; omega
  have hcn : c.natAbs < 2 ^ 32 := by omega
  have hv := (vb (l := l.drop i) (ms := []) fun j m d e => ok_count h (by rw [List.getElem?_drop] at e; exact e)).1
  have hv2 : (vis (l.drop i)).1.natAbs < 2 ^ (32 * (l.drop i).length + 1) := by have := Nat.two_pow_pos (32 * (l.drop i).length); rw [Nat.pow_succ]; omega
  refine ⟨wide_mul hcn hd (by decide) (by omega) (by omega), wide_mul (wide_lt hcn hd) hv2 (by omega) (by omega) ?_⟩
  rw [List.length_drop]
  omega
theorem fv_insertion_gain : FnV fs_insertion_gain 8 w_insertion_gain := by
  rintro io ds Q X ⟨rfl, l, p, j, n, c, rfl, h, hl, hp, hj, hjp, c1, c2, q⟩
  have hnm : PyData.strOk n = true := ok_fine h hj
  show w_insertion_gain [.sh (.list (sc l)), .sh (.int (p : Int)), .sh (.str n), .sh (.int c), .no, .no, .no, .no] _ _
  simp [w_insertion_gain]
  refine ⟨rfl, l, rfl, h, hl, ?_⟩
  simp
  refine ⟨rfl, .int (p : Int), 0, .int ((sc l).length : Int), rfl, .inr ⟨_, rfl⟩, ?_⟩
  have e1 : isIntD (.int (p : Int)) 0 (.int ((sc l).length : Int)) = true := by simp [isIntD, sc_length]; omega
  rw [e1]
  simp [ev_wLc, enumD_eq, cut_take (show p ≤ (sc l).length by rw [sc_length]; exact hp), sc_take, okW, wipeE]
  refine lc_mk n hnm _ _ _ _ (l.take p) 0 [] (by simp; omega) (fun it hit => by
      obtain ⟨i, hi⟩ := List.getElem?_of_mem hit
      rw [List.getElem?_take] at hi
      split at hi
      · exact ok_fine h hi
      · cases hi) ?_
  rw [idxM_one n (l.take p) 0 j (by rw [List.getElem?_take_of_lt hjp]; exact hj) fun i hi => by
      rw [List.getElem?_take] at hi
      split at hi
      · exact ok_uniq h hi hj
      · cases hi]
  have s1 : SeqAt.shaped (.list [.int (j : Int)]) = true := by simp [SeqAt.shaped, PyData.canLay0, PyData.canLayAll0, PyData.depth, PyData.depthAll]
  have s2 : PyData.eqv (.list [.int (j : Int)]) (.list []) = false := by simp only [PyData.eqv, PyData.eqvAll]
  simp [restE, s1, sh_nil, s2]
  refine ⟨rfl, .int c, 1, .none, rfl, .inl rfl, ?_⟩
  have e2 : isIntD (.int c) 1 .none = true := by simp [isIntD]; exact c1
  rw [e2]
  simp
  refine ⟨rfl, l, rfl, h, hl, ?_⟩
  have t1 := fun k => ix_lnE (k := k) (run_at hp)
  have t2 := fun k => ix_lnE (k := k) (run_at (l := l) (i := j + 1) (by omega))
  rw [Int.natCast_add] at t2
  have t2' := t2
  simp at t2'
  have ht := mark_time (p := p0) h hj p hjp hp
  obtain ⟨m1, m2⟩ := gain_mul h hl (p := p) (i := p) hp (n := n) (c := c) ⟨c1, c2⟩
  rw [ht] at m1 m2
  simp [t1, t2', m1]
  refine ⟨rfl, l, rfl, h, hl, ?_⟩
  have t3 := fun k => ix_lnE (k := k) (visL_at hp)
  simp [t3, m2]
  unfold gain at q
  rw [ht] at q
  exact q

/-! ### removal_loss -/
def fs_removal_loss : FS := fun io ds Q _ => io = none ∧ ∃ (l : List It) (i : Nat) (n : Str) (c : Int), ds = [.list (sc l), .int (i : Int)] ∧ ok [] l ∧ l.length ≤ 1000 ∧ l[i]? = some (.rep n c) ∧ Q (.sh (.int (c * ((st p0 (l.take i)).2 - (st p0 (l.take i)).1 n) * (vis (l.drop (i + 1))).1))) none
def w_removal_loss : WS := wSeq (wDrop (wCall fs_require_score [] (wCons (wVar 0) (wNil)))) (wSeq (wDrop (wCall fs_require_repeat [] (wCons (wVar 0) (wCons (wVar 1) (wNil))))) (wSeq (wSet 2 (wCall fs_arrival_times [] (wCons (wVar 0) (wNil)))) (wSeq (wSet 3 (wOp (oII (fun _ _ => True) (· - ·)) (wOp oIx (wVar 2) (wVar 1)) (wOp oIx (wVar 2) (wOp oIx (wCall fs_segment_starts [] (wCons (wVar 0) (wNil))) (wVar 1))))) (wRet (wOp oMul (wOp oMul (wOp oIx (wOp oIx (wVar 0) (wVar 1)) (wC (.int 2))) (wVar 3)) (wOp oIx (wCall fs_count_visits [] (wCons (wVar 0) (wNil))) (wOp oAdd (wVar 1) (wC (.int 1)))))))))
theorem fv_removal_loss : FnV fs_removal_loss 4 w_removal_loss := by
  rintro io ds Q X ⟨rfl, l, i, n, c, rfl, h, hl, hi, q⟩
  have hil : i < l.length := (List.getElem?_eq_some_iff.mp hi).1
  show w_removal_loss [.sh (.list (sc l)), .sh (.int (i : Int)), .no, .no] _ _
  simp [w_removal_loss]
  refine ⟨rfl, l, rfl, h, hl, ?_⟩
  simp
  refine ⟨rfl, l, i, n, c, rfl, hi, ?_⟩
  simp
  refine ⟨rfl, l, rfl, h, hl, ?_⟩
  have t1 := fun k => ix_lnE (k := k) (run_at (l := l) (i := i) (by omega))
  simp [t1]
  refine ⟨rfl, l, rfl, h, hl, fun ps hSS => ?_⟩
  obtain ⟨j, j1, j2, j3⟩ := hSS i n c hi
  have t2 := fun k => ix_lnE (k := k) (run_at (l := l) (i := j + 1) (by omega))
  rw [Int.natCast_add] at t2
  have t2' := t2
  simp at t2'
  have ht := mark_time (p := p0) h j2 i j1 (by omega)
  obtain ⟨m1, m2⟩ := gain_mul h hl (p := i) (i := i + 1) (by omega) (n := n) (c := c) (ok_count h hi)
  rw [ht] at m1 m2 q
  simp [ev_ixd, j3, t2', ix_lnE (sc_get hi), It.d, m1]
  refine ⟨rfl, l, rfl, h, hl, ?_⟩
  have t3 := fun k => ix_lnE (k := k) (visL_at (l := l) (i := i + 1) (by omega))
  rw [Int.natCast_add] at t3
  have t3' := t3
  simp at t3'
  simp [t3', m2]
  exact q
end SC

set_option Elab.async false
set_option linter.all false
set_option maxRecDepth 100000
/-! VSc10: the laws' own starts and times; scores shown. -/
namespace SC
open PySem L2 VL

/-! ### _law_start -/
def rngF : Nat → Nat → List D
  | _, 0 => []
  | n, m + 1 => .int (n : Int) :: rngF (n + 1) m
theorem rngF_eq : ∀ (m n : Nat), rngF n m = rangeD (n : Int) m
  | 0, n => rfl
  | m + 1, n => by
    rw [rngF, rngF_eq m (n + 1)]
    unfold rangeD
    rw [List.range_succ_eq_map, List.map_cons, List.map_map]
    simp
    intro a _
    omega
def fs_law_start : FS := fun io ds Q _ => io = none ∧ ∃ (l : List It) (i j : Nat) (n : Str) (c : Int), ds = [.list (sc l), .int (i : Int)] ∧ ok [] l ∧ l.length ≤ 1000 ∧ l[i]? = some (.rep n c) ∧ l[j]? = some (.mark n) ∧ j < i ∧ Q (.sh (.int ((j : Int) + 1))) none
def w_law_start : WS := wRet (wOp oAdd (wOp oIx (wLc [2] (wiR1 (wCons (wVar 1) (wNil))) (wgName 2) (wT (wOp oEq (wOp oIx (wVar 0) (wVar 2)) (wTup (wCons (wC (.str "mark")) (wCons (wOp oIx (wOp oIx (wVar 0) (wVar 1)) (wC (.int 1))) (wNil)))))) (wVar 2)) (wC (.int 0))) (wC (.int 1)))
theorem lc_start (L : List It) (hok : ok [] L) (i : Nat) (hi : i ≤ 1000) (nm : Str) (c : Int) (hr : L[i]? = some (.rep nm c)) (k : List D → Ev → Prop) : ∀ (m n : Nat) (acc : List D), n + m = i → acc.length ≤ n → k (acc ++ (idxM nm n ((L.take i).drop n)).map .int) [.sh (.list (sc L)), .sh (.int (i : Int)), .no] →
    lcW [2] (wgName 2) (wT (wOp oEq (wOp oIx (wVar 0) (wVar 2)) (wTup (wCons (wC (.str "mark")) (wCons (wOp oIx (wOp oIx (wVar 0) (wVar 1)) (wC (.int 1))) (wNil)))))) (wVar 2) k (rngF n m) acc [.sh (.list (sc L)), .sh (.int (i : Int)), .no]
  | 0, n, acc, hn, _, q => by
    have : (L.take i).drop n = [] := List.drop_eq_nil_of_le (by rw [List.length_take]; omega)
    rw [this] at q
    simpa [lcW, rngF, idxM] using q
  | m + 1, n, acc, hn, hl, q => by
    have hil : i < L.length := (List.getElem?_eq_some_iff.mp hr).1
    have hnl : n < L.length := by omega
    have hit : L[n]? = some L[n] := List.getElem?_eq_getElem hnl
    have edr : (L.take i).drop n = L[n] :: (L.take i).drop (n + 1) := by
      have h1 : n < (L.take i).length := by rw [List.length_take]; omega
      rw [List.drop_eq_getElem_cons h1, List.getElem_take]
    have hz : acc.length < sizeLine := small (by omega)
    have hfi := shaped_item (ok_fine hok hit)
    have hp := sh_pair (show PyData.strOk nm = true from ok_fine hok hr)
    rw [edr, idxM] at q
    rw [rngF, lcW]
    cases e : isMark L[n] nm with
    | false =>
      rw [e, if_neg Bool.false_ne_true] at q
      simp [ix_lnE (sc_get hit), ix_lnE (sc_get hr), show (It.rep nm c).d = .tuple [.str "repeat", .str nm, .int c] from rfl, hfi, hp, eqv_mark, e, wipeE]
      exact lc_start L hok i hi nm c hr k m (n + 1) acc (by omega) (by omega) q
    | true =>
      rw [e, if_pos rfl] at q
      simp [ix_lnE (sc_get hit), ix_lnE (sc_get hr), show (It.rep nm c).d = .tuple [.str "repeat", .str nm, .int c] from rfl, hfi, hp, eqv_mark, e, wipeE]
      exact ⟨hz, lc_start L hok i hi nm c hr k m (n + 1) _ (by omega) (by simp; omega) (by simpa using q)⟩
theorem fv_law_start : FnV fs_law_start 3 w_law_start := by
  rintro io ds Q X ⟨rfl, l, i, j, n, c, rfl, h, hl, hi, hj, hji, q⟩
  have hil : i < l.length := (List.getElem?_eq_some_iff.mp hi).1
  show w_law_start [.sh (.list (sc l)), .sh (.int (i : Int)), .no] _ _
  simp [w_law_start, ev_wLc]
  have e : rangeD 0 i = rngF 0 i := (rngF_eq i 0).symm
  rw [e]
  simp [wipeE]
  refine ⟨by omega, ⟨trivial, trivial⟩, lc_start l h i (by omega) n c hi _ i 0 [] (by omega) (Nat.le_refl _) ?_⟩
  rw [List.drop_zero, idxM_one n (l.take i) 0 j (by rw [List.getElem?_take_of_lt hji]; exact hj) fun x hx => by
      rw [List.getElem?_take] at hx
      split at hx
      · exact ok_uniq h hx hj
      · cases hx]
  simp
  exact q
/-! ### _law_times -/
def fs_law_times : FS := fs_arrival_times
def w_law_times : WS := wSeq (wSet 1 (wLst (wCons (wC (.int 0)) (wNil)))) (wSeq (wFor (wiA enumD (wCons (wVar 0) (wNil))) (wgTup 2 (wgCons (wgName 2) (wgCons (wgName 3) (wgNil)))) (wSeq (wSet 4 (wCB (o1 oInt) (wCons (wOp oEq (wOp oIx (wVar 3) (wC (.int 0))) (wC (.str "bar"))) (wNil)))) (wSeq (wIfS (wT (wOp oEq (wOp oIx (wVar 3) (wC (.int 0))) (wC (.str "repeat")))) (wSet 4 (wOp oMul (wOp oIx (wVar 3) (wC (.int 2))) (wOp (oII (fun _ _ => True) (· - ·)) (wOp oIx (wVar 1) (wVar 2)) (wOp oIx (wVar 1) (wCall fs_law_start [] (wCons (wVar 0) (wCons (wVar 2) (wNil)))))))) (wNext)) (wDrop (wMut 1 fAppend (wCons (wOp oAdd (wOp oIx (wVar 1) (wVar 2)) (wVar 4)) wNil)))))) (wRet (wVar 1)))
theorem loop_ltimes (L : List It) (hok : ok [] L) (hlen : L.length ≤ 1000) (Dn : WD) (X : XW) : ∀ (l : List It) (n : Nat) (a b c : Sl), L.drop n = l → n ≤ L.length →
    (∀ a b c : Sl, Dn.nx [.sh (.list (sc L)), .ow (.list ((run p0 L).map .int)), a, b, c]) →
    loopW (wgTup 2 (wgCons (wgName 2) (wgCons (wgName 3) (wgNil)))) (wSeq (wSet 4 (wCB (o1 oInt) (wCons (wOp oEq (wOp oIx (wVar 3) (wC (.int 0))) (wC (.str "bar"))) (wNil)))) (wSeq (wIfS (wT (wOp oEq (wOp oIx (wVar 3) (wC (.int 0))) (wC (.str "repeat")))) (wSet 4 (wOp oMul (wOp oIx (wVar 3) (wC (.int 2))) (wOp (oII (fun _ _ => True) (· - ·)) (wOp oIx (wVar 1) (wVar 2)) (wOp oIx (wVar 1) (wCall fs_law_start [] (wCons (wVar 0) (wCons (wVar 2) (wNil)))))))) (wNext)) (wDrop (wMut 1 fAppend (wCons (wOp oAdd (wOp oIx (wVar 1) (wVar 2)) (wVar 4)) wNil)))))
      Dn X (enumF n (sc l)) [.sh (.list (sc L)), .ow (.list (((run p0 L).take (n + 1)).map .int)), a, b, c]
  | [], n, a, b, c, hd, hn, q => by
    have : L.length ≤ n := by simpa using hd
    have e : (run p0 L).take (n + 1) = run p0 L := List.take_of_length_le (by rw [run_length]; omega)
    rw [e]
    exact q a b c
  | it :: l, n, a, b, c, hd, hn, q => by
    have hit : L[n]? = some it := by
      have := congrArg (·[0]?) hd
      simpa using this
    have hd2 : L.drop (n + 1) = l := by
      have := congrArg (List.drop 1) hd
      simpa [Nat.add_comm] using this
    have hnl : n < L.length := (List.getElem?_eq_some_iff.mp hit).1
    have hat : (((run p0 L).take (n + 1)).map PyData.int)[n]? = some (.int (st p0 (L.take n)).2) := by rw [List.getElem?_map, List.getElem?_take_of_lt (by omega), run_get L p0 n (by omega)]; rfl
    have hz : (((run p0 L).take (n + 1)).map PyData.int).length < sizeLine := by
      rw [List.length_map, List.length_take]
      exact small (by omega)
    have nx := fun a b c => loop_ltimes L hok hlen Dn X l (n + 1) a b c hd2 (by omega) q
    rw [take_run_succ hit, List.map_append] at nx
    have hts : ∀ nm c, it = .rep nm c → ∃ j : Nat, j < n ∧ L[j]? = some (.mark nm) ∧ (((run p0 L).take (n + 1)).map PyData.int)[j + 1]? = some (.int ((st p0 (L.take n)).1 nm)) ∧ CMulW c ((st p0 (L.take n)).2 - (st p0 (L.take n)).1 nm) := by
      rintro nm c rfl
      rcases ok_mark hok hit with z | ⟨j, j1, j2⟩
      · cases z
      · refine ⟨j, j1, j2, ?_, (gain_mul hok hlen (i := 0) (by omega) (ok_count hok hit)).1⟩
        rw [List.getElem?_map, List.getElem?_take_of_lt (by omega), run_get L p0 (j + 1) (by omega), ← mark_time hok j2 n j1 (by omega)]
        rfl
    rw [List.map_cons, List.map_nil] at nx
    generalize ((run p0 L).take (n + 1)).map PyData.int = B at *
    rw [show sc (it :: l) = it.d :: sc l from rfl, enumF, ev_loop_cons]
    cases it with
    | bar nm =>
      simp [It.d, sh_bar, sh_rep, eqv_str, br, bb, ix_lnE hat]
      exact ⟨hz, nx _ _ _⟩
    | mark nm =>
      simp [It.d, sh_bar, sh_mark, sh_rep, eqv_str, mr, mb, ix_lnE hat]
      have := nx (.sh (.int (n : Int))) (.sh (It.mark nm).d) (.sh (.int 0))
      simp [stp, It.d] at this
      exact ⟨hz, this⟩
    | rep nm c =>
      obtain ⟨j, j1, j2, ht, hm⟩ := hts nm c rfl
      have ht2 := fun k => ix_lnE (k := k) ht
      rw [Int.natCast_add] at ht2
      have ht3 := ht2
      simp at ht3
      simp [It.d, sh_bar, sh_rep, eqv_str, rr, rb, ix_lnE hat]
      refine ⟨rfl, L, n, j, nm, c, rfl, hok, hlen, hit, j2, j1, ?_⟩
      simp [ht3, hm, ix_lnE hat]
      exact ⟨hz, nx _ _ _⟩
theorem fv_law_times : FnV fs_law_times 5 w_law_times := by
  rintro io ds Q X ⟨rfl, l, rfl, h, hl, q⟩
  show w_law_times [.sh (.list (sc l)), .no, .no, .no, .no] _ _
  simp [w_law_times, ev_wFor, enumD_eq]
  have e : [PyData.int 0] = ((run p0 l).take (0 + 1)).map .int := by cases l <;> rfl
  rw [e]
  exact loop_ltimes l h hl _ _ l 0 .no .no .no rfl (by omega) fun a b c => by simp; exact q
/-! ### _law_integer -/
def fs_law_integer : FS := fun io ds Q _ => io = none ∧ ∃ a b : Int, ds = [.int a, .int b] ∧ Q (.sh (.bool (a == b))) none
def w_law_integer : WS := wRet (wAndV (wIsi "int" (wVar 0)) (wAndV (wNotV (wIsi "bool" (wVar 0))) (wOp oEq (wVar 0) (wVar 1))))
theorem fv_law_integer : FnV fs_law_integer 2 w_law_integer := by
  rintro io ds Q X ⟨rfl, a, b, rfl, q⟩
  show w_law_integer [.sh (.int a), .sh (.int b)] _ _
  simp [w_law_integer, isT, shaped_int, eqv_int]
  exact q
end SC

set_option Elab.async false
set_option linter.all false
set_option maxRecDepth 100000
/-! VSc11: law k43's own defs. -/
namespace SC
open PySem L2 VL

def namesM : List It → List Str
  | [] => []
  | .mark n :: r => n :: namesM r
  | .bar _ :: r => namesM r
  | .rep _ _ :: r => namesM r
theorem namesM_mem : ∀ {r : List It} {n : Str}, n ∈ namesM r → ∃ j : Nat, r[j]? = some (.mark n)
  | [], _, h => by cases h
  | .mark m :: r, n, h => by
    rcases List.mem_cons.mp h with rfl | h
    · exact ⟨0, rfl⟩
    · obtain ⟨j, hj⟩ := namesM_mem h
      exact ⟨j + 1, by simpa using hj⟩
  | .bar m :: r, n, h => by
    obtain ⟨j, hj⟩ := namesM_mem (r := r) h
    exact ⟨j + 1, by simpa using hj⟩
  | .rep m c :: r, n, h => by
    obtain ⟨j, hj⟩ := namesM_mem (r := r) h
    exact ⟨j + 1, by simpa using hj⟩
theorem namesM_len : ∀ r : List It, (namesM r).length ≤ r.length
  | [] => Nat.le_refl _
  | .mark m :: r => by have := namesM_len r; simp [namesM]; omega
  | .bar m :: r => by have := namesM_len r; simp [namesM]; omega
  | .rep m c :: r => by have := namesM_len r; simp [namesM]; omega
theorem lc_names (s0 s1 s2 : Sl) (k : List D → Ev → Prop) : ∀ (r : List It) (acc : List D), acc.length + r.length ≤ 1000 → k (acc ++ (namesM r).map .str) [s0, s1, s2, .no, .no, .no, .no, .no, .no] →
    lcW [8] (wgName 8) (wT (wOp oEq (wOp oIx (wVar 8) (wC (.int 0))) (wC (.str "mark")))) (wOp oIx (wVar 8) (wC (.int 1))) k (sc r) acc [s0, s1, s2, .no, .no, .no, .no, .no, .no]
  | [], acc, _, q => by simpa [lcW, sc, namesM] using q
  | it :: r, acc, hl, q => by
    rw [List.length_cons] at hl
    have hz : acc.length < sizeLine := small (by omega)
    rw [show sc (it :: r) = it.d :: sc r from rfl, lcW]
    cases it with
    | bar n =>
      simp [It.d, sh_bar, sh_mark, eqv_str, bm, wipeE]
      exact lc_names s0 s1 s2 k r acc (by omega) q
    | mark n =>
      simp [It.d, sh_mark, eqv_str, mm, wipeE]
      exact ⟨hz, lc_names s0 s1 s2 k r _ (by simp; omega) (by simpa [namesM] using q)⟩
    | rep n c =>
      simp [It.d, sh_rep, sh_mark, eqv_str, rm, wipeE]
      exact lc_names s0 s1 s2 k r acc (by omega) q
theorem ok_name {l : List It} (h : ok [] l) : ∀ {j : Nat} {n : Str}, l[j]? = some (.mark n) → nameB n = true := by
  have : ∀ (l : List It) (ms : List Str) (j : Nat) (n : Str), ok ms l → l[j]? = some (.mark n) → nameB n = true := by
    intro l
    induction l with
    | nil => intro ms j n _ e; simp at e
    | cons it l ih =>
      intro ms j n h e
      cases j with
      | zero =>
        have : it = .mark n := by simpa using e
        subst this
        exact h.1
      | succ j =>
        have e : l[j]? = some (.mark n) := by simpa using e
        cases it with
        | bar m => exact ih _ j n h.2 e
        | mark m => exact ih _ j n h.2.2 e
        | rep m c => exact ih _ j n h.2.2.2 e
  exact fun {j n} e => this l [] j n h e
theorem three {r : Int} (h0 : 0 ≤ r) (h : r < 3) : r = 0 ∨ r = 1 ∨ r = 2 := by omega
theorem sc_ins {l : List It} (p : Nat) (n : Str) (c : Int) : sc (l.take p) ++ .tuple [.str "repeat", .str n, .int c] :: sc (l.drop p) = sc (ins l p n c) := by
  simp [sc, ins, It.d]
theorem ins_len {l : List It} {p : Nat} (hp : p ≤ l.length) (n : Str) (c : Int) : (ins l p n c).length = l.length + 1 := by
  unfold ins
  rw [List.length_append, List.length_cons, List.length_take, List.length_drop]
  omega
def fs_law_gain_right : FS := fun io ds Q _ => ∃ (n : Nat) (d : D) (l : List It), io = some (.io d) ∧ StrOk n d ∧ n ≤ 100000 ∧ ds = [.list (sc l)] ∧ ok [] l ∧ l.length ≤ 900 ∧ ∀ d', StrOk (n + 10) d' → Q (.sh (.bool true)) (some (.io d'))
def w_law_gain_right : WS := wSeq (wSet 2 (wCallIo fs_law_draw 0 [] (wCons (wOp oAdd (wCB (o1 oLen) (wCons (wVar 1) (wNil))) (wC (.int 1))) (wNil)))) (wSeq (wSet 3 (wLc [8] (wiL (wSlL (wVar 1) (wNoP) (wPart (wVar 2)))) (wgName 8) (wT (wOp oEq (wOp oIx (wVar 8) (wC (.int 0))) (wC (.str "mark")))) (wOp oIx (wVar 8) (wC (.int 1))))) (wSeq (wIfS (wT (wOp oEq (wVar 3) (wLst (wNil)))) (wRet (wC (.bool true))) (wNext)) (wSeq (wSet 4 (wOp oIx (wVar 3) (wCallIo fs_law_draw 0 [] (wCons (wCB (o1 oLen) (wCons (wVar 3) (wNil))) (wNil))))) (wSeq (wSet 5 (wOp oIx (wLst (wCons (wC (.int 1)) (wCons (wOp oAdd (wC (.int 1)) (wCallIo fs_law_draw 0 [] (wCons (wC (.int 5)) (wNil)))) (wCons (wOp oAdd (wC (.int 1)) (wCallIo fs_law_draw 0 [] (wCons (wOp (oII (fun _ _ => True) (· - ·)) (wOp (oII CPowW fun i j => i ^ j.toNat) (wC (.int 10)) (wC (.int 9))) (wC (.int 1))) (wNil)))) (wNil))))) (wCallIo fs_law_draw 0 [] (wCons (wC (.int 3)) (wNil))))) (wSeq (wSet 6 (wOp oAdd (wOp oAdd (wSlL (wVar 1) (wNoP) (wPart (wVar 2))) (wLst (wCons (wTup (wCons (wC (.str "repeat")) (wCons (wVar 4) (wCons (wVar 5) (wNil))))) (wNil)))) (wSlL (wVar 1) (wPart (wVar 2)) (wNoP)))) (wSeq (wSet 7 (wOp (oII (fun _ _ => True) (· - ·)) (wOp oIx (wCall fs_law_times [] (wCons (wVar 6) (wNil))) (wUn (fun a k => isI a fun i => k (.sh (.int (-i)))) (wC (.int 1)))) (wOp oIx (wCall fs_law_times [] (wCons (wVar 1) (wNil))) (wUn (fun a k => isI a fun i => k (.sh (.int (-i)))) (wC (.int 1)))))) (wSeq (wIfS (wT (wOp oNe (wCallKw fs_insertion_gain [3, 2, 1, 0] 4 (wCons (wVar 5) (wCons (wVar 4) (wCons (wVar 2) (wCons (wVar 1) (wNil)))))) (wVar 7))) (wRet (wC (.bool false))) (wNext)) (wRet (wCall fs_law_integer [] (wCons (wCall fs_insertion_gain [] (wCons (wVar 1) (wCons (wVar 2) (wCons (wVar 4) (wCons (wVar 5) (wNil)))))) (wCons (wVar 7) (wNil))))))))))))
@[simp ↓] theorem ev_wCallKw (fs : FS) (is : List Nat) (m : Nat) (wa : WA) (Γ : Ev) (Q : R → Ev → Prop) (X : XW) : wCallKw fs is m wa Γ Q X = wa Γ (fun rs Γ1 => frAll rs Γ1 fun ds Γ2 => ds.length = m ∧ fs none (reord is ds) (fun r _ => Q r Γ2) fun x _ => X x Γ2) X := rfl
theorem fv_law_gain_right : FnV fs_law_gain_right 9 w_law_gain_right := by
  rintro io ds Q X ⟨n, d, l, rfl, hs, hn, rfl, h, hl, q⟩
  show w_law_gain_right [.io d, .sh (.list (sc l)), .no, .no, .no, .no, .no, .no, .no] _ _
  simp [w_law_gain_right, sc_length]
  refine drw hs (by omega) (by omega) (by omega) fun r d1 r0 r1 s1 => ?_
  obtain ⟨p, rfl⟩ : ∃ p : Nat, r = (p : Int) := ⟨r.toNat, by omega⟩
  have hp : p ≤ l.length := by omega
  simp [ev_wLc, cut_take (show p ≤ (sc l).length by rw [sc_length]; exact hp), cut_drop (show p ≤ (sc l).length by rw [sc_length]; exact hp), sc_take, sc_drop, okW, wipeE]
  refine lc_names _ _ _ _ (l.take p) [] (by simp; omega) ?_
  have hnames : ∀ m ∈ namesM (l.take p), ∃ j, j < p ∧ l[j]? = some (.mark m) := fun m hm => by
    obtain ⟨j, hj⟩ := namesM_mem hm
    rw [List.getElem?_take] at hj
    split at hj
    · exact ⟨j, by assumption, hj⟩
    · cases hj
  have sh1 := shaped_strs (ys := namesM (l.take p)) fun m hm => by
    obtain ⟨j, _, hj⟩ := hnames m hm
    exact name_strOk (ok_name h hj)
  have hlen := namesM_len (l.take p)
  rw [List.length_take] at hlen
  simp [restE, sh1, sh_nil, eqv_nil]
  by_cases hy0 : namesM (l.take p) = []
  · simp [hy0]
    exact q _ (s1.mono (by omega))
  · simp [hy0]
    have hl0 := List.length_pos_iff.mpr hy0
    refine drw s1 (by omega) (by omega) (by omega) fun r d2 r0 r1 s2 => ?_
    simp
    refine pick r0 (by simpa using r1) fun z hz => ?_
    obtain ⟨own, hom, rfl⟩ := List.mem_map.mp hz
    obtain ⟨j, hjp, hj⟩ := hnames own hom
    simp
    refine drw s2 (by omega) (by decide) (by decide) fun r5 d3 r50 r51 s3 => ?_
    have t9 : CPowW 10 9 := pow10 9 (by decide) (by decide)
    simp [t9]
    refine drw s3 (by omega) (by decide) (by decide) fun r9 d4 r90 r91 s4 => ?_
    simp
    refine drw s4 (by omega) (by decide) (by decide) fun r3 d5 r30 r31 s5 => ?_
    simp
    refine pick r30 (by simpa using r31) fun y hy => ?_
    obtain ⟨c, rfl, c1, c2⟩ : ∃ j : Int, y = .int j ∧ 1 ≤ j ∧ j < 2 ^ 31 := by
      simp at hy
      rcases hy with rfl | rfl | rfl
      · exact ⟨_, rfl, by decide, by decide⟩
      · exact ⟨_, rfl, by omega, by omega⟩
      · exact ⟨_, rfl, by omega, by omega⟩
    have hins := ok_ins h (ok_name h hj) hj hjp ⟨c1, c2⟩
    have hil := ins_len hp own c
    have z1 : (sc (l.take p)).length + 1 ≤ sizeLine := smallE (by rw [sc_length, List.length_take]; omega)
    have z2 : (sc (l.take p)).length + 1 + (sc (l.drop p)).length ≤ sizeLine := smallE (by rw [sc_length, sc_length, List.length_take, List.length_drop]; omega)
    have egain := total_ins h p own c
    simp [z1, z2, sc_ins, cut_take (show p ≤ (sc l).length by rw [sc_length]; exact hp), cut_drop (show p ≤ (sc l).length by rw [sc_length]; exact hp), sc_take, sc_drop]
    refine ⟨rfl, ins l p own c, rfl, hins, by omega, ?_⟩
    simp [ix_lastE (run_last _)]
    refine ⟨rfl, l, rfl, h, by omega, ?_⟩
    have e0 : total (ins l p own c) - total l = gain l p own c := by omega
    simp [ix_lastE (run_last _), reord, e0]
    refine ⟨rfl, l, p, j, own, c, rfl, h, by omega, hp, hj, hjp, c1, c2, ?_⟩
    simp [shaped_int, eqv_int]
    refine ⟨rfl, l, p, j, own, c, rfl, h, by omega, hp, hj, hjp, c1, c2, ?_⟩
    simp
    refine ⟨rfl, _, _, rfl, ?_⟩
    simp
    exact q _ (s5.mono (by omega))
end SC

set_option Elab.async false
set_option linter.all false
set_option maxRecDepth 100000
/-! VSc12: scores shown by repr; losses. -/
namespace SC
open PySem L2 VL

theorem b1 : PyData.strOk "bar" = true := by decide +kernel
theorem b2 : PyData.strOk "mark" = true := by decide +kernel
theorem b3 : PyData.strOk "repeat" = true := by decide +kernel
theorem s1 : ("bar" : Str).cps.size = 3 := by decide +kernel
theorem s2 : ("mark" : Str).cps.size = 4 := by decide +kernel
theorem s3 : ("repeat" : Str).cps.size = 6 := by decide +kernel
/-- what an item is to repr -/
def It.shows : It → Prop
  | .bar n => nameB n = true
  | .mark n => nameB n = true
  | .rep n c => nameB n = true ∧ 1 ≤ c ∧ c < 2 ^ 31
theorem ok_shows : ∀ {l : List It} {ms : List Str}, ok ms l → ∀ it ∈ l, it.shows
  | [], _, _, _, h => nomatch h
  | x :: l, ms, h, it, hit => by
    rcases List.mem_cons.mp hit with rfl | hm
    · cases it with
      | bar n => exact h.1
      | mark n => exact h.1
      | rep n c => exact ⟨h.1, h.2.2.1⟩
    · cases x with
      | bar n => exact ok_shows h.2 it hm
      | mark n => exact ok_shows h.2.2 it hm
      | rep n c => exact ok_shows h.2.2.2 it hm
theorem name_size {n : Str} (h : nameB n = true) : n.cps.size ≤ 8 := by
  unfold nameB at h
  rw [Bool.and_eq_true, Bool.and_eq_true] at h
  have := of_decide_eq_true h.1.2
  exact this
theorem item_facts {it : It} (h : it.shows) : it.d.canLay0 = true ∧ it.d.depth ≤ 1 ∧ it.d.weight ≤ 60 ∧ it.d.intsShort 13 = true ∧ it.d.showable = true := by
  cases it with
  | bar n =>
    have hn := name_strOk h
    have hs := name_size h
    refine ⟨?_, ?_, ?_, ?_, ?_⟩
    · simp [It.d, PyData.canLay0, PyData.canLayAll0, hn, b1]
    · simp [It.d, PyData.depth, PyData.depthAll]
    · simp [It.d, PyData.weight, PyData.weightAll, s1]; omega
    · simp [It.d, PyData.intsShort, PyData.intsShortAll]
    · simp [It.d, PyData.showable, PyData.showableAll]
  | mark n =>
    have hn := name_strOk h
    have hs := name_size h
    refine ⟨?_, ?_, ?_, ?_, ?_⟩
    · simp [It.d, PyData.canLay0, PyData.canLayAll0, hn, b2]
    · simp [It.d, PyData.depth, PyData.depthAll]
    · simp [It.d, PyData.weight, PyData.weightAll, s2]; omega
    · simp [It.d, PyData.intsShort, PyData.intsShortAll]
    · simp [It.d, PyData.showable, PyData.showableAll]
  | rep n c =>
    obtain ⟨h, c1, c2⟩ := h
    have hn := name_strOk h
    have hs := name_size h
    have hi : (PyData.shown (.int c)).length ≤ 13 := PyData.shown_int_le (by omega)
    have hl : c.natAbs.log2 < 64 := PySem.Flt.log2_lt_of (by decide) (by omega)
    refine ⟨?_, ?_, ?_, ?_, ?_⟩
    · simp [It.d, PyData.canLay0, PyData.canLayAll0, hn, b3]
    · simp [It.d, PyData.depth, PyData.depthAll]
    · have hl2 : c.natAbs.log2 < 32 := PySem.Flt.log2_lt_of (by decide) (by omega)
      have : (if (c == 0) = true then 0 else c.natAbs.log2 + 1) ≤ 33 := by split <;> omega
      simp only [It.d, PyData.weight, PyData.weightAll, s3]; omega
    · simp [It.d, PyData.intsShort, PyData.intsShortAll, hi]
    · simp [It.d, PyData.showable, PyData.showableAll]; omega
theorem all_facts : ∀ {l : List It}, (∀ it ∈ l, it.shows) → PyData.canLayAll0 (sc l) = true ∧ PyData.depthAll (sc l) ≤ 1 ∧ PyData.weightAll (sc l) ≤ 61 * l.length ∧ PyData.intsShortAll 13 (sc l) = true ∧ PyData.showableAll (sc l) = true
  | [], _ => by simp [sc, PyData.canLayAll0, PyData.depthAll, PyData.weightAll, PyData.intsShortAll, PyData.showableAll]
  | it :: l, h => by
    obtain ⟨a1, a2, a3, a4, a5⟩ := item_facts (h it List.mem_cons_self)
    obtain ⟨i1, i2, i3, i4, i5⟩ := all_facts (l := l) fun x hx => h x (List.mem_cons_of_mem _ hx)
    rw [show sc (it :: l) = it.d :: sc l from rfl]
    refine ⟨?_, ?_, ?_, ?_, ?_⟩
    · simp [PyData.canLayAll0, a1, i1]
    · simp only [PyData.depthAll]; omega
    · simp only [PyData.weightAll, List.length_cons]; omega
    · simp [PyData.intsShortAll, a4, i4]
    · simp [PyData.showableAll, a5, i5]
theorem score_shown {l : List It} (h : ok [] l) (hl : l.length ≤ 10000) : SeqAt.shaped (.list (sc l)) = true ∧ PyData.showable (.list (sc l)) = true ∧ (PyData.shown (.list (sc l))).length ≤ sizeLine := by
  obtain ⟨i1, i2, i3, i4, i5⟩ := all_facts (ok_shows h)
  have c : PyData.canLay0 (.list (sc l)) = true := by simp [PyData.canLay0, i1]
  have dp : PyData.depth (.list (sc l)) ≤ 64 := by simp only [PyData.depth]; omega
  have w : PyData.weight (.list (sc l)) ≤ 2 ^ 20 := by simp only [PyData.weight]; omega
  have lay : PyData.layable0 (.list (sc l)) = true := by
    unfold PyData.layable0
    rw [c]
    simp [dp, w]
  refine ⟨by unfold SeqAt.shaped; rw [c]; simp [dp], by simp [PyData.showable, i5], ?_⟩
  have := PyData.shown_le_of_layable0 lay (by simp [PyData.intsShort, i4])
  rw [sizeLine_eq]
  omega
/-- a score without an item -/
def del (l : List It) (i : Nat) : List It := l.take i ++ l.drop (i + 1)
theorem ins_del {l : List It} {i : Nat} {n : Str} {c : Int} (h : l[i]? = some (.rep n c)) : ins (del l i) i n c = l := by
  have hi : i < l.length := (List.getElem?_eq_some_iff.mp h).1
  have ht : (l.take i).length = i := by rw [List.length_take]; omega
  unfold ins del
  rw [List.take_left' ht, List.drop_left' ht]
  have : l.drop i = .rep n c :: l.drop (i + 1) := by
    rw [List.drop_eq_getElem_cons hi]
    congr 1
    rw [List.getElem?_eq_getElem hi] at h
    exact Option.some.inj h
  rw [← this, List.take_append_drop]
theorem ok_del {l : List It} (h : ok [] l) {i : Nat} {n : Str} {c : Int} (e : l[i]? = some (.rep n c)) : ok [] (del l i) := by
  have hi : i < l.length := (List.getElem?_eq_some_iff.mp e).1
  have hd : l.drop i = .rep n c :: l.drop (i + 1) := by
    rw [List.drop_eq_getElem_cons hi]
    congr 1
    rw [List.getElem?_eq_getElem hi] at e
    exact Option.some.inj e
  obtain ⟨h1, h2⟩ := (ok_app (l.take i) (l.drop i) []).mp (by rw [List.take_append_drop]; exact h)
  rw [hd] at h2
  exact (ok_app _ _ _).mpr ⟨h1, h2.2.2.2⟩
theorem loss_del {l : List It} (h : ok [] l) {i : Nat} {n : Str} {c : Int} (e : l[i]? = some (.rep n c)) : c * ((st p0 (l.take i)).2 - (st p0 (l.take i)).1 n) * (vis (l.drop (i + 1))).1 = total l - total (del l i) := by
  have hi : i < l.length := (List.getElem?_eq_some_iff.mp e).1
  have ht : (l.take i).length = i := by rw [List.length_take]; omega
  have := total_ins (ok_del h e) i n c
  rw [ins_del e] at this
  have g : gain (del l i) i n c = c * ((st p0 (l.take i)).2 - (st p0 (l.take i)).1 n) * (vis (l.drop (i + 1))).1 := by
    unfold gain del
    rw [List.take_left' ht, List.drop_left' ht]
  omega
end SC

set_option Elab.async false
set_option linter.all false
set_option maxRecDepth 100000
/-! VSm1: visits told as sums over the repeats whose segment holds a place. -/
namespace SC
open PySem L2 VL
def sumR (n : Nat) (f : Nat → Int) : Int := ((List.range n).map f).sum
theorem sumR_succ (n : Nat) (f : Nat → Int) : sumR (n + 1) f = sumR n f + f n := by
  simp [sumR, List.range_succ]
theorem sumR_congr {f g : Nat → Int} : ∀ {n : Nat}, (∀ j, j < n → f j = g j) → sumR n f = sumR n g
  | 0, _ => rfl
  | n + 1, h => by rw [sumR_succ, sumR_succ, sumR_congr fun j hj => h j (by omega), h n (by omega)]
theorem sumR_add (f g : Nat → Int) : ∀ n : Nat, sumR n (fun j => f j + g j) = sumR n f + sumR n g
  | 0 => rfl
  | n + 1 => by rw [sumR_succ, sumR_succ, sumR_succ, sumR_add f g n]; omega
theorem sumR_zero : ∀ n : Nat, sumR n (fun _ => 0) = 0
  | 0 => rfl
  | n + 1 => by rw [sumR_succ, sumR_zero n]; rfl
theorem sumR_one (p : Nat) (v : Int) : ∀ n : Nat, sumR n (fun j => if j = p then v else 0) = if p < n then v else 0
  | 0 => by simp [sumR]
  | n + 1 => by
    rw [sumR_succ, sumR_one p v n]
    by_cases h : n = p
    · subst h; simp
    · rw [if_neg h]
      by_cases h2 : p < n
      · rw [if_pos h2, if_pos (by omega)]; omega
      · rw [if_neg h2, if_neg (by omega)]; omega
/-- what stands at a place -/
def isRep (L : List It) (j : Nat) : Bool := match L[j]? with
  | some (.rep _ _) => true
  | _ => false
def cof (L : List It) (j : Nat) : Int := match L[j]? with
  | some (.rep _ c) => c
  | _ => 0
def rnm (L : List It) (j : Nat) : Option Str := match L[j]? with
  | some (.rep n _) => some n
  | _ => none
def stt (L : List It) (j : Nat) : Nat := match L[j]? with
  | some (.rep n _) => L.findIdx (isMark · n) + 1
  | _ => 0
theorem stt_eq {L : List It} (h : ok [] L) {i j : Nat} {n : Str} {c : Int} (hi : L[i]? = some (.rep n c)) (hj : L[j]? = some (.mark n)) : stt L i = j + 1 := by
  unfold stt
  rw [hi]
  dsimp only
  congr 1
  have hjl : j < L.length := (List.getElem?_eq_some_iff.mp hj).1
  have hj' : L[j] = .mark n := by rw [List.getElem?_eq_getElem hjl] at hj; exact Option.some.inj hj
  have h1 : L.findIdx (isMark · n) < L.length := List.findIdx_lt_length_of_exists ⟨L[j], List.getElem_mem hjl, (isMark_iff _ _).mpr hj'⟩
  have h2 := List.findIdx_getElem (w := h1)
  exact ok_uniq h (by rw [List.getElem?_eq_getElem h1, (isMark_iff _ _).mp h2]) hj
theorem stt_le {L : List It} (h : ok [] L) {i : Nat} {n : Str} {c : Int} (hi : L[i]? = some (.rep n c)) : ∃ j, j < i ∧ L[j]? = some (.mark n) ∧ stt L i = j + 1 := by
  rcases ok_mark h hi with z | ⟨j, h1, h2⟩
  · cases z
  · exact ⟨j, h1, h2, stt_eq h hi h2⟩
theorem isRep_iff {L : List It} {j : Nat} : isRep L j = true ↔ ∃ n c, L[j]? = some (.rep n c) := by
  unfold isRep
  split
  · rename_i n c e; simp [e]
  · rename_i e
    constructor
    · intro z; cases z
    · rintro ⟨n, c, e2⟩; exact absurd e2 (e n c)
abbrev Xv (L : List It) (j : Nat) : Int := (vis (L.drop (j + 1))).1
/-- the sum over the repeats whose segment holds a place -/
def Sv (L : List It) (p q : Nat) : Int := sumR L.length fun j => if isRep L j = true ∧ p ≤ j ∧ stt L j ≤ q then cof L j * Xv L j else 0
theorem vis2 (L : List It) (m : Str) : ∀ p, p ≤ L.length → (vis (L.drop p)).2 m = sumR L.length fun j => if rnm L j = some m ∧ p ≤ j then cof L j * Xv L j else 0 := by
  intro p hp
  obtain ⟨d, rfl⟩ : ∃ d, p = L.length - d := ⟨L.length - p, by omega⟩
  induction d with
  | zero =>
    rw [Nat.sub_zero, List.drop_length]
    have : sumR L.length (fun j => if rnm L j = some m ∧ L.length ≤ j then cof L j * Xv L j else 0) = sumR L.length fun _ => 0 := sumR_congr fun j hj => by rw [if_neg (by omega)]
    rw [this, sumR_zero]; rfl
  | succ d ih =>
    by_cases hd : L.length ≤ d
    · rw [show L.length - (d + 1) = L.length - d by omega]; exact ih (by omega)
    have ih := ih (by omega)
    obtain ⟨q, hq⟩ : ∃ q, L.length - (d + 1) = q := ⟨_, rfl⟩
    rw [show L.length - d = q + 1 by omega] at ih
    rw [hq]
    have hql : q < L.length := by omega
    have e : L.drop q = L[q] :: L.drop (q + 1) := List.drop_eq_getElem_cons hql
    have eq : L[q]? = some L[q] := List.getElem?_eq_getElem hql
    cases c : L[q] with
    | bar n =>
      rw [e, c]
      show (vis (L.drop (q + 1))).2 m = _
      rw [ih]
      refine sumR_congr fun j hj => ?_
      by_cases hjq : j = q
      · subst hjq; simp [rnm, eq, c]
      · by_cases hh : q ≤ j
        · simp [hh, show q + 1 ≤ j by omega]
        · simp [hh, show ¬ q + 1 ≤ j by omega]
    | mark n =>
      rw [e, c]
      show (vis (L.drop (q + 1))).2 m = _
      rw [ih]
      refine sumR_congr fun j hj => ?_
      by_cases hjq : j = q
      · subst hjq; simp [rnm, eq, c]
      · by_cases hh : q ≤ j
        · simp [hh, show q + 1 ≤ j by omega]
        · simp [hh, show ¬ q + 1 ≤ j by omega]
    | rep n k =>
      rw [e, c]
      show (if m = n then (vis (L.drop (q + 1))).2 m + k * (vis (L.drop (q + 1))).1 else (vis (L.drop (q + 1))).2 m) = _
      rw [ih]
      have key : sumR L.length (fun j => if rnm L j = some m ∧ q ≤ j then cof L j * Xv L j else 0) = sumR L.length (fun j => if rnm L j = some m ∧ q + 1 ≤ j then cof L j * Xv L j else 0) + sumR L.length (fun j => if j = q then (if m = n then k * Xv L q else 0) else 0) := by
        rw [← sumR_add]
        refine sumR_congr fun j hj => ?_
        by_cases hjq : j = q
        · subst hjq
          have : rnm L j = some n := by simp [rnm, eq, c]
          have c2 : cof L j = k := by simp [cof, eq, c]
          rw [this, c2]
          by_cases hmn : m = n
          · simp [hmn, show ¬ j + 1 ≤ j by omega]
          · simp [hmn, show ¬ n = m from fun z => hmn z.symm]
        · by_cases hh : q ≤ j
          · simp [hh, hjq, show q + 1 ≤ j by omega]
          · simp [hh, hjq, show ¬ q + 1 ≤ j by omega]
      rw [key, sumR_one, if_pos hql]
      by_cases hmn : m = n
      · simp [hmn, Xv]
      · simp [hmn]
theorem vis1 (L : List It) (h : ok [] L) : ∀ p, p ≤ L.length → (vis (L.drop p)).1 = 1 + Sv L p p := by
  intro p hp
  obtain ⟨d, rfl⟩ : ∃ d, p = L.length - d := ⟨L.length - p, by omega⟩
  induction d with
  | zero =>
    rw [Nat.sub_zero, List.drop_length]
    have : Sv L L.length L.length = 0 := by
      unfold Sv
      rw [show (sumR L.length fun j => if isRep L j = true ∧ L.length ≤ j ∧ stt L j ≤ L.length then cof L j * Xv L j else 0) = sumR L.length fun _ => 0 from sumR_congr fun j hj => by rw [if_neg (by omega)], sumR_zero]
    rw [this]; rfl
  | succ d ih =>
    by_cases hd : L.length ≤ d
    · rw [show L.length - (d + 1) = L.length - d by omega]; exact ih (by omega)
    have ih := ih (by omega)
    obtain ⟨q, hq⟩ : ∃ q, L.length - (d + 1) = q := ⟨_, rfl⟩
    rw [show L.length - d = q + 1 by omega] at ih
    rw [hq]
    have hql : q < L.length := by omega
    have e : L.drop q = L[q] :: L.drop (q + 1) := List.drop_eq_getElem_cons hql
    have eq : L[q]? = some L[q] := List.getElem?_eq_getElem hql
    cases c : L[q] with
    | bar n =>
      rw [e, c]
      show (vis (L.drop (q + 1))).1 = _
      rw [ih]
      congr 1
      refine sumR_congr fun j hj => ?_
      by_cases hr : isRep L j = true
      · obtain ⟨nm, cc, hjr⟩ := isRep_iff.mp hr
        obtain ⟨i, i1, i2, i3⟩ := stt_le h hjr
        have hjq : j ≠ q := fun z => by subst z; rw [eq, c] at hjr; cases hjr
        have hiq : i ≠ q := fun z => by subst z; rw [eq, c] at i2; cases i2
        have : (q ≤ j ∧ stt L j ≤ q) ↔ (q + 1 ≤ j ∧ stt L j ≤ q + 1) := by omega
        simp [hr, this]
      · simp [hr]
    | mark n =>
      rw [e, c]
      show (vis (L.drop (q + 1))).1 - (vis (L.drop (q + 1))).2 n = _
      rw [ih, vis2 L n (q + 1) (by omega)]
      have key : Sv L (q + 1) (q + 1) = Sv L q q + sumR L.length fun j => if rnm L j = some n ∧ q + 1 ≤ j then cof L j * Xv L j else 0 := by
        unfold Sv
        rw [← sumR_add]
        refine sumR_congr fun j hj => ?_
        by_cases hr : isRep L j = true
        · obtain ⟨nm, cc, hjr⟩ := isRep_iff.mp hr
          obtain ⟨i, i1, i2, i3⟩ := stt_le h hjr
          have hjq : j ≠ q := fun z => by subst z; rw [eq, c] at hjr; cases hjr
          have hn : rnm L j = some nm := by simp [rnm, hjr]
          by_cases hnm : nm = n
          · subst hnm
            have hiq : i = q := ok_uniq h i2 (by rw [eq, c])
            subst hiq
            rw [if_pos ⟨hr, by omega, by omega⟩, if_neg (by omega), if_pos ⟨hn, by omega⟩]; omega
          · have hiq : i ≠ q := fun z => by subst z; rw [eq, c] at i2; exact hnm (by cases i2; rfl)
            have h2 : ¬ rnm L j = some n := by rw [hn]; exact fun z => hnm (Option.some.inj z)
            have : (q ≤ j ∧ stt L j ≤ q) ↔ (q + 1 ≤ j ∧ stt L j ≤ q + 1) := by omega
            simp [hr, h2, this]
        · have : rnm L j = none := by
            unfold rnm
            split
            · rename_i a b z; exact absurd (isRep_iff.mpr ⟨_, _, z⟩) hr
            · rfl
          simp [hr, this]
      rw [key]; omega
    | rep n k =>
      rw [e, c]
      show (vis (L.drop (q + 1))).1 * (k + 1) = _
      have hjr : L[q]? = some (.rep n k) := by rw [eq, c]
      obtain ⟨i, i1, i2, i3⟩ := stt_le h hjr
      have key : Sv L q q = Sv L (q + 1) (q + 1) + sumR L.length (fun j => if j = q then k * Xv L q else 0) := by
        unfold Sv
        rw [← sumR_add]
        refine sumR_congr fun j hj => ?_
        by_cases hr : isRep L j = true
        · obtain ⟨nm, cc, hjr2⟩ := isRep_iff.mp hr
          obtain ⟨i', i1', i2', i3'⟩ := stt_le h hjr2
          have hiq : i' ≠ q := fun z => by subst z; rw [eq, c] at i2'; cases i2'
          by_cases hjq : j = q
          · subst hjq
            have c2 : cof L j = k := by simp [cof, hjr]
            rw [if_pos ⟨hr, by omega, by omega⟩, if_neg (by omega), if_pos rfl, c2]; omega
          · have : (q ≤ j ∧ stt L j ≤ q) ↔ (q + 1 ≤ j ∧ stt L j ≤ q + 1) := by omega
            simp [hr, hjq, this]
        · have hjq : j ≠ q := fun z => by subst z; exact hr (isRep_iff.mpr ⟨_, _, hjr⟩)
          simp [hr, hjq]
      rw [key, sumR_one, if_pos hql, ← Int.add_assoc, ← ih, Int.mul_add, Int.mul_one, Int.mul_comm]
      show _ = (vis (L.drop (q + 1))).1 + k * (vis (L.drop (q + 1))).1
      omega
/-- right of a repeat -/
theorem vis1R (L : List It) (h : ok [] L) {p : Nat} {n : Str} {c : Int} (hp : L[p]? = some (.rep n c)) : Xv L p = 1 + Sv L (p + 1) p := by
  have hpl : p < L.length := (List.getElem?_eq_some_iff.mp hp).1
  show (vis (L.drop (p + 1))).1 = _
  rw [vis1 L h (p + 1) (by omega)]
  congr 1
  refine sumR_congr fun j hj => ?_
  by_cases hr : isRep L j = true
  · obtain ⟨nm, cc, hjr⟩ := isRep_iff.mp hr
    obtain ⟨i, i1, i2, i3⟩ := stt_le h hjr
    have hiq : i ≠ p := fun z => by subst z; rw [hp] at i2; cases i2
    have : (p + 1 ≤ j ∧ stt L j ≤ p + 1) ↔ (p + 1 ≤ j ∧ stt L j ≤ p) := by omega
    simp [hr, this]
  · simp [hr]
/-- the places of the repeats -/
def rps (L : List It) : List Nat := (List.range L.length).filter (isRep L ·)
theorem rps_sum (L : List It) (q : Nat → Bool) (f : Nat → Int) : (((rps L).filter q).map f).sum = sumR L.length fun j => if isRep L j = true ∧ q j = true then f j else 0 := by
  unfold rps
  generalize L.length = n
  induction n with
  | zero => rfl
  | succ n ih =>
    rw [List.range_succ, List.filter_append, List.filter_append, List.map_append, List.sum_append, ih, sumR_succ]
    congr 1
    by_cases h1 : isRep L n = true
    · by_cases h2 : q n = true
      · simp [List.filter, h1, h2]
      · simp [List.filter, h1, h2]
    · simp [List.filter, h1]
end SC

set_option Elab.async false
set_option linter.all false
set_option maxRecDepth 100000
/-! VTp: the tape: the places of the played bars in order, by copying; sums over its beginnings. -/
namespace SC
open PySem L2 VL

def tpS (L : List It) : Nat → List Nat × (Str → Nat)
  | 0 => ([], fun _ => 0)
  | n + 1 => match L[n]? with
    | some (.bar _) => ((tpS L n).1 ++ [n], (tpS L n).2)
    | some (.mark m) => ((tpS L n).1, fun x => if x = m then (tpS L n).1.length else (tpS L n).2 x)
    | some (.rep m c) => ((tpS L n).1 ++ (List.replicate c.toNat ((tpS L n).1.drop ((tpS L n).2 m))).flatten, (tpS L n).2)
    | none => tpS L n
abbrev tp (L : List It) (n : Nat) : List Nat := (tpS L n).1
abbrev ml (L : List It) (n : Nat) : Str → Nat := (tpS L n).2
abbrev tl (L : List It) (n : Nat) : Nat := (tp L n).length
section
variable {L : List It} {n : Nat}
theorem tp_bar {m : Str} (e : L[n]? = some (.bar m)) : tp L (n + 1) = tp L n ++ [n] := by simp [tp, tpS, e]
theorem tp_mark {m : Str} (e : L[n]? = some (.mark m)) : tp L (n + 1) = tp L n := by simp [tp, tpS, e]
theorem tp_rep {m : Str} {c : Int} (e : L[n]? = some (.rep m c)) : tp L (n + 1) = tp L n ++ (List.replicate c.toNat ((tp L n).drop (ml L n m))).flatten := by simp [tp, tpS, e]
theorem ml_bar {m : Str} (e : L[n]? = some (.bar m)) : ml L (n + 1) = ml L n := by simp [ml, tpS, e]
theorem ml_mark {m : Str} (e : L[n]? = some (.mark m)) (x : Str) : ml L (n + 1) x = if x = m then tl L n else ml L n x := by simp [ml, tpS, e]
theorem ml_rep {m : Str} {c : Int} (e : L[n]? = some (.rep m c)) : ml L (n + 1) = ml L n := by simp [ml, tpS, e]
theorem flat_len {α : Type} (s : List α) : ∀ c : Nat, ((List.replicate c s).flatten).length = c * s.length
  | 0 => by simp
  | c + 1 => by rw [List.replicate_succ, List.flatten_cons, List.length_append, flat_len s c, Nat.succ_mul]; omega
/-- the lengths are the first times -/
theorem tp_len (h : ok [] L) : ∀ n, n ≤ L.length → (tl L n : Int) = (st p0 (L.take n)).2 ∧ ∀ m, (ml L n m : Int) = (st p0 (L.take n)).1 m
  | 0, _ => ⟨rfl, fun _ => rfl⟩
  | n + 1, hn => by
    obtain ⟨h1, h2⟩ := tp_len h n (by omega)
    have hi : n < L.length := by omega
    have e := List.getElem?_eq_getElem hi
    have es := st_take (p := p0) e
    have hb := bd_st h n (by omega)
    cases c : L[n] with
    | bar m =>
      rw [c] at e es
      rw [es]
      refine ⟨?_, fun x => ?_⟩
      · show ((tp L (n + 1)).length : Int) = (st p0 (L.take n)).2 + 1
        rw [tp_bar e, List.length_append]
        have h1 : ((tp L n).length : Int) = _ := h1
        simp
        exact h1
      · rw [ml_bar e]; exact h2 x
    | mark m =>
      rw [c] at e es
      rw [es]
      refine ⟨?_, fun x => ?_⟩
      · show ((tp L (n + 1)).length : Int) = (st p0 (L.take n)).2
        rw [tp_mark e]; exact h1
      · show _ = (if x = m then (st p0 (L.take n)).2 else (st p0 (L.take n)).1 x)
        rw [ml_mark e]
        split
        · exact h1
        · exact h2 x
    | rep m k =>
      rw [c] at e es
      rw [es]
      refine ⟨?_, fun x => by rw [ml_rep e]; exact h2 x⟩
      show ((tp L (n + 1)).length : Int) = (st p0 (L.take n)).2 + k * ((st p0 (L.take n)).2 - (st p0 (L.take n)).1 m)
      have hk := ok_count h e
      have hm := h2 m
      have hbm := hb.2.2 m
      have h1 : ((tp L n).length : Int) = _ := h1
      rw [tp_rep e, List.length_append, flat_len, List.length_drop, Int.natCast_add, Int.natCast_mul, h1]
      congr 1
      have : ((((tp L n).length - ml L n m : Nat)) : Int) = (st p0 (L.take n)).2 - (st p0 (L.take n)).1 m := by omega
      rw [this]
      congr 1
      omega
theorem tp_step (n : Nat) : tp L n <+: tp L (n + 1) := by
  cases e : L[n]? with
  | none => simp [tp, tpS, e]
  | some it =>
    cases it with
    | bar m => rw [tp_bar e]; exact List.prefix_append _ _
    | mark m => rw [tp_mark e]; exact List.prefix_refl _
    | rep m c => rw [tp_rep e]; exact List.prefix_append _ _
theorem tp_pre : ∀ {k : Nat}, n ≤ k → tp L n <+: tp L k := fun {k} h => by
  induction k with
  | zero => have : n = 0 := by omega
            subst this; exact List.prefix_refl _
  | succ k ih =>
    by_cases e : n = k + 1
    · subst e; exact List.prefix_refl _
    · exact (ih (by omega)).trans (tp_step k)
abbrev TT (L : List It) : List Nat := tp L L.length
theorem take_tl (h : n ≤ L.length) : (TT L).take (tl L n) = tp L n := ((List.prefix_iff_eq_take.mp (tp_pre h))).symm
theorem tl_mono {k : Nat} (h : n ≤ k) : tl L n ≤ tl L k := (tp_pre h).length_le
/-- the recorded length of a mark -/
theorem ml_eq (h : ok [] L) {j : Nat} {m : Str} (hj : L[j]? = some (.mark m)) (h1 : j < n) (h2 : n ≤ L.length) : ml L n m = tl L (j + 1) := by
  have a := (tp_len h n h2).2 m
  rw [mark_time h hj n h1 h2, ← (tp_len h (j + 1) (by omega)).1] at a
  omega
end
/-! ### sums -/
abbrev Sf (f : Nat → Int) (l : List Nat) : Int := (l.map f).sum
/-- the sum ahead of a position -/
def SS1 (f : Nat → Int) (L : List It) (n : Nat) : Int := Sf f (tp L n)
/-- the sum ahead of a time -/
def Sb (f : Nat → Int) (L : List It) (t : Nat) : Int := Sf f ((TT L).take t)
section
variable {L : List It} {n : Nat} {f : Nat → Int}
theorem Sb_tl (h : n ≤ L.length) : Sb f L (tl L n) = SS1 f L n := by unfold Sb; rw [take_tl h]; rfl
theorem Sf_rep (s : List Nat) : ∀ c : Nat, Sf f ((List.replicate c s).flatten) = (c : Int) * Sf f s
  | 0 => by simp [Sf]
  | c + 1 => by
    rw [List.replicate_succ, List.flatten_cons]
    show ((s ++ (List.replicate c s).flatten).map f).sum = _
    rw [List.map_append, List.sum_append]
    have : (((List.replicate c s).flatten).map f).sum = (c : Int) * Sf f s := Sf_rep s c
    rw [this, Int.natCast_add, Int.add_mul]
    show Sf f s + _ = _ + (1 : Int) * Sf f s
    omega
theorem Sf_drop (l : List Nat) (k : Nat) : Sf f (l.drop k) = Sf f l - Sf f (l.take k) := by
  have : Sf f l = Sf f (l.take k) + Sf f (l.drop k) := by
    conv => lhs; rw [← List.take_append_drop k l]
    show ((l.take k ++ l.drop k).map f).sum = _
    rw [List.map_append, List.sum_append]
  omega
theorem SS_bar {m : Str} (e : L[n]? = some (.bar m)) : SS1 f L (n + 1) = SS1 f L n + f n := by
  unfold SS1
  rw [tp_bar e]
  simp [Sf]
theorem SS_mark {m : Str} (e : L[n]? = some (.mark m)) : SS1 f L (n + 1) = SS1 f L n := by
  unfold SS1
  rw [tp_mark e]
/-- what a repeat says again -/
theorem seg_eq (h : ok [] L) {m : Str} {c : Int} (e : L[n]? = some (.rep m c)) {j : Nat} (hj : L[j]? = some (.mark m)) (hjn : j < n) : (tp L n).drop (ml L n m) = (tp L n).drop (tl L (j + 1)) := by
  have hn := (List.getElem?_eq_some_iff.mp e).1
  rw [ml_eq h hj hjn (by omega)]
theorem take_tp {k : Nat} (h : k ≤ n) : (tp L n).take (tl L k) = tp L k := (List.prefix_iff_eq_take.mp (tp_pre h)).symm
theorem SS_rep (h : ok [] L) {m : Str} {c : Int} (e : L[n]? = some (.rep m c)) {j : Nat} (hj : L[j]? = some (.mark m)) (hjn : j < n) : SS1 f L (n + 1) = SS1 f L n + c * (SS1 f L n - SS1 f L (j + 1)) := by
  have hc := ok_count h e
  have e1 : tp L (n + 1) = tp L n ++ (List.replicate c.toNat ((tp L n).drop (tl L (j + 1)))).flatten := by rw [tp_rep e, seg_eq h e hj hjn]
  unfold SS1
  rw [e1]
  show ((tp L n ++ (List.replicate c.toNat ((tp L n).drop (tl L (j + 1)))).flatten).map f).sum = _
  rw [List.map_append, List.sum_append]
  have e2 : (((List.replicate c.toNat ((tp L n).drop (tl L (j + 1)))).flatten).map f).sum = (c.toNat : Int) * Sf f ((tp L n).drop (tl L (j + 1))) := Sf_rep _ _
  rw [e2, Sf_drop, take_tp (by omega), Int.toNat_of_nonneg (by omega)]
theorem rep_take {α : Type} (s : List α) : ∀ (c k x : Nat), k < c → x ≤ s.length → ((List.replicate c s).flatten).take (k * s.length + x) = (List.replicate k s).flatten ++ s.take x
  | 0, k, x, h, _ => by omega
  | c + 1, 0, x, _, hx => by
    rw [List.replicate_succ, List.flatten_cons, Nat.zero_mul, Nat.zero_add, List.take_append_of_le_length hx]
    simp
  | c + 1, k + 1, x, h, hx => by
    rw [List.replicate_succ, List.flatten_cons, List.replicate_succ, List.flatten_cons, List.append_assoc, ← rep_take s c k x (by omega) hx]
    rw [Nat.succ_mul, show k * s.length + s.length + x = s.length + (k * s.length + x) by omega, List.take_length_add_append]
theorem rep_get {α : Type} (s : List α) : ∀ (c k x : Nat), k < c → x < s.length → ((List.replicate c s).flatten)[k * s.length + x]? = s[x]?
  | 0, k, x, h, _ => by omega
  | c + 1, 0, x, _, hx => by
    rw [List.replicate_succ, List.flatten_cons, Nat.zero_mul, Nat.zero_add, List.getElem?_append_left hx]
  | c + 1, k + 1, x, h, hx => by
    rw [List.replicate_succ, List.flatten_cons, Nat.succ_mul, List.getElem?_append_right (by omega), show k * s.length + s.length + x - s.length = k * s.length + x by omega]
    exact rep_get s c k x (by omega) hx
/-- a bar's place on the tape -/
theorem TT_bar {m : Str} (e : L[n]? = some (.bar m)) : (TT L)[tl L n]? = some n := by
  have hn := (List.getElem?_eq_some_iff.mp e).1
  obtain ⟨r, hr⟩ := tp_pre (L := L) (n := n + 1) (k := L.length) (by omega)
  rw [tp_bar e] at hr
  show (tp L L.length)[tl L n]? = some n
  rw [← hr, List.append_assoc, List.getElem?_append_right (Nat.le_refl _)]
  simp
section
variable (h : ok [] L) {m : Str} {c : Int} (e : L[n]? = some (.rep m c)) {j : Nat} (hj : L[j]? = some (.mark m)) (hjn : j < n)
include h e hj hjn
/-- the k-th time round: the bars -/
theorem TT_rep {k x : Nat} (hk : (k : Int) < c) (hx : x < tl L n - tl L (j + 1)) : (TT L)[tl L n + k * (tl L n - tl L (j + 1)) + x]? = (TT L)[tl L (j + 1) + x]? := by
  have hn := (List.getElem?_eq_some_iff.mp e).1
  have hle := tl_mono (L := L) (n := j + 1) (k := n) (by omega)
  have hsl : ((tp L n).drop (tl L (j + 1))).length = tl L n - tl L (j + 1) := by rw [List.length_drop]
  obtain ⟨r, hr⟩ := tp_pre (L := L) (n := n + 1) (k := L.length) (by omega)
  rw [tp_rep e, seg_eq h e hj hjn] at hr
  show (tp L L.length)[_]? = (tp L L.length)[_]?
  rw [← hr]
  have hlt : k * (tl L n - tl L (j + 1)) + x < ((List.replicate c.toNat ((tp L n).drop (tl L (j + 1)))).flatten).length := by
    rw [flat_len, hsl]
    have : (k + 1) * (tl L n - tl L (j + 1)) ≤ c.toNat * (tl L n - tl L (j + 1)) := Nat.mul_le_mul_right _ (by omega)
    rw [Nat.succ_mul] at this
    omega
  rw [List.getElem?_append_left (by rw [List.length_append]; show _ < tl L n + _; omega), List.append_assoc, List.getElem?_append_left (show tl L (j + 1) + x < (tp L n).length by show _ < tl L n; omega)]
  rw [List.getElem?_append_right (show (tp L n).length ≤ _ by show tl L n ≤ _; omega)]
  rw [show tl L n + k * (tl L n - tl L (j + 1)) + x - (tp L n).length = k * (tl L n - tl L (j + 1)) + x by show _ - tl L n = _; omega]
  have := rep_get ((tp L n).drop (tl L (j + 1))) c.toNat k x (by omega) (by rw [hsl]; exact hx)
  rw [hsl] at this
  rw [this, List.getElem?_drop]
/-- the k-th time round: the sums -/
theorem Sb_rep0 {k x : Nat} (hk : (k : Int) < c) (hx : x ≤ tl L n - tl L (j + 1)) : Sb f L (tl L n + k * (tl L n - tl L (j + 1)) + x) = SS1 f L n + k * (SS1 f L n - SS1 f L (j + 1)) + (Sb f L (tl L (j + 1) + x) - SS1 f L (j + 1)) := by
  have hn := (List.getElem?_eq_some_iff.mp e).1
  have hle := tl_mono (L := L) (n := j + 1) (k := n) (by omega)
  have hsl : ((tp L n).drop (tl L (j + 1))).length = tl L n - tl L (j + 1) := by rw [List.length_drop]
  obtain ⟨r, hr⟩ := tp_pre (L := L) (n := n + 1) (k := L.length) (by omega)
  rw [tp_rep e, seg_eq h e hj hjn] at hr
  have hlt : k * (tl L n - tl L (j + 1)) + x ≤ ((List.replicate c.toNat ((tp L n).drop (tl L (j + 1)))).flatten).length := by
    rw [flat_len, hsl]
    have : (k + 1) * (tl L n - tl L (j + 1)) ≤ c.toNat * (tl L n - tl L (j + 1)) := Nat.mul_le_mul_right _ (by omega)
    rw [Nat.succ_mul] at this
    omega
  have t1 : (TT L).take (tl L n + k * (tl L n - tl L (j + 1)) + x) = tp L n ++ ((List.replicate k ((tp L n).drop (tl L (j + 1)))).flatten ++ ((tp L n).drop (tl L (j + 1))).take x) := by
    show (tp L L.length).take _ = _
    rw [← hr, List.take_append_of_le_length (by rw [List.length_append]; show _ ≤ tl L n + _; omega), Nat.add_assoc]
    have := rep_take ((tp L n).drop (tl L (j + 1))) c.toNat k x (by omega) (by rw [hsl]; exact hx)
    rw [hsl] at this
    rw [← this]
    exact List.take_length_add_append ..
  have t2 : (TT L).take (tl L (j + 1) + x) = tp L (j + 1) ++ ((tp L n).drop (tl L (j + 1))).take x := by
    have q : (TT L).take (tl L (j + 1) + x) = (tp L n).take (tl L (j + 1) + x) := by
      show (tp L L.length).take _ = _
      rw [← hr, List.append_assoc, List.take_append_of_le_length (show _ ≤ (tp L n).length by show _ ≤ tl L n; omega)]
    rw [q, List.take_add, take_tp (by omega)]
  have e1 : Sb f L (tl L n + k * (tl L n - tl L (j + 1)) + x) = SS1 f L n + ((k : Int) * Sf f ((tp L n).drop (tl L (j + 1))) + Sf f (((tp L n).drop (tl L (j + 1))).take x)) := by
    unfold Sb
    rw [t1]
    show ((tp L n ++ _).map f).sum = _
    rw [List.map_append, List.sum_append, List.map_append, List.sum_append]
    have := Sf_rep (f := f) ((tp L n).drop (tl L (j + 1))) k
    unfold Sf at this
    rw [this]
    rfl
  have e2 : Sb f L (tl L (j + 1) + x) = SS1 f L (j + 1) + Sf f (((tp L n).drop (tl L (j + 1))).take x) := by
    unfold Sb
    rw [t2]
    show ((tp L (j + 1) ++ _).map f).sum = _
    rw [List.map_append, List.sum_append]
    rfl
  have e3 : Sf f ((tp L n).drop (tl L (j + 1))) = SS1 f L n - SS1 f L (j + 1) := by
    rw [Sf_drop, take_tp (by omega)]
    rfl
  rw [e1, e2, e3]
  omega
theorem tl_rep : tl L (n + 1) = tl L n + c.toNat * (tl L n - tl L (j + 1)) := by
  show (tp L (n + 1)).length = _
  rw [tp_rep e, seg_eq h e hj hjn, List.length_append, flat_len, List.length_drop]
theorem Sb_rep {k x : Nat} (hx : x < tl L n - tl L (j + 1)) (hkx : tl L n + k * (tl L n - tl L (j + 1)) + x ≤ tl L (n + 1)) : Sb f L (tl L n + k * (tl L n - tl L (j + 1)) + x) = SS1 f L n + k * (SS1 f L n - SS1 f L (j + 1)) + (Sb f L (tl L (j + 1) + x) - SS1 f L (j + 1)) := by
  have hn := (List.getElem?_eq_some_iff.mp e).1
  have hc := ok_count h e
  by_cases hk : (k : Int) < c
  · exact Sb_rep0 h e hj hjn hk (by omega)
  · have t := tl_rep h e hj hjn
    rw [t] at hkx
    have hck : c.toNat ≤ k := by omega
    have h1 : c.toNat * (tl L n - tl L (j + 1)) ≤ k * (tl L n - tl L (j + 1)) := Nat.mul_le_mul_right _ hck
    have hx0 : x = 0 := by omega
    have hkc : k = c.toNat := by
      apply Nat.le_antisymm _ hck
      apply Nat.le_of_not_lt
      intro z
      have : (c.toNat + 1) * (tl L n - tl L (j + 1)) ≤ k * (tl L n - tl L (j + 1)) := Nat.mul_le_mul_right _ z
      rw [Nat.succ_mul] at this
      omega
    subst hx0
    subst hkc
    have q1 : Sb f L (tl L (n + 1)) = SS1 f L (n + 1) := Sb_tl (by omega)
    have q2 : Sb f L (tl L (j + 1)) = SS1 f L (j + 1) := Sb_tl (by omega)
    simp only [Nat.add_zero]
    rw [← t, q1, q2, SS_rep h e hj hjn, Int.toNat_of_nonneg (by omega)]
    omega
end
end
end SC

set_option Elab.async false
set_option linter.all false
set_option maxRecDepth 100000
/-! VTp2: a bar is played as often as the visits say; where a sum is exceeded. -/
namespace SC
open PySem L2 VL

def ind (b : Nat) : Nat → Int := fun i => if i = b then 1 else 0
section
variable {L : List It} {n : Nat} {f : Nat → Int}
theorem ml_le (h : ok [] L) (hn : n ≤ L.length) (m : Str) : ml L n m ≤ tl L n := by
  have a := tp_len h n hn
  have b := (bd_st h n hn).2.2 m
  have c := a.2 m
  have d := a.1
  omega
/-- the sum that a mark records -/
def Mk (f : Nat → Int) (L : List It) (n : Nat) (m : Str) : Int := Sf f ((tp L n).take (ml L n m))
theorem Mk_same (h : ok [] L) (hn : n ≤ L.length) (x : Str) (e2 : ml L (n + 1) x = ml L n x) : Mk f L (n + 1) x = Mk f L n x := by
  unfold Mk
  obtain ⟨r, hr⟩ := tp_step (L := L) n
  rw [e2, ← hr, List.take_append_of_le_length (ml_le h hn x)]
theorem Mk_mark (h : ok [] L) {m : Str} (e : L[n]? = some (.mark m)) (x : Str) : Mk f L (n + 1) x = if x = m then SS1 f L n else Mk f L n x := by
  have hn := (List.getElem?_eq_some_iff.mp e).1
  by_cases hx : x = m
  · rw [if_pos hx]
    unfold Mk
    rw [ml_mark e, if_pos hx, tp_mark e]
    show Sf f ((tp L n).take (tp L n).length) = _
    rw [List.take_length]
    rfl
  · rw [if_neg hx, Mk_same h (by omega) x (by rw [ml_mark e, if_neg hx])]
theorem SS_repM (h : ok [] L) {m : Str} {c : Int} (e : L[n]? = some (.rep m c)) : SS1 f L (n + 1) = SS1 f L n + c * (SS1 f L n - Mk f L n m) := by
  have hc := ok_count h e
  unfold SS1
  rw [tp_rep e]
  show ((tp L n ++ (List.replicate c.toNat ((tp L n).drop (ml L n m))).flatten).map f).sum = _
  rw [List.map_append, List.sum_append]
  have e2 : (((List.replicate c.toNat ((tp L n).drop (ml L n m))).flatten).map f).sum = (c.toNat : Int) * Sf f ((tp L n).drop (ml L n m)) := Sf_rep _ _
  rw [e2, Sf_drop, Int.toNat_of_nonneg (by omega)]
  rfl
theorem tp_lt : ∀ n, ∀ i ∈ tp L n, i < n
  | 0, i, h => by simp [tp, tpS] at h
  | n + 1, i, h => by
    have ih := tp_lt n
    cases e : L[n]? with
    | none => rw [show tp L (n + 1) = tp L n by simp [tp, tpS, e]] at h; have := ih i h; omega
    | some it =>
      cases it with
      | bar m =>
        rw [tp_bar e] at h
        rcases List.mem_append.mp h with z | z
        · have := ih i z; omega
        · have : i = n := by simpa using z
          omega
      | mark m => rw [tp_mark e] at h; have := ih i h; omega
      | rep m c =>
        rw [tp_rep e] at h
        rcases List.mem_append.mp h with z | z
        · have := ih i z; omega
        · obtain ⟨s, hs, hi⟩ := List.mem_flatten.mp z
          have := (List.mem_replicate.mp hs).2
          subst this
          have := ih i (List.mem_of_mem_drop hi); omega
theorem Sf_zero : ∀ {l : List Nat}, (∀ i ∈ l, f i = 0) → Sf f l = 0
  | [], _ => rfl
  | a :: l, h => by
    show f a + Sf f l = 0
    rw [h a List.mem_cons_self, Sf_zero fun i hi => h i (List.mem_cons_of_mem _ hi)]
    rfl
/-- only bars are on the tape -/
theorem tp_bars : ∀ n, ∀ i ∈ tp L n, ∃ m, L[i]? = some (.bar m)
  | 0, i, h => by simp [tp, tpS] at h
  | n + 1, i, h => by
    have ih := tp_bars n
    cases e : L[n]? with
    | none => rw [show tp L (n + 1) = tp L n by simp [tp, tpS, e]] at h; exact ih i h
    | some it =>
      cases it with
      | bar m =>
        rw [tp_bar e] at h
        rcases List.mem_append.mp h with z | z
        · exact ih i z
        · have : i = n := by simpa using z
          subst this; exact ⟨m, e⟩
      | mark m => rw [tp_mark e] at h; exact ih i h
      | rep m c =>
        rw [tp_rep e] at h
        rcases List.mem_append.mp h with z | z
        · exact ih i z
        · obtain ⟨s, hs, hi⟩ := List.mem_flatten.mp z
          have := (List.mem_replicate.mp hs).2
          subst this
          exact ih i (List.mem_of_mem_drop hi)
theorem mk_ok : ∀ {l : List It} {ms : List Str} (k : Nat), ok ms l → ok (mk ms (l.take k)) (l.drop k) := fun {l ms} k h =>
  ((ok_app (l.take k) (l.drop k) ms).mp (by rw [List.take_append_drop]; exact h)).2
/-- a bar is played as often as the visits say -/
theorem ind_vis (h : ok [] L) {b : Nat} {m : Str} (e : L[b]? = some (.bar m)) : SS1 (ind b) L L.length = (vis (L.drop (b + 1))).1 := by
  have hb := (List.getElem?_eq_some_iff.mp e).1
  obtain ⟨p, hp⟩ : ∃ p, p = st p0 (L.take (b + 1)) := ⟨_, rfl⟩
  obtain ⟨q, hq⟩ : ∃ q : Sta, q = (p.1, p.2 + 1) := ⟨_, rfl⟩
  have z0 : SS1 (ind b) L b = 0 := Sf_zero fun i hi => by
    have := tp_lt b i hi
    unfold ind; rw [if_neg (by omega)]
  have z1 : SS1 (ind b) L (b + 1) = 1 := by rw [SS_bar e, z0]; unfold ind; simp
  have key : ∀ k, b + 1 + k ≤ L.length → (st q ((L.drop (b + 1)).take k)).2 - (st p ((L.drop (b + 1)).take k)).2 = SS1 (ind b) L (b + 1 + k) ∧ ∀ x, (st q ((L.drop (b + 1)).take k)).1 x - (st p ((L.drop (b + 1)).take k)).1 x = Mk (ind b) L (b + 1 + k) x := by
    intro k
    induction k with
    | zero =>
      intro _
      refine ⟨?_, fun x => ?_⟩
      · rw [List.take_zero, Nat.add_zero, z1]
        show q.2 - p.2 = 1
        rw [hq]; show p.2 + 1 - p.2 = 1; omega
      · rw [List.take_zero, Nat.add_zero, Mk_same h (by omega) x (by rw [ml_bar e])]
        show q.1 x - p.1 x = _
        rw [hq]
        have : Mk (ind b) L b x = 0 := Sf_zero fun i hi => by
          have := tp_lt b i (List.mem_of_mem_take hi)
          unfold ind; rw [if_neg (by omega)]
        rw [this]
        show p.1 x - p.1 x = 0
        omega
    | succ k ih =>
      intro hk
      obtain ⟨i1, i2⟩ := ih (by omega)
      have hn : b + 1 + k < L.length := by omega
      have en := List.getElem?_eq_getElem hn
      have ed : (L.drop (b + 1))[k]? = some L[b + 1 + k] := by rw [List.getElem?_drop, en]
      rw [st_take ed, st_take ed, ← Nat.add_assoc]
      cases c : L[b + 1 + k] with
      | bar y =>
        rw [c] at en
        refine ⟨?_, fun x => ?_⟩
        · rw [SS_bar en, show ind b (b + 1 + k) = 0 by unfold ind; rw [if_neg (by omega)]]
          show (_ + 1) - (_ + 1) = _
          omega
        · rw [Mk_same h (by omega) x (by rw [ml_bar en])]
          exact i2 x
      | mark y =>
        rw [c] at en
        refine ⟨by rw [SS_mark en]; exact i1, fun x => ?_⟩
        rw [Mk_mark h en]
        show (if x = y then (st q ((L.drop (b + 1)).take k)).2 else (st q ((L.drop (b + 1)).take k)).1 x) - (if x = y then (st p ((L.drop (b + 1)).take k)).2 else (st p ((L.drop (b + 1)).take k)).1 x) = _
        split
        · exact i1
        · exact i2 x
      | rep y cc =>
        rw [c] at en
        refine ⟨?_, fun x => by rw [Mk_same h (by omega) x (by rw [ml_rep en])]; exact i2 x⟩
        rw [SS_repM h en, ← i1, ← i2 y]
        show (_ + cc * (_ - _)) - (_ + cc * (_ - _)) = _
        simp only [Int.mul_sub]
        omega
  have hl := lin (L.drop (b + 1)) (mk [] (L.take (b + 1))) [] p q 1 (fun _ => 0) (mk_ok (b + 1) h) (fun m hm => nomatch hm) List.nodup_nil (fun m _ => rfl) (by rw [hq]) (fun m => by rw [hq]; simp)
  have hk := (key (L.length - (b + 1)) (by omega)).1
  rw [List.take_of_length_le (by rw [List.length_drop]; exact Nat.le_refl _), show b + 1 + (L.length - (b + 1)) = L.length by omega] at hk
  rw [← hk, hl]
  simp
  omega
/-! ### where a sum is exceeded -/
theorem Sf_nonneg : ∀ {l : List Nat}, (∀ i ∈ l, 0 ≤ f i) → 0 ≤ Sf f l
  | [], _ => Int.le_refl _
  | a :: l, h => by
    have := h a List.mem_cons_self
    have := Sf_nonneg (l := l) fun i hi => h i (List.mem_cons_of_mem _ hi)
    show 0 ≤ f a + Sf f l
    omega
theorem Sb_succ {t b : Nat} (e : (TT L)[t]? = some b) : Sb f L (t + 1) = Sb f L t + f b := by
  unfold Sb Sf
  rw [List.take_succ, e, show (some b).toList = [b] from rfl, List.map_append, List.sum_append]
  simp
theorem Sb_mono (hf : ∀ i, 0 ≤ f i) {s t : Nat} (h : s ≤ t) : Sb f L s ≤ Sb f L t := by
  unfold Sb
  have : (TT L).take t = (TT L).take s ++ ((TT L).take t).drop s := by
    conv => lhs; rw [← List.take_append_drop s ((TT L).take t)]
    rw [List.take_take, Nat.min_eq_left h]
  rw [this]
  unfold Sf
  rw [List.map_append, List.sum_append]
  have : 0 ≤ Sf f (((TT L).take t).drop s) := Sf_nonneg fun i _ => hf i
  show Sf f ((TT L).take s) ≤ Sf f ((TT L).take s) + Sf f (((TT L).take t).drop s)
  omega
theorem SS_mono (hf : ∀ i, 0 ≤ f i) {i j : Nat} (h : i ≤ j) (hj : j ≤ L.length) : SS1 f L i ≤ SS1 f L j := by
  rw [← Sb_tl (show i ≤ L.length by omega), ← Sb_tl hj]
  exact Sb_mono hf (tl_mono h)
/-- the bar with which the sum exceeds an amount -/
def Loc (f : Nat → Int) (L : List It) (a : Int) (t : Nat) (r : Int) : Prop := ∃ b, (TT L)[t]? = some b ∧ Sb f L t + r = a ∧ 0 ≤ r ∧ r < f b
theorem loc_bar (e : ∃ m, L[n]? = some (.bar m)) {a : Int} (h1 : SS1 f L n ≤ a) (h2 : a < SS1 f L (n + 1)) : Loc f L a (tl L n) (a - SS1 f L n) := by
  obtain ⟨m, e⟩ := e
  have hn := (List.getElem?_eq_some_iff.mp e).1
  rw [SS_bar e] at h2
  exact ⟨n, TT_bar e, by rw [Sb_tl (by omega)]; omega, by omega, by omega⟩
theorem TT_lt {t b : Nat} (e : (TT L)[t]? = some b) : t < tl L L.length := (List.getElem?_eq_some_iff.mp e).1
theorem loc_rep (h : ok [] L) (hf : ∀ i, 0 ≤ f i) {m : Str} {c : Int} (e : L[n]? = some (.rep m c)) {j : Nat} (hj : L[j]? = some (.mark m)) (hjn : j < n) {k : Nat} {x : Int} (hk : (k : Int) < c) (x0 : 0 ≤ x) (x1 : x < SS1 f L n - SS1 f L (j + 1)) {t : Nat} {r : Int}
    (hl : Loc f L (SS1 f L (j + 1) + x) t r) : tl L (j + 1) ≤ t ∧ t < tl L n ∧ Loc f L (SS1 f L n + k * (SS1 f L n - SS1 f L (j + 1)) + x) (tl L n + k * (tl L n - tl L (j + 1)) + (t - tl L (j + 1))) r := by
  have hn := (List.getElem?_eq_some_iff.mp e).1
  obtain ⟨b, e1, e2, r0, r1⟩ := hl
  have h3 : tl L (j + 1) ≤ t := by
    apply Nat.le_of_not_lt
    intro z
    have a1 := Sb_mono (L := L) hf (show t + 1 ≤ tl L (j + 1) by omega)
    rw [Sb_succ e1, Sb_tl (by omega)] at a1
    omega
  have h4 : t < tl L n := by
    apply Nat.lt_of_not_le
    intro z
    have a1 := Sb_mono (L := L) hf z
    rw [Sb_tl (by omega)] at a1
    omega
  have hx : t - tl L (j + 1) < tl L n - tl L (j + 1) := by omega
  refine ⟨h3, h4, b, ?_, ?_, r0, r1⟩
  · rw [TT_rep h e hj hjn hk hx, show tl L (j + 1) + (t - tl L (j + 1)) = t by omega]
    exact e1
  · rw [Sb_rep0 h e hj hjn hk (by omega), show tl L (j + 1) + (t - tl L (j + 1)) = t by omega]
    omega
end
end SC

set_option Elab.async false
set_option linter.all false
set_option maxRecDepth 100000
/-! VInv: loops and comprehensions by what holds from turn to turn. -/
namespace VL
open PySem L2

section
variable {g : WG} {b : WS} {Dn : WD} {X : XW} {Γ : Ev}
theorem drop_cons {α : Type} {ds r : List α} {d : α} {n : Nat} (e : ds.drop n = d :: r) : ds[n]? = some d ∧ ds.drop (n + 1) = r ∧ n < ds.length := by
  have h1 : ds[n]? = some d := by
    have := congrArg (·[0]?) e
    simpa using this
  refine ⟨h1, ?_, (List.getElem?_eq_some_iff.mp h1).1⟩
  have := congrArg (List.drop 1) e
  simpa [Nat.add_comm] using this
theorem drop_nil {α : Type} {ds : List α} {n : Nat} (e : ds.drop n = []) : ds.length ≤ n := by simpa using e
/-- a for loop -/
theorem loop_inv (I : Nat → Ev → Prop) {ds : List PyData} (h0 : I 0 Γ)
    (hs : ∀ (i : Nat) (d : PyData) (Γ : Ev) (k : Ev → Prop), ds[i]? = some d → I i Γ → (∀ Γ', I (i + 1) Γ' → k Γ') → g d Γ fun Γ1 => b Γ1 ⟨k, Dn.rt, Dn.nx, k⟩ X)
    (hd : ∀ Γ, I ds.length Γ → Dn.nx Γ) : loopW g b Dn X ds Γ := by
  suffices h : ∀ (r : List PyData) (n : Nat) (Γ : Ev), ds.drop n = r → n ≤ ds.length → I n Γ → loopW g b Dn X r Γ from h ds 0 Γ rfl (Nat.zero_le _) h0
  intro r
  induction r with
  | nil =>
    intro n Γ e hn h
    have := drop_nil e
    have : n = ds.length := by omega
    subst this
    exact hd _ h
  | cons d r ih =>
    intro n Γ e hn h
    obtain ⟨h1, h2, h3⟩ := drop_cons e
    exact hs n d Γ _ h1 h fun Γ' h' => ih (n + 1) Γ' h2 h3 h'
/-- a for loop that may be left by break: what holds then is asked of the one who breaks -/
theorem loop_mem (I : Ev → Prop) {ds : List PyData} (h0 : I Γ)
    (hs : ∀ (d : PyData) (Γ : Ev) (k : Ev → Prop), d ∈ ds → I Γ → (∀ Γ', I Γ' → k Γ') → g d Γ fun Γ1 => b Γ1 ⟨k, Dn.rt, Dn.nx, k⟩ X)
    (hd : ∀ Γ, I Γ → Dn.nx Γ) : loopW g b Dn X ds Γ :=
  loop_inv (fun _ => I) h0 (fun i d Γ k hi h hk => hs d Γ k (List.mem_of_getElem? hi) h hk) hd
/-- a while loop -/
theorem while_inv {c : WT} (I : Nat → Ev → Prop) (n : Nat) (h0 : I n Γ)
    (hs : ∀ (n : Nat) (Γ : Ev) (k : Ev → Prop), I n Γ → (∀ m Γ', m < n → I m Γ' → k Γ') → c Γ (fun z Γ1 => if z = true then b Γ1 ⟨k, Dn.rt, Dn.nx, k⟩ X else Dn.nx Γ1) X) : wWhile c b Γ Dn X := by
  refine ⟨n + 1, ?_⟩
  suffices h : ∀ N m Γ, m < N → I m Γ → whileN c b Dn X N Γ from h (n + 1) n Γ (Nat.lt_succ_self _) h0
  intro N
  induction N with
  | zero => intro m Γ hm; omega
  | succ N ih =>
    intro m Γ hm h
    exact hs m Γ _ h fun m' Γ' h1 h2 => ih m' Γ' (by omega) h2
end
section
variable {vs : List Nat} {g : WG} {t : WT} {w wk wv : WE} {k : List D → Ev → Prop} {Γ : Ev}
/-- one turn of a list comprehension -/
def lcT (vs : List Nat) (g : WG) (t : WT) (w : WE) (k : List D → Ev → Prop) (d : D) (acc : List D) (Γ : Ev) : Prop :=
  g d Γ fun Γ1 => t Γ1 (fun b Γ2 => if b = true then w Γ2 (fun r Γ3 => frW r Γ3 fun e Γ4 => acc.length < sizeLine ∧ k (acc ++ [e]) (wipeE Γ4 vs)) noX else k acc (wipeE Γ2 vs)) noX
theorem lc_inv (I : Nat → List D → Ev → Prop) {ds : List PyData} (h0 : I 0 [] Γ)
    (hs : ∀ (i : Nat) (d : PyData) (acc : List D) (Γ : Ev) (k : List D → Ev → Prop), ds[i]? = some d → I i acc Γ → (∀ acc' Γ', I (i + 1) acc' Γ' → k acc' Γ') → lcT vs g t w k d acc Γ)
    (hd : ∀ acc Γ, I ds.length acc Γ → k acc Γ) : lcW vs g t w k ds [] Γ := by
  suffices h : ∀ (r : List PyData) (n : Nat) (acc : List D) (Γ : Ev), ds.drop n = r → n ≤ ds.length → I n acc Γ → lcW vs g t w k r acc Γ from h ds 0 [] Γ rfl (Nat.zero_le _) h0
  intro r
  induction r with
  | nil =>
    intro n acc Γ e hn h
    have := drop_nil e
    have : n = ds.length := by omega
    subst this
    exact hd _ _ h
  | cons d r ih =>
    intro n acc Γ e hn h
    obtain ⟨h1, h2, h3⟩ := drop_cons e
    exact hs n d acc Γ (fun acc Γ => lcW vs g t w k r acc Γ) h1 h fun acc' Γ' h' => ih (n + 1) acc' Γ' h2 h3 h'
/-- over a list told by another: each item gives some items; the environment stays -/
theorem lc_list {α : Type} (l : List α) (dl : Nat → α → D) (f : Nat → α → List D) (hf : ∀ i a, (f i a).length ≤ 1) (hl : l.length ≤ 1000000)
    (hs : ∀ (i : Nat) (a : α) (acc : List D) (k : List D → Ev → Prop), l[i]? = some a → acc.length < sizeLine → k (acc ++ f i a) Γ → lcT vs g t w k (dl i a) acc Γ)
    (hd : k (l.mapIdx f).flatten Γ) : lcW vs g t w k (l.mapIdx dl) [] Γ := by
  have len : ∀ n, (((l.take n).mapIdx f).flatten).length ≤ n := by
    intro n
    induction n with
    | zero => simp
    | succ n ih =>
      rw [List.take_succ]
      cases e : l[n]? with
      | none => simpa using Nat.le_succ_of_le ih
      | some a =>
        have hn : n < l.length := (List.getElem?_eq_some_iff.mp e).1
        rw [show (some a).toList = [a] from rfl, List.mapIdx_append, List.flatten_append, List.length_append]
        have h1 := hf (0 + (l.take n).length) a
        have h2 : ([a].mapIdx fun i => f (i + (l.take n).length)).flatten = f (0 + (l.take n).length) a := by simp
        rw [h2]
        omega
  refine lc_inv (fun i acc Γ' => acc = ((l.take i).mapIdx f).flatten ∧ Γ' = Γ) ⟨rfl, rfl⟩ ?_ ?_
  · rintro i d acc Γ' k' hi ⟨rfl, rfl⟩ hk
    rw [List.getElem?_mapIdx] at hi
    cases e : l[i]? with
    | none => rw [e] at hi; cases hi
    | some a =>
      rw [e] at hi
      have hil : i < l.length := (List.getElem?_eq_some_iff.mp e).1
      cases (Option.some.inj hi)
      refine hs i a _ k' e (by have := len i; rw [sizeLine_eq]; omega) (hk _ _ ⟨?_, rfl⟩)
      rw [List.take_succ, e, show (some a).toList = [a] from rfl, List.mapIdx_append, List.flatten_append]
      congr 1
      rw [List.length_take, Nat.min_eq_left (by omega)]
      simp
  · rintro acc Γ' ⟨rfl, rfl⟩
    rw [List.length_mapIdx, List.take_of_length_le (Nat.le_refl _)]
    exact hd
/-- each item gives one -/
theorem lc_map {α : Type} (l : List α) (dl : Nat → α → D) (f : Nat → α → D) (hl : l.length ≤ 1000000)
    (hs : ∀ (i : Nat) (a : α) (acc : List D) (k : List D → Ev → Prop), l[i]? = some a → acc.length < sizeLine → k (acc ++ [f i a]) Γ → lcT vs g t w k (dl i a) acc Γ)
    (hd : k (l.mapIdx f) Γ) : lcW vs g t w k (l.mapIdx dl) [] Γ := by
  refine lc_list l dl (fun i a => [f i a]) (fun _ _ => Nat.le_refl _) hl hs ?_
  have : ∀ (l : List α) (f : Nat → α → D), (l.mapIdx fun i a => [f i a]).flatten = l.mapIdx f := by
    intro l
    induction l with
    | nil => intro f; rfl
    | cons a l ih => intro f; simp [List.mapIdx_cons, ih]
  rw [this]
  exact hd
/-- each item gives one or none, whatever its place -/
theorem lc_filter {α : Type} (l : List α) (dl : Nat → α → D) (f : Nat → α → Option D) (hl : l.length ≤ 1000000)
    (hs : ∀ (i : Nat) (a : α) (acc : List D) (k : List D → Ev → Prop), l[i]? = some a → acc.length < sizeLine → k (acc ++ (f i a).toList) Γ → lcT vs g t w k (dl i a) acc Γ)
    (hd : k ((l.mapIdx f).filterMap id) Γ) : lcW vs g t w k (l.mapIdx dl) [] Γ := by
  refine lc_list l dl (fun i a => (f i a).toList) (fun i a => by cases f i a <;> simp) hl hs ?_
  have : ∀ (l : List α) (f : Nat → α → Option D), (l.mapIdx fun i a => (f i a).toList).flatten = (l.mapIdx f).filterMap id := by
    intro l
    induction l with
    | nil => intro f; rfl
    | cons a l ih => intro f; cases e : f 0 a <;> simp [List.mapIdx_cons, ih, e]
  rw [this]
  exact hd
end
section
variable {vs : List Nat} {g : WG} {t : WT} {wk wv : WE} {k : List (D × D) → Ev → Prop} {Γ : Ev}
/-- one turn of a dict comprehension -/
def dcT (vs : List Nat) (g : WG) (t : WT) (wk wv : WE) (k : List (D × D) → Ev → Prop) (d : D) (acc : List (D × D)) (Γ : Ev) : Prop :=
  g d Γ fun Γ1 => t Γ1 (fun b Γ2 => if b = true then wk Γ2 (fun rk Γ3 => wv Γ3 (fun rv Γ4 => frW rk Γ4 fun ek Γ5 => frW rv Γ5 fun e Γ6 => isK ek (acc.length < sizeLine ∧ k (dput acc ek e) (wipeE Γ6 vs))) noX) noX
      else k acc (wipeE Γ2 vs)) noX
theorem dc_inv (I : Nat → List (D × D) → Ev → Prop) {ds : List PyData} (h0 : I 0 [] Γ)
    (hs : ∀ (i : Nat) (d : PyData) (acc : List (D × D)) (Γ : Ev) (k : List (D × D) → Ev → Prop), ds[i]? = some d → I i acc Γ → (∀ acc' Γ', I (i + 1) acc' Γ' → k acc' Γ') → dcT vs g t wk wv k d acc Γ)
    (hd : ∀ acc Γ, I ds.length acc Γ → k acc Γ) : dcW vs g t wk wv k ds [] Γ := by
  suffices h : ∀ (r : List PyData) (n : Nat) (acc : List (D × D)) (Γ : Ev), ds.drop n = r → n ≤ ds.length → I n acc Γ → dcW vs g t wk wv k r acc Γ from h ds 0 [] Γ rfl (Nat.zero_le _) h0
  intro r
  induction r with
  | nil =>
    intro n acc Γ e hn h
    have := drop_nil e
    have : n = ds.length := by omega
    subst this
    exact hd _ _ h
  | cons d r ih =>
    intro n acc Γ e hn h
    obtain ⟨h1, h2, h3⟩ := drop_cons e
    exact hs n d acc Γ (fun acc Γ => dcW vs g t wk wv k r acc Γ) h1 h fun acc' Γ' h' => ih (n + 1) acc' Γ' h2 h3 h'
end
theorem map_mapIdx {α β : Type} (l : List α) (f : α → β) : l.map f = l.mapIdx fun _ a => f a := by
  induction l with
  | nil => rfl
  | cons a l ih => simp [List.mapIdx_cons, ih]
theorem enumD_map {α : Type} (l : List α) (f : α → D) : enumD (l.map f) = l.mapIdx fun (i : Nat) a => PyData.tuple [.int (i : Int), f a] := by
  unfold enumD
  suffices h : ∀ (l : List α) (n : Nat), (l.map f).mapIdx (fun (i : Nat) d => PyData.tuple [.int ((i + n : Nat) : Int), d]) = l.mapIdx fun (i : Nat) a => PyData.tuple [.int ((i + n : Nat) : Int), f a] from h l 0
  intro l
  induction l with
  | nil => intro n; rfl
  | cons a l ih =>
    intro n
    rw [List.map_cons, List.mapIdx_cons, List.mapIdx_cons]
    congr 1
    have e1 : (fun (i : Nat) (d : D) => PyData.tuple [.int ((i + 1 + n : Nat) : Int), d]) = fun (i : Nat) (d : D) => PyData.tuple [.int ((i + (1 + n) : Nat) : Int), d] := by funext i d; rw [Nat.add_assoc]
    have e2 : (fun (i : Nat) (a : α) => PyData.tuple [.int ((i + 1 + n : Nat) : Int), f a]) = fun (i : Nat) (a : α) => PyData.tuple [.int ((i + (1 + n) : Nat) : Int), f a] := by funext i a; rw [Nat.add_assoc]
    rw [e1, e2]
    exact ih (1 + n)
theorem rangeD_mapIdx (lo : Int) (n : Nat) : rangeD lo n = (List.range n).mapIdx fun _ (i : Nat) => PyData.int (lo + (i : Int)) := by
  rw [← map_mapIdx]; rfl
theorem mapIdx_fm {α : Type} (f : α → Option D) : ∀ l : List α, (l.mapIdx fun _ a => f a).filterMap id = l.filterMap f
  | [] => rfl
  | a :: l => by
    rw [List.mapIdx_cons, List.filterMap_cons, List.filterMap_cons, mapIdx_fm f l]
    rfl
section
variable {vs : List Nat} {g : WG} {t : WT} {w : WE} {k : List D → Ev → Prop} {Γ : Ev} {α : Type}
theorem lcm_some (l : List α) (dl : α → D) (f : α → Option D) (hl : l.length ≤ 1000000)
    (hs : ∀ (a : α) (acc : List D) (k : List D → Ev → Prop), a ∈ l → acc.length < sizeLine → k (acc ++ (f a).toList) Γ → lcT vs g t w k (dl a) acc Γ)
    (hd : k (l.filterMap f) Γ) : lcW vs g t w k (l.map dl) [] Γ := by
  rw [map_mapIdx]
  refine lc_filter l (fun _ a => dl a) (fun _ a => f a) hl (fun i a acc k hi => hs a acc k (List.mem_of_getElem? hi)) ?_
  rw [mapIdx_fm]
  exact hd
theorem lcm_map (l : List α) (dl f : α → D) (hl : l.length ≤ 1000000)
    (hs : ∀ (a : α) (acc : List D) (k : List D → Ev → Prop), a ∈ l → acc.length < sizeLine → k (acc ++ [f a]) Γ → lcT vs g t w k (dl a) acc Γ)
    (hd : k (l.map f) Γ) : lcW vs g t w k (l.map dl) [] Γ :=
  lcm_some l dl (fun a => some (f a)) hl hs (by rw [List.filterMap_eq_map']; exact hd)
theorem filt_fm (q : α → Bool) (dl : α → D) : ∀ l : List α, l.filterMap (fun a => if q a = true then some (dl a) else none) = (l.filter q).map dl
  | [] => rfl
  | a :: l => by
    rw [List.filterMap_cons, List.filter_cons, filt_fm q dl l]
    cases q a <;> simp
theorem lcm_filt (l : List α) (dl f : α → D) (q : α → Bool) (hl : l.length ≤ 1000000)
    (hs : ∀ (a : α) (acc : List D) (k : List D → Ev → Prop), a ∈ l → acc.length < sizeLine → (q a = true → k (acc ++ [f a]) Γ) → (q a = false → k acc Γ) → lcT vs g t w k (dl a) acc Γ)
    (hd : k ((l.filter q).map f) Γ) : lcW vs g t w k (l.map dl) [] Γ := by
  refine lcm_some l dl (fun a => if q a = true then some (f a) else none) hl (fun a acc k ha hz hk => hs a acc k ha hz (fun e => ?_) (fun e => ?_)) ?_
  · rw [if_pos e] at hk; exact hk
  · rw [if_neg (by rw [e]; simp)] at hk; simpa using hk
  · rw [filt_fm]; exact hd
/-- the places at which a test holds -/
def idxF (p : α → Bool) : Nat → List α → List Nat
  | _, [] => []
  | n, a :: r => if p a = true then n :: idxF p (n + 1) r else idxF p (n + 1) r
theorem idxF_fm (p : α → Bool) : ∀ (l : List α) (n : Nat), (l.mapIdx fun i a => if p a = true then some (PyData.int ((i + n : Nat) : Int)) else none).filterMap id = (idxF p n l).map fun i : Nat => PyData.int (i : Int)
  | [], _ => rfl
  | a :: l, n => by
    rw [List.mapIdx_cons, List.filterMap_cons, idxF]
    have e : (fun (i : Nat) (a : α) => if p a = true then some (PyData.int ((i + 1 + n : Nat) : Int)) else none) = fun (i : Nat) (a : α) => if p a = true then some (PyData.int ((i + (n + 1) : Nat) : Int)) else none := by funext i a; rw [Nat.add_assoc, Nat.add_comm 1 n]
    rw [e, idxF_fm p l (n + 1)]
    cases p a <;> simp
theorem idxF_length (p : α → Bool) : ∀ (l : List α) (n : Nat), (idxF p n l).length ≤ l.length
  | [], _ => Nat.le_refl _
  | a :: l, n => by
    have := idxF_length p l (n + 1)
    rw [idxF]
    split <;> simp <;> omega
theorem idxF_mem {p : α → Bool} {x : Nat} : ∀ {l : List α} {n : Nat}, x ∈ idxF p n l ↔ ∃ i a, x = n + i ∧ l[i]? = some a ∧ p a = true
  | [], n => by simp [idxF]
  | a :: l, n => by
    rw [idxF]
    have ih := @idxF_mem p x l (n + 1)
    constructor
    · intro h
      by_cases ha : p a = true
      · rw [if_pos ha] at h
        rcases List.mem_cons.mp h with rfl | h
        · exact ⟨0, a, rfl, rfl, ha⟩
        · obtain ⟨i, b, e, h1, h2⟩ := ih.mp h
          exact ⟨i + 1, b, by omega, by simpa using h1, h2⟩
      · rw [if_neg ha] at h
        obtain ⟨i, b, e, h1, h2⟩ := ih.mp h
        exact ⟨i + 1, b, by omega, by simpa using h1, h2⟩
    · rintro ⟨i, b, e, h1, h2⟩
      cases i with
      | zero =>
        have : a = b := by simpa using h1
        subst this
        rw [if_pos h2, e]
        exact List.mem_cons_self
      | succ i =>
        have := ih.mpr ⟨i, b, by omega, by simpa using h1, h2⟩
        split
        · exact List.mem_cons_of_mem _ this
        · exact this
theorem idxF_sorted (p : α → Bool) : ∀ (l : List α) (n : Nat), (idxF p n l).Pairwise (· < ·)
  | [], _ => .nil
  | a :: l, n => by
    have ih := idxF_sorted p l (n + 1)
    rw [idxF]
    split
    · refine List.pairwise_cons.mpr ⟨fun x hx => ?_, ih⟩
      obtain ⟨i, b, e, _⟩ := idxF_mem.mp hx
      omega
    · exact ih
/-- [i for i, a in enumerate(l) if p a] -/
theorem lc_idx (l : List α) (dl : α → D) (p : α → Bool) (hl : l.length ≤ 1000000)
    (hs : ∀ (i : Nat) (a : α) (acc : List D) (k : List D → Ev → Prop), l[i]? = some a → acc.length < sizeLine → (p a = true → k (acc ++ [.int (i : Int)]) Γ) → (p a = false → k acc Γ) → lcT vs g t w k (.tuple [.int (i : Int), dl a]) acc Γ)
    (hd : k ((idxF p 0 l).map fun i : Nat => .int (i : Int)) Γ) : lcW vs g t w k (enumD (l.map dl)) [] Γ := by
  rw [enumD_map]
  refine lc_filter l _ (fun i a => if p a = true then some (PyData.int ((i + 0 : Nat) : Int)) else none) hl (fun i a acc k hi hz hk => hs i a acc k hi hz (fun e => ?_) (fun e => ?_)) ?_
  · rw [if_pos e] at hk; exact hk
  · rw [if_neg (by rw [e]; simp)] at hk; simpa using hk
  · rw [idxF_fm]; exact hd
end
end VL

set_option Elab.async false
set_option linter.all false
set_option maxRecDepth 100000
/-! VSc13: the scores drawn, with a bound of their length. -/
namespace SC
open PySem L2 VL

def e_law_score : WS := wIfS (wOr (wT (wOp oEq (wVar 2) (wC (.int 0)))) (wT (wOp (oIB fun i j => decide (i < j)) (wVar 5) (wVar 2)))) (wSeq (wDrop (wMut 3 fAppend (wCons (wTup (wCons (wC (.str "bar")) (wCons (wVar 10) (wNil)))) wNil))) (wSet 5 (wOp oAdd (wVar 5) (wC (.int 1))))) (wNext)
theorem c_eq : c_law_score = wIfS (wAnd (wT (wOp oEq (wVar 9) (wC (.int 3)))) (wT (wOp (oIn true) (wVar 10) (wVar 4)))) (wSeq (wDrop (wMut 3 fAppend (wCons (wTup (wCons (wC (.str "mark")) (wCons (wVar 10) (wNil)))) wNil))) (wDPut 4 (wVar 10) (wVar 5))) (wIfS (wAnd (wT (wOp (oIB fun i j => decide (j < i)) (wVar 9) (wC (.int 3)))) (wAnd (wT (wOp oNe (wVar 13) (wC (.str "")))) (wAnd (wT (wOp (oIB fun i j => decide (j < i)) (wVar 11) (wC (.int 0)))) (wOr (wT (wOp (oIB fun i j => decide (j < i)) (wVar 14) (wC (.int 0)))) (wOr (wT (wOp oEq (wVar 2) (wC (.int 0)))) (wT (wOp (oIB fun i j => decide (i < j)) (wVar 6) (wC (.int 4))))))))) (wSeq (wDrop (wMut 3 fAppend (wCons (wTup (wCons (wC (.str "repeat")) (wCons (wVar 13) (wCons (wIf (wOr (wT (wOp (oIB fun i j => decide (j < i)) (wVar 14) (wC (.int 0)))) (wT (wOp oEq (wVar 2) (wC (.int 0))))) (wVar 11) (wC (.int 1))) (wNil))))) wNil))) (wSet 5 (wOp oAdd (wVar 5) (wOp oMul (wVar 11) (wVar 14))))) e_law_score) := rfl
structure ScJ (cap : Int) (i : Nat) (l : List It) (ps : List (D × D)) (len : Int) : Prop where
  ok : ok [] l
  ll : l.length ≤ i
  mks : Marks ps (mk [] l)
  ks : ∃ ks : List Str, ps.map (·.1) = ks.map .str ∧ ks.length ≤ i ∧ ∀ n ∈ ks, n ∈ mk [] l ∧ nameB n = true
  vals : ∀ x v, dget ps (.str x) = some v → v = .int ((st p0 l).1 x)
  tot : len = total l
  top : 0 < cap → len ≤ cap
theorem ScJ.up {cap : Int} {i : Nat} {l : List It} {ps : List (D × D)} {len : Int} (h : ScJ cap i l ps len) : ScJ cap (i + 1) l ps len :=
  ⟨h.ok, Nat.le_succ_of_le h.ll, h.mks, let ⟨ks, a, b, c⟩ := h.ks; ⟨ks, a, Nat.le_succ_of_le b, c⟩, h.vals, h.tot, h.top⟩
theorem st_snoc (l : List It) (it : It) : st p0 (l ++ [it]) = stp (st p0 l) it := by unfold st; rw [List.foldl_append]; rfl
theorem mk_valid : ∀ {l : List It} {ms : List Str} {n : Str}, SC.ok ms l → (∀ m ∈ ms, nameB m = true) → n ∈ mk ms l → nameB n = true
  | [], ms, n, _, hm, h => hm n h
  | .bar x :: r, ms, n, h, hm, hn => mk_valid h.2 hm hn
  | .rep x c :: r, ms, n, h, hm, hn => mk_valid h.2.2.2 hm hn
  | .mark x :: r, ms, n, h, hm, hn => mk_valid h.2.2 (fun m hmm => by
      rcases List.mem_cons.mp hmm with rfl | z
      · exact h.1
      · exact hm m z) hn
theorem tail_scoreC (most cap few : Int) (hcap : 0 ≤ cap) (i : Nat) (hi : i ≤ 280) (d : D) (l : List It) (ps : List (D × D)) (len emp way jumps : Int) (nm own : Str) (a8 a12 a14 : Sl) (Dn : WD) (X : XW) (si : ScJ cap i l ps len) (hnm : nameB nm = true) (hown : own = "" ∨ (nameB own = true ∧ own ∈ mk [] l)) (j1 : 1 ≤ jumps) (j2 : jumps < 2 ^ 31)
    (q : ∀ (l : List It) (ps : List (D × D)) (len emp : Int) (a8 a9 a10 a11 a12 a13 a14 : Sl), ScJ cap (i + 1) l ps len → Dn.nx [.io d, .sh (.int most), .sh (.int cap), .ow (.list (sc l)), .ow (.dict ps), .sh (.int len), .sh (.int emp), .sh (.int few), a8, a9, a10, a11, a12, a13, a14]) :
    d_law_score [.io d, .sh (.int most), .sh (.int cap), .ow (.list (sc l)), .ow (.dict ps), .sh (.int len), .sh (.int emp), .sh (.int few), a8, .sh (.int way), .sh (.str nm), .sh (.int jumps), a12, .sh (.str own), a14] Dn X := by
  have hb := bd_st si.ok l.length (Nat.le_refl _)
  rw [List.take_length] at hb
  obtain ⟨b0, b1, b2⟩ := hb
  have hlt : len = (st p0 l).2 := si.tot
  have hll := si.ll
  obtain ⟨j, ej, g0, g1, g2⟩ : ∃ j : Int, (dget ps (.str own)).getD (.int 0) = .int j ∧ 0 ≤ j ∧ j ≤ len ∧ (own ∈ mk [] l → j = (st p0 l).1 own) := by
    cases e : dget ps (.str own) with
    | none =>
      refine ⟨0, rfl, by decide, by omega, fun hm => ?_⟩
      have := si.mks own
      rw [e] at this
      simp [hm] at this
    | some v =>
      rw [si.vals own v e]
      have := b2 own
      exact ⟨_, rfl, this.1, by omega, fun _ => rfl⟩
  have so : SeqAt.shaped (.str own) = true := by
    rcases hown with rfl | ⟨h, _⟩
    · exact sh_e
    · exact shaped_str (name_strOk h)
  have hz : (sc l).length < sizeLine := by rw [sc_length]; exact small (by omega)
  have hpl : ps.length < sizeLine := by
    obtain ⟨ks, k1, k2, _⟩ := si.ks
    have := congrArg List.length k1
    simp at this
    exact small (by omega)
  have kks : ∀ it : It, (∀ n, n ∈ mk [] l → n ∈ mk [] (l ++ [it])) → ∃ ks : List Str, ps.map (·.1) = ks.map .str ∧ ks.length ≤ i + 1 ∧ ∀ n ∈ ks, n ∈ mk [] (l ++ [it]) ∧ nameB n = true := fun it h => by
    obtain ⟨ks, k1, k2, k3⟩ := si.ks
    exact ⟨ks, k1, by omega, fun n hn => ⟨h n (k3 n hn).1, (k3 n hn).2⟩⟩
  have hlen1 : ∀ it : It, (l ++ [it]).length ≤ i + 1 := fun it => by rw [List.length_append]; simp; omega
  have scs : ∀ it : It, sc (l ++ [it]) = sc l ++ [it.d] := fun it => by simp [sc]
  -- the ends
  have eBar : (cap = 0 ∨ len < cap) → ScJ cap (i + 1) (l ++ [.bar nm]) ps (len + 1) := fun hc =>
    ⟨(ok_app _ _ _).mpr ⟨si.ok, hnm, trivial⟩, hlen1 _, by rw [mk_app]; exact si.mks, kks _ fun n h => by rw [mk_app]; exact h, fun x v e => by rw [st_snoc]; exact si.vals x v e, by unfold total; rw [st_snoc]; show len + 1 = (st p0 l).2 + 1; omega, fun h => by omega⟩
  have eRep : ∀ (jj : Int) (len' : Int), own ∈ mk [] l → nameB own = true → 1 ≤ jj → jj < 2 ^ 31 → len' = len + jj * (len - j) → (0 < cap → len' ≤ cap) → ScJ cap (i + 1) (l ++ [.rep own jj]) ps len' := fun jj len' o2 o1 q1 q2 e hc => by
    refine ⟨(ok_app _ _ _).mpr ⟨si.ok, o1, o2, ⟨q1, q2⟩, trivial⟩, hlen1 _, by rw [mk_app]; exact si.mks, kks _ fun n h => by rw [mk_app]; exact h, fun x v e => by rw [st_snoc]; exact si.vals x v e, ?_, hc⟩
    unfold total
    rw [st_snoc, e, g2 o2, hlt]
    rfl
  have eMark : dget ps (.str nm) = none → ScJ cap (i + 1) (l ++ [.mark nm]) (dput ps (.str nm) (.int len)) len := fun hn => by
    have hnot : nm ∉ mk [] l := by
      have := si.mks nm
      rw [hn] at this
      simpa using this
    refine ⟨(ok_app _ _ _).mpr ⟨si.ok, hnm, hnot, trivial⟩, hlen1 _, by rw [mk_app]; exact si.mks.put nm _, ?_, fun x v e => ?_, by unfold total; rw [st_snoc]; exact hlt, si.top⟩
    · obtain ⟨ks, k1, k2, k3⟩ := si.ks
      refine ⟨ks ++ [nm], ?_, by simp; omega, fun n hn' => ?_⟩
      · unfold dput
        have : (ps.any fun p => keyEq p.1 (.str nm)) = false := by
          cases h : ps.any fun p => keyEq p.1 (.str nm) with
          | false => rfl
          | true =>
            obtain ⟨p, hp, hk⟩ := List.any_eq_true.mp h
            unfold dget at hn
            have h2 : (ps.find? fun p => keyEq p.1 (.str nm)) = none := by simpa using hn
            exact absurd hk (List.find?_eq_none.mp h2 p hp)
        rw [if_neg (by rw [this]; simp)]
        simp [k1]
      · rw [mk_app]
        rcases List.mem_append.mp hn' with z | z
        · exact ⟨List.mem_cons_of_mem _ (k3 n z).1, (k3 n z).2⟩
        · have : n = nm := by simpa using z
          subst this
          exact ⟨List.mem_cons_self, hnm⟩
    · rw [dget_putS] at e
      rw [st_snoc]
      show v = .int (if x = nm then (st p0 l).2 else (st p0 l).1 x)
      by_cases hx : nm = x
      · rw [if_pos hx] at e
        rw [if_pos hx.symm, ← hlt]
        exact (Option.some.inj e).symm
      · rw [if_neg hx] at e
        rw [if_neg fun z => hx z.symm]
        exact si.vals x v e
  have qB := fun (hc : cap = 0 ∨ len < cap) emp b8 b9 b10 b11 b12 b13 b14 => q _ _ _ emp b8 b9 b10 b11 b12 b13 b14 (eBar hc)
  have qS := fun emp b8 b9 b10 b11 b12 b13 b14 => q _ _ _ emp b8 b9 b10 b11 b12 b13 b14 si.up
  have qM := fun h emp b8 b9 b10 b11 b12 b13 b14 => q _ _ _ emp b8 b9 b10 b11 b12 b13 b14 (eMark h)
  have qR := fun jj len' h1 h2 h3 h4 h5 h6 emp b8 b9 b10 b11 b12 b13 b14 => q _ _ _ emp b8 b9 b10 b11 b12 b13 b14 (eRep jj len' h1 h2 h3 h4 h5 h6)
  simp only [scs] at qB qM qR
  have bar : ∀ emp jj : Int, e_law_score [.io d, .sh (.int most), .sh (.int cap), .ow (.list (sc l)), .ow (.dict ps), .sh (.int len), .sh (.int emp), .sh (.int few), a8, .sh (.int way), .sh (.str nm), .sh (.int jj), a12, .sh (.str own), .sh (.int (len - j))] Dn X := by
    intro emp jj
    by_cases hc0 : cap = 0
    · simp [e_law_score, eqv_int, shaped_int, hc0]
      rw [hc0] at qB
      exact ⟨hz, qB (.inl rfl) _ _ _ _ _ _ _ _⟩
    · by_cases hlc : len < cap
      · simp [e_law_score, eqv_int, shaped_int, hc0, hlc]
        exact ⟨hz, qB (.inr hlc) _ _ _ _ _ _ _ _⟩
      · simp [e_law_score, eqv_int, shaped_int, hc0, hlc]
        exact qS _ _ _ _ _ _ _ _
  have rest : ∀ emp jj : Int, 0 ≤ jj → jj < 2 ^ 31 → (0 < cap → 0 < len - j → jj * (len - j) ≤ cap - len) →
      c_law_score [.io d, .sh (.int most), .sh (.int cap), .ow (.list (sc l)), .ow (.dict ps), .sh (.int len), .sh (.int emp), .sh (.int few), a8, .sh (.int way), .sh (.str nm), .sh (.int jj), a12, .sh (.str own), .sh (.int (len - j))] Dn X := by
    intro emp jj q1 q2 q3
    rw [c_eq]
    have hmul : CMulW jj (len - j) := mul_ok (b := 32 * l.length + 1) (by omega) (by rw [Nat.pow_succ]; omega) (by omega) (by omega)
    by_cases w3 : way = 3
    · subst w3
      cases hin : dget ps (.str nm) with
      | none =>
        simp [eqv_int, shaped_int, hin]
        exact ⟨hz, hpl, qM hin _ _ _ _ _ _ _ _⟩
      | some v =>
        simp [eqv_int, shaped_int, hin]
        exact bar _ _
    · by_cases h3 : 3 < way
      · by_cases ho : own = ""
        · subst ho
          simp [eqv_int, shaped_int, w3, h3, sh_e, eqv_str]
          exact bar _ _
        · have hown2 : nameB own = true ∧ own ∈ mk [] l := by
            rcases hown with z | z
            · exact absurd z ho
            · exact z
          by_cases hj : 0 < jj
          · by_cases ha : j < len
            · simp [eqv_int, shaped_int, w3, h3, sh_e, eqv_str, so, ho, hj, ha]
              exact ⟨hz, hmul, qR jj _ hown2.2 hown2.1 (by omega) q2 rfl (fun hc => by have := q3 hc (by omega); omega) _ _ _ _ _ _ _ _⟩
            · have ea : len - j = 0 := by omega
              by_cases hc0 : cap = 0
              · rw [hc0] at qR
                simp [eqv_int, shaped_int, w3, h3, sh_e, eqv_str, so, ho, hj, ha, hc0]
                exact ⟨hz, hmul, qR jj _ hown2.2 hown2.1 (by omega) q2 rfl (fun hc => absurd hc (by decide)) _ _ _ _ _ _ _ _⟩
              · by_cases h4 : emp < 4
                · simp [eqv_int, shaped_int, w3, h3, sh_e, eqv_str, so, ho, hj, ha, hc0, h4]
                  refine ⟨hz, hmul, qR 1 _ hown2.2 hown2.1 (by decide) (by decide) ?_ (fun hc => ?_) _ _ _ _ _ _ _ _⟩
                  · rw [ea]; simp
                  · rw [ea]; simp; exact si.top hc
                · simp [eqv_int, shaped_int, w3, h3, sh_e, eqv_str, so, ho, hj, ha, hc0, h4]
                  exact bar _ _
          · simp [eqv_int, shaped_int, w3, h3, sh_e, eqv_str, so, ho, hj]
            exact bar _ _
      · simp [eqv_int, shaped_int, w3, h3]
        exact bar _ _
  have last : ∀ jj : Int, 0 ≤ jj → jj < 2 ^ 31 → (0 < cap → 0 < len - j → jj * (len - j) ≤ cap - len) →
      wSeq (wSet 6 (wOp oAdd (wVar 6) (wCB (o1 oInt) (wCons (wAndV (wOp (oIB fun i j => decide (j < i)) (wVar 9) (wC (.int 3))) (wAndV (wOp oNe (wVar 13) (wC (.str ""))) (wOp oEq (wVar 14) (wC (.int 0))))) (wNil))))) c_law_score
        [.io d, .sh (.int most), .sh (.int cap), .ow (.list (sc l)), .ow (.dict ps), .sh (.int len), .sh (.int emp), .sh (.int few), a8, .sh (.int way), .sh (.str nm), .sh (.int jj), a12, .sh (.str own), .sh (.int (len - j))] Dn X := by
    intro jj q1 q2 q3
    simp [so, sh_e, eqv_str, eqv_int, shaped_int]
    by_cases h3 : 3 < way
    · simp [h3]
      by_cases ho : own = ""
      · simp [ho] at rest ⊢
        exact rest _ jj q1 q2 fun a b => q3 a (by omega)
      · simp [ho]
        exact rest _ jj q1 q2 q3
    · simp [h3]
      exact rest _ jj q1 q2 q3
  unfold d_law_score
  by_cases hc : 0 < cap
  · by_cases ha : j < len
    · have hd : CDivW (cap - len) (len - j) := ⟨by omega, by
        have : (len - j).natAbs < 2 ^ (32 * l.length + 1) := by rw [Nat.pow_succ]; omega
        have := PySem.Flt.log2_lt_of (by omega) this
        omega⟩
      have ht := si.top hc
      have e1 : 0 ≤ (cap - len) / (len - j) := Int.ediv_nonneg (by omega) (by omega)
      have e2 : (cap - len) / (len - j) * (len - j) ≤ cap - len := Int.ediv_mul_le _ (by omega)
      simp only [ev_wSeq, ev_wSet, ev_wOp, ev_wVar, getS_0, getS_s, slVar_sh, slVar_ow, ev_wDGet2, ev_wC, ev_rd_sh, ev_rd_vr, slRd_ow, ev_isD, ev_fr_sh, ev_isKs, ej, ev_oII, true_and, ev_setR_sh, List.set_cons_succ, List.set_cons_zero, ev_wIfS, ev_wAnd, ev_wT, ev_oIB, ev_isB, hc, decide_true, if_true, show decide (0 < len - j) = true from decide_eq_true (by omega), ev_wCB, ev_wCons, ev_wNil, ev_rdAll_cons, ev_rdAll_nil, ev_o2, ev_oMin, hd]
      split
      · exact last _ e1 (by omega) fun _ _ => e2
      · rename_i hmin
        refine last _ (by omega) j2 fun _ _ => ?_
        have : jumps * (len - j) ≤ (cap - len) / (len - j) * (len - j) := Int.mul_le_mul_of_nonneg_right (by omega) (by omega)
        omega
    · simp only [ev_wSeq, ev_wSet, ev_wOp, ev_wVar, getS_0, getS_s, slVar_sh, slVar_ow, ev_wDGet2, ev_wC, ev_rd_sh, ev_rd_vr, slRd_ow, ev_isD, ev_fr_sh, ev_isKs, ej, ev_oII, true_and, ev_setR_sh, List.set_cons_succ, List.set_cons_zero, ev_wIfS, ev_wAnd, ev_wT, ev_oIB, ev_isB, hc, decide_true, if_true, show decide (0 < len - j) = false from decide_eq_false (by omega), Bool.false_eq_true, if_false, ev_wNext]
      exact last _ (by omega) j2 fun _ h => absurd h (by omega)
  · simp only [ev_wSeq, ev_wSet, ev_wOp, ev_wVar, getS_0, getS_s, slVar_sh, slVar_ow, ev_wDGet2, ev_wC, ev_rd_sh, ev_rd_vr, slRd_ow, ev_isD, ev_fr_sh, ev_isKs, ej, ev_oII, true_and, ev_setR_sh, List.set_cons_succ, List.set_cons_zero, ev_wIfS, ev_wAnd, ev_wT, ev_oIB, ev_isB, hc, decide_false, Bool.false_eq_true, if_false, ev_wNext]
    exact last _ (by omega) j2 fun h => absurd h hc
theorem loop_scoreC (most cap few : Int) (hcap : 0 ≤ cap) (hf : 1 ≤ few) (hf2 : few ≤ 26) (n : Nat) (hn : n ≤ 200000) (Dn : WD) (X : XW) (m : Nat) (hm : m ≤ 280) : ∀ (ds : List D) (i : Nat) (d : D) (l : List It) (ps : List (D × D)) (len emp : Int) (a8 a9 a10 a11 a12 a13 a14 : Sl), i + ds.length = m → StrOk (n + 8 * i) d → ScJ cap i l ps len →
    (∀ (d : D) (l : List It) (ps len emp a8 a9 a10 a11 a12 a13 a14), StrOk (n + 8 * m) d → ok [] l → l.length ≤ m → (0 < cap → total l ≤ cap) → Dn.nx [.io d, .sh (.int most), .sh (.int cap), .ow (.list (sc l)), ps, len, emp, .sh (.int few), a8, a9, a10, a11, a12, a13, a14]) →
    loopW (wgName 8) b_law_score Dn X ds [.io d, .sh (.int most), .sh (.int cap), .ow (.list (sc l)), .ow (.dict ps), .sh (.int len), .sh (.int emp), .sh (.int few), a8, a9, a10, a11, a12, a13, a14]
  | [], i, d, l, ps, len, emp, a8, a9, a10, a11, a12, a13, a14, hi, hs, si, q => by
    have : i = m := by simpa using hi
    subst this
    exact q _ _ _ _ _ _ _ _ _ _ _ _ hs si.ok si.ll fun h => by have := si.top h; have := si.tot; omega
  | x :: ds, i, d, l, ps, len, emp, a8, a9, a10, a11, a12, a13, a14, hi, hs, si, q => by
    rw [List.length_cons] at hi
    have nx := loop_scoreC most cap few hcap hf hf2 n hn Dn X m hm ds (i + 1)
    rw [ev_loop_cons]
    simp [b_law_score]
    refine drw hs (by omega) (by decide) (by decide) fun way d1 w0 w1 s1 => ?_
    simp
    refine ⟨_, d1, few, rfl, s1, by omega, rfl, hf, hf2, fun nm d2 hnm0 s2 => ?_⟩
    have hnm := hnm0.1
    simp
    refine drw s2 (by omega) (by decide) (by decide) fun r5 d3 r50 r51 s3 => ?_
    have t9 : CPowW 10 9 := pow10 9 (by decide) (by decide)
    simp [t9]
    refine drw s3 (by omega) (by decide) (by decide) fun r9 d4 r90 r91 s4 => ?_
    simp
    refine drw s4 (by omega) (by decide) (by decide) fun r4 d5 r40 r41 s5 => ?_
    simp
    refine pick r40 (by simpa using r41) fun y hy => ?_
    obtain ⟨jumps, rfl, j1, j2⟩ : ∃ j : Int, y = .int j ∧ 1 ≤ j ∧ j < 2 ^ 31 := by
      simp at hy
      rcases hy with rfl | rfl | rfl | rfl
      · exact ⟨_, rfl, by decide, by decide⟩
      · exact ⟨_, rfl, by decide, by decide⟩
      · exact ⟨_, rfl, by omega, by omega⟩
      · exact ⟨_, rfl, by omega, by omega⟩
    simp
    obtain ⟨ks, k1, k2, k3⟩ := si.ks
    refine ⟨ks, k1, smallE (by omega), fun ys yp ysd => ?_⟩
    have hys : ∀ n ∈ ys, nameB n = true := fun n hn => (k3 n (yp.mem_iff.mp hn)).2
    have sh1 := shaped_strs (ys := ys) fun n hn => name_strOk (hys n hn)
    simp [sh1, eqv_nil, sh_nil]
    have fin : ∀ (d6 : D) (own : Str) (a12 : Sl), StrOk (n + 8 * (i + 1)) d6 → (own = "" ∨ (nameB own = true ∧ own ∈ mk [] l)) →
        d_law_score [.io d6, .sh (.int most), .sh (.int cap), .ow (.list (sc l)), .ow (.dict ps), .sh (.int len), .sh (.int emp), .sh (.int few), .sh x, .sh (.int way), .sh (.str nm), .sh (.int jumps), a12, .sh (.str own), a14] ⟨loopW (wgName 8) b_law_score Dn X ds, Dn.rt, Dn.nx, loopW (wgName 8) b_law_score Dn X ds⟩ X :=
      fun d6 own a12 s6 ho => tail_scoreC most cap few hcap i (by omega) d6 l ps len emp way jumps nm own (.sh x) a12 a14 _ X si hnm ho j1 j2 fun l' ps' len' emp' b8 b9 b10 b11 b12 b13 b14 si' => nx _ _ _ _ _ _ _ _ _ _ _ _ (by omega) s6 si' q
    by_cases hy0 : ys = []
    · simp [hy0]
      exact fin _ _ _ (s5.mono (by omega)) (.inl rfl)
    · simp [hy0]
      have hl0 : 0 < ys.length := List.length_pos_iff.mpr hy0
      have hyl := yp.length_eq
      refine drw s5 (by omega) (by omega) (by omega) fun r d6 r0 r1 s6 => ?_
      simp
      refine pick r0 (by simpa using r1) fun z hz => ?_
      obtain ⟨s, hsm, rfl⟩ := List.mem_map.mp hz
      simp
      exact fin _ _ _ (s6.mono (by omega)) (.inr ⟨hys s hsm, (k3 s (yp.mem_iff.mp hsm)).1⟩)
def fs_law_scoreC : FS := fun io ds Q _ => ∃ (n : Nat) (d : D) (most cap : Int), io = some (.io d) ∧ StrOk n d ∧ n ≤ 100000 ∧ ds = [.int most, .int cap] ∧ 0 ≤ cap ∧ 0 ≤ most ∧ most ≤ 280 ∧ ∀ (l : List It) d', ok [] l → (l.length : Int) ≤ most → (0 < cap → total l ≤ cap) → StrOk (n + 3000) d' → Q (.ow (.list (sc l))) (some (.io d'))
theorem fv_law_scoreC : FnV fs_law_scoreC 15 w_law_score := by
  rintro io ds Q X ⟨n, d, most, cap, rfl, hs, hn, rfl, hcap, h0, h1, q⟩
  show w_law_score [.io d, .sh (.int most), .sh (.int cap), .no, .no, .no, .no, .no, .no, .no, .no, .no, .no, .no, .no] _ _
  simp [w_law_score]
  refine drw hs (by omega) (by decide) (by decide) fun r d1 r0 r1 s1 => ?_
  simp [ev_wFor]
  refine drw s1 (by omega) (by omega) (by omega) fun k d2 k0 k1 s2 => ?_
  simp
  refine ⟨by omega, by omega, ?_⟩
  have e : (rangeD 0 k.toNat).length = k.toNat := by simp [rangeD]
  refine loop_scoreC most cap (1 + r) hcap (by omega) (by omega) (n + 2) (by omega) _ _ k.toNat (by omega) _ 0 d2 [] [] 0 0 _ _ _ _ _ _ _ (by rw [e]; omega) (s2.mono (by omega)) ⟨trivial, Nat.le_refl _, fun n => by simp [dget, mk], ⟨[], rfl, Nat.le_refl _, fun n h => nomatch h⟩, fun x v h => by simp [dget] at h, rfl, fun h => by omega⟩ ?_
  intro d l ps len emp b8 b9 b10 b11 b12 b13 b14 s3 h2 h3 h4
  simp
  exact q l d h2 (by omega) h4 (s3.mono (by omega))

end SC

set_option Elab.async false
set_option linter.all false
set_option maxRecDepth 100000
/-! VSc14: law k44's places. -/
namespace SC
open PySem L2 VL

/-- a place for a repeat -/
def placeD (p : Nat) (n : Str) (c : Int) : D := .tuple [.int (p : Int), .str n, .int c]
def PlaceOk (l : List It) (p : Nat) (n : Str) (c : Int) : Prop := p ≤ l.length ∧ (∃ j, l[j]? = some (.mark n) ∧ j < p) ∧ 1 ≤ c ∧ c < 2 ^ 31
def fs_law_with : FS := fun io ds Q _ => io = none ∧ ∃ (l : List It) (p : Nat) (n : Str) (c : Int), ds = [.list (sc l), placeD p n c] ∧ p ≤ l.length ∧ l.length ≤ 1000 ∧ Q (.ow (.list (sc (ins l p n c)))) none
def w_law_with : WS := wSeq (wAsg (wVar 1) (wgTup 3 (wgCons (wgName 2) (wgCons (wgName 3) (wgCons (wgName 4) (wgNil)))))) (wRet (wOp oAdd (wOp oAdd (wSlL (wVar 0) (wNoP) (wPart (wVar 2))) (wLst (wCons (wTup (wCons (wC (.str "repeat")) (wCons (wVar 3) (wCons (wVar 4) (wNil))))) (wNil)))) (wSlL (wVar 0) (wPart (wVar 2)) (wNoP))))
theorem fv_law_with : FnV fs_law_with 5 w_law_with := by
  rintro io ds Q X ⟨rfl, l, p, n, c, rfl, hp, hl, q⟩
  show w_law_with [.sh (.list (sc l)), .sh (placeD p n c), .no, .no, .no] _ _
  have z1 : (sc (l.take p)).length + 1 ≤ sizeLine := smallE (by rw [sc_length, List.length_take]; omega)
  have z2 : (sc (l.take p)).length + 1 + (sc (l.drop p)).length ≤ sizeLine := smallE (by rw [sc_length, sc_length, List.length_take, List.length_drop]; omega)
  simp [w_law_with, placeD, z1, z2, sc_ins, cut_take (show p ≤ (sc l).length by rw [sc_length]; exact hp), cut_drop (show p ≤ (sc l).length by rw [sc_length]; exact hp), sc_take, sc_drop]
  exact q
theorem lc_names4 (s0 s1 s2 : Sl) (k : List D → Ev → Prop) : ∀ (r : List It) (acc : List D), acc.length + r.length ≤ 1000 → k (acc ++ (namesM r).map .str) [s0, s1, s2, .no, .no] →
    lcW [4] (wgName 4) (wT (wOp oEq (wOp oIx (wVar 4) (wC (.int 0))) (wC (.str "mark")))) (wOp oIx (wVar 4) (wC (.int 1))) k (sc r) acc [s0, s1, s2, .no, .no]
  | [], acc, _, q => by simpa [lcW, sc, namesM] using q
  | it :: r, acc, hl, q => by
    rw [List.length_cons] at hl
    have hz : acc.length < sizeLine := small (by omega)
    rw [show sc (it :: r) = it.d :: sc r from rfl, lcW]
    cases it with
    | bar n =>
      simp [It.d, sh_bar, sh_mark, eqv_str, bm, wipeE]
      exact lc_names4 s0 s1 s2 k r acc (by omega) q
    | mark n =>
      simp [It.d, sh_mark, eqv_str, mm, wipeE]
      exact ⟨hz, lc_names4 s0 s1 s2 k r _ (by simp; omega) (by simpa [namesM] using q)⟩
    | rep n c =>
      simp [It.d, sh_rep, sh_mark, eqv_str, rm, wipeE]
      exact lc_names4 s0 s1 s2 k r acc (by omega) q
def fs_law_place : FS := fun io ds Q _ => ∃ (n : Nat) (d : D) (l : List It), io = some (.io d) ∧ StrOk n d ∧ n ≤ 100000 ∧ ds = [.list (sc l)] ∧ ok [] l ∧ l.length ≤ 900 ∧ (∀ d', StrOk (n + 10) d' → Q (.sh .none) (some (.io d'))) ∧ ∀ d' p m c, StrOk (n + 10) d' → PlaceOk l p m c → Q (.sh (placeD p m c)) (some (.io d'))
def w_law_place : WS := wSeq (wSet 2 (wCallIo fs_law_draw 0 [] (wCons (wOp oAdd (wCB (o1 oLen) (wCons (wVar 1) (wNil))) (wC (.int 1))) (wNil)))) (wSeq (wSet 3 (wLc [4] (wiL (wSlL (wVar 1) (wNoP) (wPart (wVar 2)))) (wgName 4) (wT (wOp oEq (wOp oIx (wVar 4) (wC (.int 0))) (wC (.str "mark")))) (wOp oIx (wVar 4) (wC (.int 1))))) (wSeq (wIfS (wT (wOp oEq (wVar 3) (wLst (wNil)))) (wRet (wC .none)) (wNext)) (wRet (wTup (wCons (wVar 2) (wCons (wOp oIx (wVar 3) (wCallIo fs_law_draw 0 [] (wCons (wCB (o1 oLen) (wCons (wVar 3) (wNil))) (wNil)))) (wCons (wOp oAdd (wC (.int 1)) (wCallIo fs_law_draw 0 [] (wCons (wOp oIx (wLst (wCons (wC (.int 4)) (wCons (wOp (oII (fun _ _ => True) (· - ·)) (wOp (oII CPowW fun i j => i ^ j.toNat) (wC (.int 10)) (wC (.int 9))) (wC (.int 1))) (wNil)))) (wCallIo fs_law_draw 0 [] (wCons (wC (.int 2)) (wNil)))) (wNil)))) (wNil))))))))
theorem fv_law_place : FnV fs_law_place 5 w_law_place := by
  rintro io ds Q X ⟨n, d, l, rfl, hs, hn, rfl, h, hl, q0, q⟩
  show w_law_place [.io d, .sh (.list (sc l)), .no, .no, .no] _ _
  simp [w_law_place, sc_length]
  refine drw hs (by omega) (by omega) (by omega) fun r d1 r0 r1 s1 => ?_
  obtain ⟨p, rfl⟩ : ∃ p : Nat, r = (p : Int) := ⟨r.toNat, by omega⟩
  have hp : p ≤ l.length := by omega
  simp [ev_wLc, cut_take (show p ≤ (sc l).length by rw [sc_length]; exact hp), sc_take, okW, wipeE]
  refine lc_names4 _ _ _ _ (l.take p) [] (by simp; omega) ?_
  have hnames : ∀ m ∈ namesM (l.take p), ∃ j, l[j]? = some (.mark m) ∧ j < p := fun m hm => by
    obtain ⟨j, hj⟩ := namesM_mem hm
    rw [List.getElem?_take] at hj
    split at hj
    · exact ⟨j, hj, by assumption⟩
    · cases hj
  have sh1 := shaped_strs (ys := namesM (l.take p)) fun m hm => by
    obtain ⟨j, hj, _⟩ := hnames m hm
    exact name_strOk (ok_name h hj)
  have hlen := namesM_len (l.take p)
  rw [List.length_take] at hlen
  simp [restE, sh1, sh_nil, eqv_nil]
  by_cases hy0 : namesM (l.take p) = []
  · simp [hy0]
    exact q0 _ (s1.mono (by omega))
  · simp [hy0]
    have hl0 := List.length_pos_iff.mpr hy0
    refine drw s1 (by omega) (by omega) (by omega) fun r d2 r0 r1 s2 => ?_
    simp
    refine pick r0 (by simpa using r1) fun z hz => ?_
    obtain ⟨own, hom, rfl⟩ := List.mem_map.mp hz
    have hj := hnames own hom
    have t9 : CPowW 10 9 := pow10 9 (by decide) (by decide)
    simp [t9]
    refine drw s2 (by omega) (by decide) (by decide) fun r2 d3 r20 r21 s3 => ?_
    simp
    refine pick r20 (by simpa using r21) fun y hy => ?_
    obtain ⟨m, rfl, m1, m2⟩ : ∃ j : Int, y = .int j ∧ 1 ≤ j ∧ j ≤ 999999999 := by
      simp at hy
      rcases hy with rfl | rfl
      · exact ⟨_, rfl, by decide, by decide⟩
      · exact ⟨_, rfl, by decide, by decide⟩
    simp
    refine drw s3 (by omega) (by omega) (by omega) fun r3 d4 r30 r31 s4 => ?_
    simp
    exact q _ p own (1 + r3) (s4.mono (by omega)) ⟨hp, hj, by omega, by omega⟩
end SC

set_option Elab.async false
set_option linter.all false
set_option maxRecDepth 100000
/-! VCt1: first_times, visit_counts, segment_length, are_integers, is_first_times. -/
namespace SC
open PySem L2 VL

def fs_visit_counts : FS := fs_count_visits
def w_visit_counts : WS := wSeq (wDrop (wCall fs_require_score [] (wCons (wVar 0) (wNil)))) (wRet (wCall fs_count_visits [] (wCons (wVar 0) (wNil))))
theorem fv_visit_counts : FnV fs_visit_counts 1 w_visit_counts := by
  rintro io ds Q X ⟨rfl, l, rfl, h, hl, q⟩
  show w_visit_counts [.sh (.list (sc l))] _ _
  simp [w_visit_counts]
  refine ⟨rfl, l, rfl, h, hl, ?_⟩
  simp
  refine ⟨rfl, l, rfl, h, hl, ?_⟩
  simp
  exact q
def fs_first_times : FS := fs_arrival_times
def w_first_times : WS := wSeq (wDrop (wCall fs_require_score [] (wCons (wVar 0) (wNil)))) (wRet (wCall fs_arrival_times [] (wCons (wVar 0) (wNil))))
theorem fv_first_times : FnV fs_first_times 1 w_first_times := by
  rintro io ds Q X ⟨rfl, l, rfl, h, hl, q⟩
  show w_first_times [.sh (.list (sc l))] _ _
  simp [w_first_times]
  refine ⟨rfl, l, rfl, h, hl, ?_⟩
  simp
  refine ⟨rfl, l, rfl, h, hl, ?_⟩
  simp
  exact q
/-- the length of a repeat's segment -/
def segL (l : List It) (i : Nat) (n : Str) : Int := (st p0 (l.take i)).2 - (st p0 (l.take i)).1 n
def fs_segment_length : FS := fun io ds Q _ => io = none ∧ ∃ (l : List It) (i : Nat) (n : Str) (c : Int), ds = [.list (sc l), .int (i : Int)] ∧ ok [] l ∧ l.length ≤ 1000 ∧ l[i]? = some (.rep n c) ∧ Q (.sh (.int (segL l i n))) none
def w_segment_length : WS := wSeq (wDrop (wCall fs_require_score [] (wCons (wVar 0) (wNil)))) (wSeq (wDrop (wCall fs_require_repeat [] (wCons (wVar 0) (wCons (wVar 1) (wNil))))) (wSeq (wSet 2 (wCall fs_arrival_times [] (wCons (wVar 0) (wNil)))) (wRet (wOp (oII (fun _ _ => True) (· - ·)) (wOp oIx (wVar 2) (wVar 1)) (wOp oIx (wVar 2) (wOp oIx (wCall fs_segment_starts [] (wCons (wVar 0) (wNil))) (wVar 1)))))))
theorem fv_segment_length : FnV fs_segment_length 3 w_segment_length := by
  rintro io ds Q X ⟨rfl, l, i, n, c, rfl, h, hl, hi, q⟩
  have hil : i < l.length := (List.getElem?_eq_some_iff.mp hi).1
  show w_segment_length [.sh (.list (sc l)), .sh (.int (i : Int)), .no] _ _
  simp [w_segment_length]
  refine ⟨rfl, l, rfl, h, hl, ?_⟩
  simp
  refine ⟨rfl, l, i, n, c, rfl, hi, ?_⟩
  simp
  refine ⟨rfl, l, rfl, h, hl, ?_⟩
  simp [ix_lnE (run_at (l := l) (i := i) (by omega))]
  refine ⟨rfl, l, rfl, h, hl, fun sps hSS => ?_⟩
  obtain ⟨j, j1, j2, j3⟩ := hSS i n c hi
  have hj : ((run p0 l).map PyData.int)[j + 1]? = some (.int ((st p0 (l.take i)).1 n)) := by
    rw [run_at (by omega), mark_time h j2 i j1 (by omega)]
  have hj2 := fun k => ix_lnE (k := k) hj
  rw [Int.natCast_add] at hj2
  simp at hj2
  simp [ev_ixd, j3, hj2]
  exact q

theorem take_snoc {α : Type} {l : List α} {n : Nat} {x : α} (h : l[n]? = some x) : l.take (n + 1) = l.take n ++ [x] := by rw [List.take_succ, h]; rfl
/-! ### are_integers -/
def areInts (n : Nat) (v : D) : Bool := match v with
  | .list vs => decide (vs.length = n + 1) && vs.all fun d => isIntD d 0 .none
  | _ => false
def fs_are_integers : FS := fun io ds Q _ => io = none ∧ ∃ (l : List It) (v : D), ds = [.list (sc l), v] ∧ l.length ≤ 1000 ∧ Q (.sh (.bool (areInts l.length v))) none
def w_are_integers : WS := wRet (wAndV (wIsi "list" (wVar 1)) (wAndV (wOp oEq (wCB (o1 oLen) (wCons (wVar 1) (wNil))) (wOp oAdd (wCB (o1 oLen) (wCons (wVar 0) (wNil))) (wC (.int 1)))) (wCB (o1 oAll) (wCons (wLc [2] (wiL (wVar 1)) (wgName 2) (wYes) (wCall fs_is_integer [.none] (wCons (wVar 2) (wCons (wC (.int 0)) (wNil))))) (wNil)))))
theorem fv_are_integers : FnV fs_are_integers 3 w_are_integers := by
  rintro io ds Q X ⟨rfl, l, v, rfl, hl, q⟩
  show w_are_integers [.sh (.list (sc l)), .sh v, .no] _ _
  cases v with
  | list vs =>
    simp [w_are_integers, shaped_int, eqv_int, sc_length, ev_wLc, okW, wipeE]
    by_cases hv : vs.length = l.length + 1
    · have e : (vs.length : Int) = (l.length : Int) + 1 := by omega
      rw [if_pos e]
      have e0 : vs = vs.mapIdx fun _ d => d := by rw [← map_mapIdx]; simp
      have key := fun k h => lc_map (vs := [2]) (g := wgName 2) (t := wYes) (w := wCall fs_is_integer [.none] (wCons (wVar 2) (wCons (wC (.int 0)) (wNil)))) (k := k) (Γ := [.sh (.list (sc l)), .sh (.list vs), .no]) vs (fun _ d => d) (fun _ d => .bool (isIntD d 0 .none)) (by omega) h
      rw [← e0] at key
      refine key _ (fun i d acc k hd hz hk => ?_) ?_
      · simp [lcT]
        exact ⟨rfl, d, 0, .none, rfl, .inl rfl, by simp [wipeE]; exact ⟨hz, hk⟩⟩
      · refine ⟨vs.map fun d => isIntD d 0 .none, ?_, ?_⟩
        · rw [← map_mapIdx, List.map_map]; rfl
        · simp only [areInts, hv] at q
          simpa [List.all_map, Function.comp_def] using q
    · have e : ¬ (vs.length : Int) = (l.length : Int) + 1 := by omega
      rw [if_neg e]
      simpa [areInts, hv] using q
  | _ =>
    simp [w_are_integers, isT]
    simpa [areInts] using q

/-! ### is_first_times -/
def asInts : List D → Option (List Int)
  | [] => some []
  | .int i :: r => (asInts r).map (i :: ·)
  | _ :: _ => none
theorem asInts_map : ∀ ns : List Int, asInts (ns.map .int) = some ns
  | [] => rfl
  | n :: ns => by rw [List.map_cons, asInts, asInts_map ns]; rfl
theorem asInts_some : ∀ {vs : List D} {ns : List Int}, asInts vs = some ns → vs = ns.map .int
  | [], ns, h => by cases h; rfl
  | v :: r, ns, h => by
    cases v with
    | int i =>
      rw [asInts] at h
      cases e : asInts r with
      | none => rw [e] at h; cases h
      | some ms => rw [e] at h; cases h; rw [asInts_some e]; rfl
    | _ => cases h
/-- whether data is this list of ints -/
def isInts (v : D) (ns : List Int) : Bool := match v with
  | .list vs => asInts vs == some ns
  | _ => false
theorem isInts_map (ms ns : List Int) : isInts (.list (ms.map .int)) ns = (ms == ns) := by
  show (asInts (ms.map .int) == some ns) = (ms == ns)
  rw [asInts_map]
  rfl
theorem ints_of {vs : List D} (h : (vs.all fun d => isIntD d 0 .none) = true) : ∃ ns : List Int, vs = ns.map .int ∧ ∀ n ∈ ns, 0 ≤ n := by
  induction vs with
  | nil => exact ⟨[], rfl, fun n h => nomatch h⟩
  | cons v r ih =>
    rw [List.all_cons, Bool.and_eq_true] at h
    obtain ⟨ns, rfl, h2⟩ := ih h.2
    cases v with
    | int i =>
      refine ⟨i :: ns, rfl, fun n hn => ?_⟩
      rcases List.mem_cons.mp hn with rfl | z
      · have := h.1; simpa [isIntD] using this
      · exact h2 n z
    | _ => simp [isIntD] at h
theorem areInts_no {l : List It} {v : D} {ns : List Int} (hl : ns.length = l.length + 1) (h0 : ∀ n ∈ ns, 0 ≤ n) (h : areInts l.length v = false) : isInts v ns = false := by
  cases v with
  | list vs =>
    cases e : isInts (.list vs) ns with
    | false => rfl
    | true =>
      unfold isInts at e
      have e := asInts_some (eq_of_beq e)
      subst e
      have : areInts l.length (.list (ns.map .int)) = true := by
        simp [areInts, hl]
        intro x hx
        simpa [isIntD] using h0 x hx
      rw [this] at h; cases h
  | _ => rfl
theorem run_nonneg {l : List It} (h : ok [] l) : ∀ n ∈ run p0 l, 0 ≤ n := fun n hn => by
  obtain ⟨i, hi⟩ := List.getElem?_of_mem hn
  have hil : i < (run p0 l).length := (List.getElem?_eq_some_iff.mp hi).1
  rw [run_length] at hil
  rw [run_get l p0 i (by omega)] at hi
  cases hi
  exact (bd_st h i (by omega)).1
def fs_is_first_times : FS := fun io ds Q _ => io = none ∧ ∃ (l : List It) (v : D), ds = [.list (sc l), v] ∧ ok [] l ∧ l.length ≤ 1000 ∧ Q (.sh (.bool (isInts v (run p0 l)))) none
def w_is_first_times : WS := wSeq (wDrop (wCall fs_require_score [] (wCons (wVar 0) (wNil)))) (wSeq (wIfS (wOr (wNot (wT (wCall fs_are_integers [] (wCons (wVar 0) (wCons (wVar 1) (wNil)))))) (wT (wOp oNe (wOp oIx (wVar 1) (wC (.int 0))) (wC (.int 0))))) (wRet (wC (.bool false))) (wNext)) (wSeq (wSet 2 (wCall fs_segment_starts [] (wCons (wVar 0) (wNil)))) (wSeq (wFor (wiA enumD (wCons (wVar 0) (wNil))) (wgTup 2 (wgCons (wgName 3) (wgCons (wgName 4) (wgNil)))) (wSeq (wSet 5 (wCB (o1 oInt) (wCons (wOp oEq (wOp oIx (wVar 4) (wC (.int 0))) (wC (.str "bar"))) (wNil)))) (wSeq (wIfS (wT (wOp oEq (wOp oIx (wVar 4) (wC (.int 0))) (wC (.str "repeat")))) (wSet 5 (wOp oMul (wOp oIx (wVar 4) (wC (.int 2))) (wOp (oII (fun _ _ => True) (· - ·)) (wOp oIx (wVar 1) (wVar 3)) (wOp oIx (wVar 1) (wOp oIx (wVar 2) (wVar 3)))))) (wNext)) (wIfS (wT (wOp oNe (wOp oIx (wVar 1) (wOp oAdd (wVar 3) (wC (.int 1)))) (wOp oAdd (wOp oIx (wVar 1) (wVar 3)) (wVar 5)))) (wRet (wC (.bool false))) (wNext))))) (wRet (wC (.bool true))))))
theorem fv_is_first_times : FnV fs_is_first_times 6 w_is_first_times := by
  rintro io ds Q X ⟨rfl, l, v, rfl, h, hl, q⟩
  show w_is_first_times [.sh (.list (sc l)), .sh v, .no, .no, .no, .no] _ _
  simp [w_is_first_times]
  refine ⟨rfl, l, rfl, h, hl, ?_⟩
  simp
  refine ⟨rfl, l, v, rfl, hl, ?_⟩
  cases ha : areInts l.length v with
  | false =>
    rw [areInts_no (run_length l p0) (run_nonneg h) ha] at q
    simp
    exact q
  | true =>
    cases v with
    | list vs =>
      simp only [areInts, Bool.and_eq_true, decide_eq_true_eq] at ha
      obtain ⟨ns, rfl, h0⟩ := ints_of ha.2
      have hnl : ns.length = l.length + 1 := by simpa using ha.1
      rw [isInts_map] at q
      have hat : ∀ i, i ≤ l.length → ∃ x, ns[i]? = some x ∧ (ns.map PyData.int)[i]? = some (.int x) := fun i hi => by
        have : i < ns.length := by omega
        exact ⟨ns[i], List.getElem?_eq_getElem this, by rw [List.getElem?_map, List.getElem?_eq_getElem this]; rfl⟩
      obtain ⟨x0, hx0, hx0'⟩ := hat 0 (by omega)
      have i0 := fun k => ix_lnE (k := k) hx0'
      simp at i0
      simp [i0, shaped_int, eqv_int]
      by_cases hx : x0 = 0
      · subst hx
        simp
        refine ⟨rfl, l, rfl, h, hl, fun sps hSS => ?_⟩
        simp [ev_wFor, sc, enumD_map]
        refine loop_inv (fun i Γ => ns.take (i + 1) = (run p0 l).take (i + 1) ∧ ∃ a b c, Γ = [.sh (.list (sc l)), .sh (.list (ns.map .int)), .ow (.dict sps), a, b, c]) ⟨?_, _, _, _, rfl⟩ ?_ ?_
        · rw [take_snoc hx0, take_snoc (run_get l p0 0 (by omega))]; rfl
        · rintro i d Γ k hd ⟨hp, a, b, c, rfl⟩ hk
          rw [List.getElem?_mapIdx] at hd
          cases hit : l[i]? with
          | none => rw [hit] at hd; cases hd
          | some it =>
            rw [hit] at hd
            cases (Option.some.inj hd)
            have hil : i < l.length := (List.getElem?_eq_some_iff.mp hit).1
            have same : ∀ j, j ≤ i → ns[j]? = some (st p0 (l.take j)).2 := fun j hj => by
              have := congrArg (·[j]?) hp
              rw [List.getElem?_take_of_lt (by omega), List.getElem?_take_of_lt (by omega), run_get l p0 j (by omega)] at this
              exact this
            have sameD : ∀ j, j ≤ i → (ns.map PyData.int)[j]? = some (.int (st p0 (l.take j)).2) := fun j hj => by rw [List.getElem?_map, same j hj]; rfl
            obtain ⟨y, hy, hy'⟩ := hat (i + 1) (by omega)
            have iy := fun k => ix_lnE (k := k) hy'
            rw [Int.natCast_add] at iy
            simp at iy
            have ii := fun k => ix_lnE (k := k) (sameD i (Nat.le_refl _))
            -- the end of a turn
            have fin : ∀ a b c, y = (stp (st p0 (l.take i)) it).2 → k [.sh (.list (sc l)), .sh (.list (ns.map .int)), .ow (.dict sps), a, b, c] := fun a b c e => hk _ ⟨by
              rw [take_snoc hy, take_snoc (run_get l p0 (i + 1) (by omega)), hp, e, st_take hit], _, _, _, rfl⟩
            have no : y ≠ (stp (st p0 (l.take i)) it).2 → (ns == run p0 l) = false := fun e => by
              cases z : ns == run p0 l with
              | false => rfl
              | true =>
                have z := eq_of_beq z
                rw [z, run_get l p0 (i + 1) (by omega), st_take hit] at hy
                exact absurd (Option.some.inj hy).symm e
            cases it with
            | bar nm =>
              simp [It.d, sh_bar, sh_rep, eqv_str, br, bb, iy, ii, shaped_int, eqv_int]
              by_cases e : y = (st p0 (l.take i)).2 + 1
              · simp [e]; exact fin _ _ _ e
              · rw [no e] at q
                simp [e]; exact q
            | mark nm =>
              simp [It.d, sh_bar, sh_mark, sh_rep, eqv_str, mr, mb, iy, ii, shaped_int, eqv_int]
              by_cases e : y = (st p0 (l.take i)).2
              · simp [e]; exact fin _ _ _ e
              · rw [no e] at q
                simp [e]; exact q
            | rep nm cc =>
              obtain ⟨j, j1, j2, j3⟩ := hSS i nm cc hit
              have hj := sameD (j + 1) (by omega)
              rw [← mark_time h j2 i j1 (by omega)] at hj
              have ij := fun k => ix_lnE (k := k) hj
              rw [Int.natCast_add] at ij
              simp at ij
              have hm := (gain_mul h hl (i := 0) (p := i) (by omega) (n := nm) (ok_count h hit)).1
              simp [It.d, sh_bar, sh_rep, eqv_str, rr, rb, iy, ii, shaped_int, eqv_int, ev_ixd, j3, ij, hm]
              by_cases e : y = (st p0 (l.take i)).2 + cc * ((st p0 (l.take i)).2 - (st p0 (l.take i)).1 nm)
              · simp [e]; exact fin _ _ _ e
              · rw [no e] at q
                simp [e]; exact q
        · rintro Γ ⟨hp, a, b, c, rfl⟩
          have e : ns = run p0 l := by
            rw [List.length_mapIdx, List.take_of_length_le (by omega), List.take_of_length_le (by rw [run_length]; omega)] at hp
            exact hp
          have : (ns == run p0 l) = true := by rw [e]; simp
          rw [this] at q
          simp
          exact q
      · have : (ns == run p0 l) = false := by
          cases z : ns == run p0 l with
          | false => rfl
          | true =>
            have z := eq_of_beq z
            rw [z, run_get l p0 0 (by omega)] at hx0
            exact absurd (Option.some.inj hx0).symm hx
        rw [this] at q
        simp [hx]
        exact q
    | _ => cases ha
end SC

set_option Elab.async false
set_option linter.all false
set_option maxRecDepth 100000
/-! VCn: accumulate, indicator, item_containing, sum_before, locate. -/
namespace SC
open PySem L2 VL

theorem tl_lt {L : List It} (h : ok [] L) : ∀ n, n ≤ L.length → tl L n < 2 ^ (31 * n)
  | 0, _ => by simp [tl, tp, tpS]
  | n + 1, hn => by
    have ih := tl_lt h n (by omega)
    have e31 : 2 ^ (31 * (n + 1)) = 2 ^ (31 * n) * 2147483648 := by rw [show 31 * (n + 1) = 31 * n + 31 by omega, Nat.pow_add]
    rw [e31]
    have hi : n < L.length := by omega
    have e := List.getElem?_eq_getElem hi
    cases c : L[n] with
    | bar m =>
      rw [c] at e
      show (tp L (n + 1)).length < _
      rw [tp_bar e, List.length_append]
      show tl L n + 1 < _
      omega
    | mark m =>
      rw [c] at e
      show (tp L (n + 1)).length < _
      rw [tp_mark e]
      show tl L n < _
      omega
    | rep m k =>
      rw [c] at e
      have hk := ok_count h e
      obtain ⟨j, j1, j2, _⟩ := stt_le h e
      rw [tl_rep h e j2 j1]
      have h1 : k.toNat * (tl L n - tl L (j + 1)) ≤ 2147483647 * tl L n := Nat.mul_le_mul (by omega) (by omega)
      omega
theorem run_tl {L : List It} (h : ok [] L) {n : Nat} (hn : n ≤ L.length) : (run p0 L)[n]? = some ((tl L n : Nat) : Int) := by rw [run_get L p0 n hn, (tp_len h n hn).1]
theorem total_tl {L : List It} (h : ok [] L) : total L = ((tl L L.length : Nat) : Int) := by
  have := (tp_len h L.length (Nat.le_refl _)).1
  rw [List.take_length] at this
  exact this.symm
/-- values of bars, not too great -/
structure Wt (f : Nat → Int) (L : List It) (w : Nat) : Prop where
  lo : ∀ i, 0 ≤ f i
  hi : ∀ i, f i ≤ 2 ^ w
  sz : w + 31 * L.length ≤ 9000
theorem Sf_le {f : Nat → Int} {B : Int} (hf : ∀ i, f i ≤ B) : ∀ l : List Nat, Sf f l ≤ B * (l.length : Int)
  | [] => by simp [Sf]
  | a :: l => by
    have := hf a
    have := Sf_le hf l
    show f a + Sf f l ≤ B * ((l.length + 1 : Nat) : Int)
    rw [Int.natCast_add, Int.mul_add]
    show f a + Sf f l ≤ B * _ + B * (1 : Int)
    omega
theorem Wt.bound {f : Nat → Int} {L : List It} {w : Nat} (W : Wt f L w) (h : ok [] L) {n : Nat} (hn : n ≤ L.length) : 0 ≤ SS1 f L n ∧ (SS1 f L n).natAbs < 2 ^ (w + 31 * L.length) := by
  have h0 : 0 ≤ SS1 f L n := Sf_nonneg fun i _ => W.lo i
  refine ⟨h0, ?_⟩
  have h1 : SS1 f L n ≤ 2 ^ w * (tl L n : Int) := Sf_le W.hi _
  have h2 := tl_lt h n hn
  have h3 : 2 ^ (31 * n) ≤ 2 ^ (31 * L.length) := Nat.pow_le_pow_right (by decide) (by omega)
  have h4 : 2 ^ w * tl L n < 2 ^ w * 2 ^ (31 * L.length) := Nat.mul_lt_mul_of_pos_left (by omega) (Nat.two_pow_pos _)
  rw [Nat.pow_add]
  have h5 : ((2 ^ w * tl L n : Nat) : Int) = 2 ^ w * (tl L n : Int) := by rw [Int.natCast_mul, Int.natCast_pow]; rfl
  omega
theorem Wt.diff {f : Nat → Int} {L : List It} {w : Nat} (W : Wt f L w) (h : ok [] L) {i j : Nat} (hi : i ≤ L.length) (hj : j ≤ i) : 0 ≤ SS1 f L i - SS1 f L j ∧ (SS1 f L i - SS1 f L j).natAbs < 2 ^ (w + 31 * L.length) := by
  have a := W.bound h hi
  have b := W.bound h (show j ≤ L.length by omega)
  have c := SS_mono W.lo hj hi
  omega
/-- the sums of all positions -/
def SL (f : Nat → Int) (L : List It) : List Int := (List.range (L.length + 1)).map (SS1 f L)
theorem SL_length (f : Nat → Int) (L : List It) : (SL f L).length = L.length + 1 := by simp [SL]
theorem SL_get {f : Nat → Int} {L : List It} {n : Nat} (hn : n ≤ L.length) : (SL f L)[n]? = some (SS1 f L n) := by
  unfold SL
  rw [List.getElem?_map, List.getElem?_range (by omega)]
  rfl
theorem SL_at {f : Nat → Int} {L : List It} {n : Nat} (hn : n ≤ L.length) : ((SL f L).map PyData.int)[n]? = some (.int (SS1 f L n)) := by rw [List.getElem?_map, SL_get hn]; rfl
theorem SL_last {f : Nat → Int} {L : List It} : ((SL f L).map PyData.int).getLast? = some (.int (SS1 f L L.length)) := by
  rw [List.getLast?_eq_getElem?, List.length_map, SL_length]
  exact SL_at (Nat.le_refl _)
def gf (gs : List Int) : Nat → Int := fun i => (gs[i]?).getD 0
/-! ### accumulate -/
def fs_accumulate : FS := fun io ds Q _ => io = none ∧ ∃ (l : List It) (gs : List Int) (w : Nat), ds = [.list (sc l), .list (gs.map .int)] ∧ ok [] l ∧ gs.length = l.length ∧ Wt (gf gs) l w ∧ (∀ i m, l[i]? = some (.mark m) → gf gs i = 0) ∧ Q (.ow (.list ((SL (gf gs) l).map .int))) none
def w_accumulate : WS := wSeq (wSet 2 (wLst (wCons (wC (.int 0)) (wNil)))) (wSeq (wSet 3 (wCall fs_segment_starts [] (wCons (wVar 0) (wNil)))) (wSeq (wFor (wiA enumD (wCons (wVar 0) (wNil))) (wgTup 2 (wgCons (wgName 4) (wgCons (wgName 5) (wgNil)))) (wSeq (wSet 6 (wOp oIx (wVar 1) (wVar 4))) (wSeq (wIfS (wT (wOp oEq (wOp oIx (wVar 5) (wC (.int 0))) (wC (.str "repeat")))) (wSet 6 (wOp oMul (wOp oIx (wVar 5) (wC (.int 2))) (wOp (oII (fun _ _ => True) (· - ·)) (wOp oIx (wVar 2) (wVar 4)) (wOp oIx (wVar 2) (wOp oIx (wVar 3) (wVar 4)))))) (wNext)) (wDrop (wMut 2 fAppend (wCons (wOp oAdd (wOp oIx (wVar 2) (wVar 4)) (wVar 6)) wNil)))))) (wRet (wVar 2))))
theorem fv_accumulate : FnV fs_accumulate 7 w_accumulate := by
  rintro io ds Q X ⟨rfl, l, gs, w, rfl, h, hgl, hW, hmk, q⟩
  have hl : l.length ≤ 1000 := by have := hW.sz; omega
  show w_accumulate [.sh (.list (sc l)), .sh (.list (gs.map .int)), .no, .no, .no, .no, .no] _ _
  simp [w_accumulate]
  refine ⟨rfl, l, rfl, h, hl, fun sps hSS => ?_⟩
  simp [ev_wFor, sc, enumD_map]
  have s0 : SS1 (gf gs) l 0 = 0 := rfl
  refine loop_inv (fun i Γ => ∃ a b c, Γ = [.sh (.list (sc l)), .sh (.list (gs.map .int)), .ow (.list (((SL (gf gs) l).take (i + 1)).map .int)), .ow (.dict sps), a, b, c]) ⟨_, _, _, by rw [take_snoc (SL_get (Nat.zero_le _)), s0]; rfl⟩ ?_ ?_
  · rintro i d Γ k hd ⟨a, b, c, rfl⟩ hk
    rw [List.getElem?_mapIdx] at hd
    cases hit : l[i]? with
    | none => rw [hit] at hd; cases hd
    | some it =>
      rw [hit] at hd
      cases (Option.some.inj hd)
      have hil : i < l.length := (List.getElem?_eq_some_iff.mp hit).1
      have atS : ∀ j, j ≤ i → (((SL (gf gs) l).take (i + 1)).map PyData.int)[j]? = some (.int (SS1 (gf gs) l j)) := fun j hj => by
        rw [List.getElem?_map, List.getElem?_take_of_lt (by omega), SL_get (by omega)]; rfl
      have hz : (((SL (gf gs) l).take (i + 1)).map PyData.int).length < sizeLine := by
        rw [List.length_map, List.length_take]; exact small (by omega)
      have ii := fun k => ix_lnE (k := k) (atS i (Nat.le_refl _))
      have hg : (gs.map PyData.int)[i]? = some (.int (gf gs i)) := by
        have : i < gs.length := by omega
        unfold gf
        rw [List.getElem?_map, List.getElem?_eq_getElem this]; rfl
      have ig := fun k => ix_lnE (k := k) hg
      have fin := fun a b c => hk _ ⟨a, b, c, rfl⟩
      rw [take_snoc (SL_get (f := gf gs) (L := l) (n := i + 1) (by omega)), List.map_append] at fin
      generalize ((SL (gf gs) l).take (i + 1)).map PyData.int = B at *
      cases it with
      | bar nm =>
        rw [SS_bar hit] at fin
        simp [It.d, sh_bar, sh_rep, eqv_str, br, ii, ig]
        exact ⟨hz, fin _ _ _⟩
      | mark nm =>
        rw [SS_mark hit] at fin
        simp [It.d, sh_mark, sh_rep, eqv_str, mr, ii, ig, hmk i nm hit]
        exact ⟨hz, fin _ _ _⟩
      | rep nm cc =>
        obtain ⟨j, j1, j2, j3⟩ := hSS i nm cc hit
        rw [SS_rep h hit j2 j1] at fin
        have ij := fun k => ix_lnE (k := k) (atS (j + 1) (by omega))
        rw [Int.natCast_add] at ij
        simp at ij
        have hc := ok_count h hit
        have hd := hW.diff h (i := i) (j := j + 1) (by omega) (by omega)
        have hm : CMulW cc (SS1 (gf gs) l i - SS1 (gf gs) l (j + 1)) := wide_mul (a := 32) (b := w + 31 * l.length) (by omega) hd.2 (by decide) (by have := hW.sz; omega) (by have := hW.sz; omega)
        simp [It.d, sh_rep, eqv_str, rr, ii, ig, ev_ixd, j3, ij, hm]
        exact ⟨hz, fin _ _ _⟩
  · rintro Γ ⟨a, b, c, rfl⟩
    rw [List.length_mapIdx, List.take_of_length_le (by rw [SL_length]; exact Nat.le_refl _)]
    simp
    exact q
/-! ### indicator -/
def fs_indicator : FS := fun io ds Q _ => io = none ∧ ∃ (l : List It) (b : Nat), ds = [.list (sc l), .int (b : Int)] ∧ l.length ≤ 1000 ∧ Q (.ow (.list (((List.range l.length).map (ind b)).map .int))) none
def w_indicator : WS := wRet (wLc [2] (wiR1 (wCons (wCB (o1 oLen) (wCons (wVar 0) (wNil))) (wNil))) (wgName 2) (wYes) (wCB (o1 oInt) (wCons (wOp oEq (wVar 2) (wVar 1)) (wNil))))
theorem fv_indicator : FnV fs_indicator 3 w_indicator := by
  rintro io ds Q X ⟨rfl, l, b, rfl, hl, q⟩
  show w_indicator [.sh (.list (sc l)), .sh (.int (b : Int)), .no] _ _
  simp [w_indicator, ev_wLc, okW, wipeE, sc_length, rangeD]
  refine ⟨by omega, ?_⟩
  refine lcm_map (List.range l.length) (fun i : Nat => .int (i : Int)) (fun i => .int (ind b i)) (by simp; omega) (fun i acc k hi hz hk => ?_) ?_
  · simp [lcT, wipeE, shaped_int, eqv_int]
    refine ⟨hz, ?_⟩
    have e : (if (i : Int) = (b : Int) then (1 : Int) else 0) = ind b i := by
      unfold ind
      by_cases z : i = b
      · subst z; simp
      · rw [if_neg z, if_neg (by omega)]
    rw [e]
    exact hk
  · rw [List.map_map] at q
    exact q
theorem gf_ind {b n : Nat} (hb : b < n) : gf ((List.range n).map (ind b)) = ind b := by
  funext i
  unfold gf
  rw [List.getElem?_map]
  by_cases hi : i < n
  · rw [List.getElem?_range hi]; rfl
  · rw [List.getElem?_eq_none (by simp; omega)]
    unfold ind
    rw [if_neg (by omega)]
    rfl
theorem wt_ind {l : List It} (b : Nat) (hl : l.length ≤ 290) : Wt (ind b) l 0 := ⟨fun i => by unfold ind; split <;> decide, fun i => by unfold ind; split <;> decide, by omega⟩
/-! ### item_containing -/
def fs_item_containing : FS := fun io ds Q _ => io = none ∧ ∃ (vs : List Int) (a x0 : Int), ds = [.list (vs.map .int), .int a] ∧ 2 ≤ vs.length ∧ vs.length ≤ 1000000 ∧ vs[0]? = some x0 ∧ x0 ≤ a ∧
  ∀ (i : Nat) (x : Int), i + 1 < vs.length → vs[i]? = some x → x ≤ a → (∀ (j : Nat) (y : Int), i < j → j + 1 < vs.length → vs[j]? = some y → a < y) → Q (.sh (.int (i : Int))) none
def w_item_containing : WS := wSeq (wSet 2 (wOp (oII (fun _ _ => True) (· - ·)) (wCB (o1 oLen) (wCons (wVar 0) (wNil))) (wC (.int 2)))) (wSeq (wWhile (wT (wOp (oIB fun i j => decide (j < i)) (wOp oIx (wVar 0) (wVar 2)) (wVar 1))) (wAug 2 (oII (fun _ _ => True) (· - ·)) (wC (.int 1)))) (wRet (wVar 2)))
theorem fv_item_containing : FnV fs_item_containing 3 w_item_containing := by
  rintro io ds Q X ⟨rfl, vs, a, x0, rfl, h2, hl, h0, ha, q⟩
  show w_item_containing [.sh (.list (vs.map .int)), .sh (.int a), .no] _ _
  simp [w_item_containing]
  refine while_inv (fun n Γ => Γ = [.sh (.list (vs.map .int)), .sh (.int a), .sh (.int (n : Int))] ∧ n + 1 < vs.length ∧ ∀ (j : Nat) (y : Int), n < j → j + 1 < vs.length → vs[j]? = some y → a < y) (vs.length - 2) ⟨?_, by omega, fun j y h1 h2 => by omega⟩ ?_
  · rw [show ((vs.length : Int) - 2) = ((vs.length - 2 : Nat) : Int) by omega]
  · rintro n Γ k ⟨rfl, hn, hj⟩ hk
    have hx : vs[n]? = some vs[n] := List.getElem?_eq_getElem (by omega)
    have ix := fun k => ix_lnE (k := k) (show (vs.map PyData.int)[n]? = some (.int vs[n]) by rw [List.getElem?_map, hx]; rfl)
    simp [ix]
    by_cases hc : a < vs[n]
    · simp [hc]
      have hn0 : n ≠ 0 := fun z => by
        subst z
        rw [hx] at h0
        have := Option.some.inj h0
        omega
      refine hk (n - 1) _ (by omega) ⟨by rw [show ((n - 1 : Nat) : Int) = (n : Int) - 1 by omega], by omega, fun j y h1 h2 hy => ?_⟩
      by_cases hjn : j = n
      · subst hjn
        rw [hx] at hy
        rw [← Option.some.inj hy]
        exact hc
      · exact hj j y (by omega) h2 hy
    · simp [hc]
      exact q n vs[n] hn hx (by omega) hj
end SC

set_option Elab.async false
set_option linter.all false
set_option maxRecDepth 100000
/-! VCn2: sum_before, locate. -/
namespace SC
open PySem L2 VL

theorem run_tlD {L : List It} (h : ok [] L) {n : Nat} (hn : n ≤ L.length) : ((run p0 L).map PyData.int)[n]? = some (.int ((tl L n : Nat) : Int)) := by rw [List.getElem?_map, run_tl h hn]; rfl
/-- the item that holds a time -/
theorem item_time {L : List It} (h : ok [] L) {r : Nat} (h0 : 0 < r) (hr : r ≤ tl L L.length) {i : Nat} {x : Int} (hi : i + 1 < (run p0 L).length) (hx : (run p0 L)[i]? = some x) (ha : x ≤ (r : Int) - 1) (hj : ∀ (j : Nat) (y : Int), i < j → j + 1 < (run p0 L).length → (run p0 L)[j]? = some y → (r : Int) - 1 < y) : i < L.length ∧ tl L i < r ∧ r ≤ tl L (i + 1) := by
  rw [run_length] at hi
  have hil : i < L.length := by omega
  rw [run_tl h (by omega)] at hx
  have hx := Option.some.inj hx
  refine ⟨hil, by omega, ?_⟩
  by_cases hl : i + 1 = L.length
  · rw [hl]; exact hr
  · have := hj (i + 1) _ (by omega) (by rw [run_length]; omega) (run_tl h (by omega))
    omega
def fs_sum_before : FS := fun io ds Q _ => io = none ∧ ∃ (l : List It) (f : Nat → Int) (w t : Nat), ds = [.list (sc l), .list ((SL f l).map .int), .int (t : Int)] ∧ ok [] l ∧ Wt f l w ∧ t ≤ tl l l.length ∧ Q (.sh (.int (Sb f l t))) none
def w_sum_before : WS := wSeq (wPar [3, 4] (wsCons (wCall fs_arrival_times [] (wCons (wVar 0) (wNil))) (wsCons (wCall fs_segment_starts [] (wCons (wVar 0) (wNil))) (wsNil)))) (wSeq (wSet 5 (wC (.int 0))) (wSeq (wSet 6 (wVar 2)) (wSeq (wWhile (wT (wOp (oIB fun i j => decide (j < i)) (wVar 6) (wC (.int 0)))) (wSeq (wSet 7 (wCall fs_item_containing [] (wCons (wVar 3) (wCons (wOp (oII (fun _ _ => True) (· - ·)) (wVar 6) (wC (.int 1))) (wNil))))) (wSeq (wAug 5 (oII (fun _ _ => True) (· + ·)) (wOp oIx (wVar 1) (wVar 7))) (wSeq (wIfS (wT (wOp oEq (wOp oIx (wOp oIx (wVar 0) (wVar 7)) (wC (.int 0))) (wC (.str "bar")))) (wRet (wOp (oII (fun _ _ => True) (· - ·)) (wOp oAdd (wVar 5) (wOp oIx (wVar 1) (wOp oAdd (wVar 7) (wC (.int 1))))) (wOp oIx (wVar 1) (wVar 7)))) (wNext)) (wSeq (wSet 8 (wOp oIx (wVar 4) (wVar 7))) (wSeq (wAsg (wCB (o2 oDivm) (wCons (wOp (oII (fun _ _ => True) (· - ·)) (wVar 6) (wOp oIx (wVar 3) (wVar 7))) (wCons (wOp (oII (fun _ _ => True) (· - ·)) (wOp oIx (wVar 3) (wVar 7)) (wOp oIx (wVar 3) (wVar 8))) (wNil)))) (wgTup 2 (wgCons (wgName 9) (wgCons (wgName 10) (wgNil))))) (wSeq (wAug 5 (oII (fun _ _ => True) (· + ·)) (wOp (oII (fun _ _ => True) (· - ·)) (wOp oMul (wVar 9) (wOp (oII (fun _ _ => True) (· - ·)) (wOp oIx (wVar 1) (wVar 7)) (wOp oIx (wVar 1) (wVar 8)))) (wOp oIx (wVar 1) (wVar 8)))) (wSet 6 (wOp oAdd (wOp oIx (wVar 3) (wVar 8)) (wVar 10)))))))))) (wRet (wVar 5)))))
theorem fv_sum_before : FnV fs_sum_before 11 w_sum_before := by
  rintro io ds Q X ⟨rfl, l, f, w, t, rfl, h, hW, ht, q⟩
  have hl : l.length ≤ 290 := by have := hW.sz; omega
  show w_sum_before [.sh (.list (sc l)), .sh (.list ((SL f l).map .int)), .sh (.int (t : Int)), .no, .no, .no, .no, .no, .no, .no, .no] _ _
  simp [w_sum_before]
  refine ⟨rfl, l, rfl, h, by omega, ?_⟩
  simp
  refine ⟨rfl, l, rfl, h, by omega, fun sps hSS => ?_⟩
  simp
  refine while_inv (fun r Γ => ∃ s3 tot a7 a8 a9 a10, Γ = [.sh (.list (sc l)), .sh (.list ((SL f l).map .int)), .sh (.int (t : Int)), s3, .ow (.dict sps), .sh (.int tot), .sh (.int (r : Int)), a7, a8, a9, a10] ∧ (s3 = .ow (.list ((run p0 l).map .int)) ∨ s3 = .sh (.list ((run p0 l).map .int))) ∧ r ≤ tl l l.length ∧ tot + Sb f l r = Sb f l t) t ⟨_, _, _, _, _, _, rfl, .inl rfl, ht, by omega⟩ ?_
  rintro r Γ k ⟨s3, tot, a7, a8, a9, a10, rfl, hs3, hr, hsum⟩ hk
  by_cases hr0 : r = 0
  · subst hr0
    have : Sb f l 0 = 0 := rfl
    have e : tot = Sb f l t := by omega
    simp
    rw [e]
    exact q
  · have hrp : (0 : Int) < (r : Int) := by omega
    have hlen2 : 2 ≤ (run p0 l).length := by
      rw [run_length]
      have : l.length ≠ 0 := fun z => by
        have : tl l l.length = 0 := by rw [z]; rfl
        omega
      omega
    have hrn : 0 < r := by omega
    rcases hs3 with rfl | rfl
    all_goals
      simp [hrp, hrn]
      refine ⟨rfl, SC.run p0 l, _, 0, rfl, hlen2, by rw [run_length]; omega, by rw [run_tl h (Nat.zero_le _)]; rfl, by omega, fun i x hi hx ha hj => ?_⟩
      obtain ⟨hil, t1, t2⟩ := item_time h (by omega) hr hi hx ha hj
      have iS := fun k => ix_lnE (k := k) (SL_at (f := f) (L := l) (n := i) (by omega))
      have iS1 := fun k => ix_lnE (k := k) (SL_at (f := f) (L := l) (n := i + 1) (by omega))
      rw [Int.natCast_add] at iS1
      simp at iS1
      have it := fun k => ix_lnE (k := k) (run_tlD h (n := i) (by omega))
      have ei := List.getElem?_eq_getElem hil
      cases c : l[i] with
      | bar m =>
        rw [c] at ei
        have e1 : tl l (i + 1) = tl l i + 1 := by show (tp l (i + 1)).length = _; rw [tp_bar ei, List.length_append]; rfl
        have er : r = tl l (i + 1) := by omega
        rw [er, Sb_tl (by omega)] at hsum
        simp [iS, iS1, ix_lnE (sc_get ei), It.d, sh_bar, eqv_str, bb]
        rw [show tot + SS1 f l i + SS1 f l (i + 1) - SS1 f l i = Sb f l t by omega]
        exact q
      | mark m =>
        rw [c] at ei
        have e1 : tl l (i + 1) = tl l i := by show (tp l (i + 1)).length = _; rw [tp_mark ei]
        omega
      | rep m cc =>
        rw [c] at ei
        obtain ⟨j, j1, j2, j3⟩ := hSS i m cc ei
        have e1 := tl_rep h ei j2 j1
        have hle := tl_mono (L := l) (n := j + 1) (k := i) (by omega)
        have hB : 0 < tl l i - tl l (j + 1) := by
          apply Nat.pos_of_ne_zero
          intro z
          rw [z, Nat.mul_zero] at e1
          omega
        have hBlt : tl l i - tl l (j + 1) < 2 ^ (31 * 290) := by
          have := tl_lt h i (by omega)
          have : 2 ^ (31 * i) ≤ 2 ^ (31 * 290) := Nat.pow_le_pow_right (by decide) (by omega)
          omega
        have ijS := fun k => ix_lnE (k := k) (SL_at (f := f) (L := l) (n := j + 1) (by omega))
        rw [Int.natCast_add] at ijS
        simp at ijS
        have ijt := fun k => ix_lnE (k := k) (run_tlD h (n := j + 1) (by omega))
        rw [Int.natCast_add] at ijt
        simp at ijt
        have eA : (r : Int) - ((tl l i : Nat) : Int) = ((r - tl l i : Nat) : Int) := by omega
        have eB : ((tl l i : Nat) : Int) - ((tl l (j + 1) : Nat) : Int) = ((tl l i - tl l (j + 1) : Nat) : Int) := by omega
        have hD : CDivW ((r : Int) - ((tl l i : Nat) : Int)) (((tl l i : Nat) : Int) - ((tl l (j + 1) : Nat) : Int)) := by
          rw [eB]
          exact wide_div (b := 31 * 290) (by omega) (by simpa using hBlt) (by decide) (by decide)
        have hq : (r - tl l i) / (tl l i - tl l (j + 1)) ≤ cc.toNat := by
          have : (r - tl l i) / (tl l i - tl l (j + 1)) ≤ cc.toNat * (tl l i - tl l (j + 1)) / (tl l i - tl l (j + 1)) := Nat.div_le_div_right (by omega)
          rwa [Nat.mul_div_cancel _ hB] at this
        have hc := ok_count h ei
        have hd := hW.diff h (i := i) (j := j + 1) (by omega) (by omega)
        have hmod := Nat.mod_lt (r - tl l i) hB
        have hdm := Nat.div_add_mod (r - tl l i) (tl l i - tl l (j + 1))
        rw [Nat.mul_comm] at hdm
        simp [iS, iS1, ix_lnE (sc_get ei), It.d, sh_bar, sh_rep, eqv_str, rb, ev_ixd, j3, it, ijt, ijS, hD]
        rw [eA, eB, ← Int.natCast_ediv, ← Int.natCast_emod]
        generalize (r - tl l i) / (tl l i - tl l (j + 1)) = K at *
        generalize (r - tl l i) % (tl l i - tl l (j + 1)) = M at *
        have hm : CMulW (K : Int) (SS1 f l i - SS1 f l (j + 1)) := wide_mul (a := 32) (b := w + 31 * l.length) (by omega) hd.2 (by decide) (by omega) (by have := hW.sz; omega)
        have hS := Sb_rep (f := f) h ei j2 j1 hmod (k := K) (by omega)
        rw [show tl l i + K * (tl l i - tl l (j + 1)) + M = r by omega] at hS
        refine ⟨hm, hk (tl l (j + 1) + M) _ (by omega) ⟨_, _, _, _, _, _, rfl, .inr rfl, by omega, ?_⟩⟩
        rw [← hsum, hS]
        omega
end SC

set_option Elab.async false
set_option linter.all false
set_option maxRecDepth 100000
/-! VCn3: locate; require_bar, require_time; plays_before, nth_play, next_play, play_count. -/
namespace SC
open PySem L2 VL

def fs_locate : FS := fun io ds Q _ => io = none ∧ ∃ (l : List It) (f : Nat → Int) (w : Nat) (a : Int), ds = [.list (sc l), .list ((SL f l).map .int), .int a] ∧ ok [] l ∧ Wt f l w ∧ 0 ≤ a ∧ a < SS1 f l l.length ∧
  ∀ (t : Nat) (r : Int), Loc f l a t r → Q (.sh (.tuple [.int (t : Int), .int r])) none
def w_locate : WS := wSeq (wPar [3, 4] (wsCons (wCall fs_arrival_times [] (wCons (wVar 0) (wNil))) (wsCons (wCall fs_segment_starts [] (wCons (wVar 0) (wNil))) (wsNil)))) (wSeq (wSet 5 (wC (.int 0))) (wSeq (wSet 6 (wVar 2)) (wWhile (wT (wC (.bool true))) (wSeq (wSet 7 (wCall fs_item_containing [] (wCons (wVar 1) (wCons (wVar 6) (wNil))))) (wSeq (wAug 5 (oII (fun _ _ => True) (· + ·)) (wOp oIx (wVar 3) (wVar 7))) (wSeq (wAug 6 (oII (fun _ _ => True) (· - ·)) (wOp oIx (wVar 1) (wVar 7))) (wSeq (wIfS (wT (wOp oEq (wOp oIx (wOp oIx (wVar 0) (wVar 7)) (wC (.int 0))) (wC (.str "bar")))) (wRet (wTup (wCons (wVar 5) (wCons (wVar 6) (wNil))))) (wNext)) (wSeq (wSet 8 (wOp oIx (wVar 4) (wVar 7))) (wSeq (wAsg (wCB (o2 oDivm) (wCons (wVar 6) (wCons (wOp (oII (fun _ _ => True) (· - ·)) (wOp oIx (wVar 1) (wVar 7)) (wOp oIx (wVar 1) (wVar 8))) (wNil)))) (wgTup 2 (wgCons (wgName 9) (wgCons (wgName 6) (wgNil))))) (wSeq (wAug 5 (oII (fun _ _ => True) (· + ·)) (wOp (oII (fun _ _ => True) (· - ·)) (wOp oMul (wVar 9) (wOp (oII (fun _ _ => True) (· - ·)) (wOp oIx (wVar 3) (wVar 7)) (wOp oIx (wVar 3) (wVar 8)))) (wOp oIx (wVar 3) (wVar 8)))) (wAug 6 (oII (fun _ _ => True) (· + ·)) (wOp oIx (wVar 1) (wVar 8)))))))))))))
theorem fv_locate : FnV fs_locate 10 w_locate := by
  rintro io ds Q X ⟨rfl, l, f, w, a, rfl, h, hW, ha0, ha1, q⟩
  have hl : l.length ≤ 290 := by have := hW.sz; omega
  show w_locate [.sh (.list (sc l)), .sh (.list ((SL f l).map .int)), .sh (.int a), .no, .no, .no, .no, .no, .no, .no] _ _
  simp [w_locate]
  refine ⟨rfl, l, rfl, h, by omega, ?_⟩
  simp
  refine ⟨rfl, l, rfl, h, by omega, fun sps hSS => ?_⟩
  simp
  refine while_inv (fun n Γ => ∃ (T : Nat) (Ti x : Int) (a7 a8 a9 : Sl), Γ = [.sh (.list (sc l)), .sh (.list ((SL f l).map .int)), .sh (.int a), .ow (.list ((run p0 l).map .int)), .ow (.dict sps), .sh (.int Ti), .sh (.int x), a7, a8, a9] ∧ Ti = (T : Int) ∧ n = x.toNat ∧ 0 ≤ x ∧ x < SS1 f l l.length ∧ ∀ t r, Loc f l x t r → Loc f l a (T + t) r) a.toNat ⟨0, 0, a, _, _, _, rfl, rfl, rfl, ha0, ha1, fun t r hl => by rw [Nat.zero_add]; exact hl⟩ ?_
  rintro n Γ k ⟨T, _, x, a7, a8, a9, rfl, rfl, rfl, x0, x1, hL⟩ hk
  have hlen2 : 2 ≤ (SL f l).length := by
    rw [SL_length]
    have : l.length ≠ 0 := fun z => by
      have : SS1 f l l.length = 0 := by rw [z]; rfl
      omega
    omega
  simp
  refine ⟨rfl, SL f l, x, 0, rfl, hlen2, by rw [SL_length]; omega, by rw [SL_get (Nat.zero_le _)]; rfl, x0, fun i y hi hy hyx hj => ?_⟩
  rw [SL_length] at hi
  have hil : i < l.length := by omega
  rw [SL_get (by omega)] at hy
  have hy := Option.some.inj hy
  subst hy
  have hlt : x < SS1 f l (i + 1) := by
    by_cases z : i + 1 = l.length
    · rw [z]; exact x1
    · exact hj (i + 1) _ (by omega) (by rw [SL_length]; omega) (SL_get (by omega))
  have iS := fun k => ix_lnE (k := k) (SL_at (f := f) (L := l) (n := i) (by omega))
  have it := fun k => ix_lnE (k := k) (run_tlD h (n := i) (by omega))
  have ei := List.getElem?_eq_getElem hil
  cases c : l[i] with
  | bar m =>
    rw [c] at ei
    simp [iS, it, ix_lnE (sc_get ei), It.d, sh_bar, eqv_str, bb]
    have := q _ _ (hL _ _ (loc_bar ⟨m, ei⟩ hyx hlt))
    simpa using this
  | mark m =>
    rw [c] at ei
    rw [SS_mark ei] at hlt
    omega
  | rep m cc =>
    rw [c] at ei
    obtain ⟨j, j1, j2, j3⟩ := hSS i m cc ei
    have e1 := SS_rep (f := f) h ei j2 j1
    have hc := ok_count h ei
    have hd := hW.diff h (i := i) (j := j + 1) (by omega) (by omega)
    have hB : 0 < SS1 f l i - SS1 f l (j + 1) := by
      have : SS1 f l i - SS1 f l (j + 1) ≠ 0 := fun z => by rw [z, Int.mul_zero] at e1; omega
      omega
    have ijS := fun k => ix_lnE (k := k) (SL_at (f := f) (L := l) (n := j + 1) (by omega))
    rw [Int.natCast_add] at ijS
    simp at ijS
    have ijt := fun k => ix_lnE (k := k) (run_tlD h (n := j + 1) (by omega))
    rw [Int.natCast_add] at ijt
    simp at ijt
    have hle := tl_mono (L := l) (n := j + 1) (k := i) (by omega)
    have eB : ((tl l i : Nat) : Int) - ((tl l (j + 1) : Nat) : Int) = ((tl l i - tl l (j + 1) : Nat) : Int) := by omega
    have hw0 : 0 < w + 31 * l.length := by have : 0 < l.length := by omega
                                           omega
    have hD : CDivW (x - SS1 f l i) (SS1 f l i - SS1 f l (j + 1)) := wide_div hB hd.2 hw0 hW.sz
    have m0 := Int.emod_nonneg (x - SS1 f l i) (b := SS1 f l i - SS1 f l (j + 1)) (by omega)
    have m1 := Int.emod_lt_of_pos (x - SS1 f l i) hB
    have dm := Int.mul_ediv_add_emod (x - SS1 f l i) (SS1 f l i - SS1 f l (j + 1))
    have k0 : 0 ≤ (x - SS1 f l i) / (SS1 f l i - SS1 f l (j + 1)) := Int.ediv_nonneg (by omega) (by omega)
    have k1 : (x - SS1 f l i) / (SS1 f l i - SS1 f l (j + 1)) < cc := Int.ediv_lt_of_lt_mul hB (by omega)
    simp [iS, ix_lnE (sc_get ei), It.d, sh_bar, sh_rep, eqv_str, rb, ev_ixd, j3, it, ijt, ijS, hD]
    generalize (x - SS1 f l i) / (SS1 f l i - SS1 f l (j + 1)) = K at *
    generalize (x - SS1 f l i) % (SS1 f l i - SS1 f l (j + 1)) = M at *
    obtain ⟨K, rfl⟩ : ∃ K' : Nat, K = (K' : Int) := ⟨K.toNat, by omega⟩
    have hBt : (tl l i - tl l (j + 1)) < 2 ^ (31 * 290) := by
      have := tl_lt h i (by omega)
      have : 2 ^ (31 * i) ≤ 2 ^ (31 * 290) := Nat.pow_le_pow_right (by decide) (by omega)
      omega
    have hm : CMulW (K : Int) (((tl l i : Nat) : Int) - ((tl l (j + 1) : Nat) : Int)) := by
      rw [eB]
      exact wide_mul (a := 32) (b := 31 * 290) (by omega) (by simpa using hBt) (by decide) (by decide) (by decide)
    refine ⟨hm, hk (M + SS1 f l (j + 1)).toNat _ ?_ ⟨T + (tl l i + K * (tl l i - tl l (j + 1)) - tl l (j + 1)), _, _, _, _, _, rfl, ?_, rfl, ?_, ?_, fun t r hlr => ?_⟩⟩
    · have := hW.bound h (n := j + 1) (by omega)
      omega
    · have : ((K * (tl l i - tl l (j + 1)) : Nat) : Int) = (K : Int) * (((tl l i : Nat) : Int) - ((tl l (j + 1) : Nat) : Int)) := by rw [eB, Int.natCast_mul]
      rw [← this]
      omega
    · have := hW.bound h (n := j + 1) (by omega); omega
    · have := SS_mono (L := l) hW.lo (show i ≤ l.length by omega) (Nat.le_refl _); omega
    · have hlr : Loc f l (SS1 f l (j + 1) + M) t r := by rw [Int.add_comm]; exact hlr
      obtain ⟨b1, b2, b3⟩ := loc_rep h hW.lo ei j2 j1 (k := K) k1 m0 m1 hlr
      have hx : SS1 f l i + K * (SS1 f l i - SS1 f l (j + 1)) + M = x := by rw [Int.mul_comm]; omega
      rw [hx] at b3
      have := hL _ _ b3
      rw [show T + (tl l i + K * (tl l i - tl l (j + 1)) + (t - tl l (j + 1))) = T + (tl l i + K * (tl l i - tl l (j + 1)) - tl l (j + 1)) + t by omega] at this
      exact this
/-! ### what is required -/
def fs_require_bar : FS := fun io ds Q _ => io = none ∧ ∃ (l : List It) (b : Nat) (m : Str), ds = [.list (sc l), .int (b : Int)] ∧ l[b]? = some (.bar m) ∧ Q (.sh .none) none
def w_require_bar : WS := wIfS (wOr (wNot (wT (wCall fs_is_integer [] (wCons (wVar 1) (wCons (wC (.int 0)) (wCons (wOp (oII (fun _ _ => True) (· - ·)) (wCB (o1 oLen) (wCons (wVar 0) (wNil))) (wC (.int 1))) (wNil))))))) (wT (wOp oNe (wOp oIx (wOp oIx (wVar 0) (wVar 1)) (wC (.int 0))) (wC (.str "bar"))))) (wNev) (wNext)
theorem fv_require_bar : FnV fs_require_bar 2 w_require_bar := by
  rintro io ds Q X ⟨rfl, l, b, m, rfl, e, q⟩
  have hb := (List.getElem?_eq_some_iff.mp e).1
  show w_require_bar [.sh (.list (sc l)), .sh (.int (b : Int))] _ _
  simp [w_require_bar]
  refine ⟨rfl, .int (b : Int), 0, .int (((sc l).length : Int) - 1), by simp, .inr ⟨_, rfl⟩, ?_⟩
  have : isIntD (.int (b : Int)) 0 (.int (((sc l).length : Int) - 1)) = true := by simp [isIntD, sc_length]; omega
  rw [this]
  simp [ix_lnE (sc_get e), It.d, sh_bar, eqv_str, bb]
  exact q
def fs_require_time_to : FS := fun io ds Q _ => io = none ∧ ∃ t n : Int, ds = [.int t, .int n] ∧ 0 ≤ t ∧ t ≤ n ∧ Q (.sh .none) none
def w_require_time_to : WS := wIfS (wNot (wT (wCall fs_is_integer [] (wCons (wVar 0) (wCons (wC (.int 0)) (wCons (wVar 1) (wNil))))))) (wNev) (wNext)
theorem fv_require_time_to : FnV fs_require_time_to 2 w_require_time_to := by
  rintro io ds Q X ⟨rfl, t, n, rfl, h0, h1, q⟩
  show w_require_time_to [.sh (.int t), .sh (.int n)] _ _
  simp [w_require_time_to]
  refine ⟨rfl, .int t, 0, .int n, by simp, .inr ⟨_, rfl⟩, ?_⟩
  have : isIntD (.int t) 0 (.int n) = true := by simp [isIntD]; omega
  rw [this]
  simp
  exact q
def fs_require_time : FS := fun io ds Q _ => io = none ∧ ∃ (l : List It) (t : Nat), ds = [.list (sc l), .int (t : Int)] ∧ ok [] l ∧ l.length ≤ 1000 ∧ t ≤ tl l l.length ∧ Q (.sh .none) none
def w_require_time : WS := wDrop (wCall fs_require_time_to [] (wCons (wVar 1) (wCons (wOp oIx (wCall fs_arrival_times [] (wCons (wVar 0) (wNil))) (wUn (fun a k => isI a fun i => k (.sh (.int (-i)))) (wC (.int 1)))) (wNil))))
theorem fv_require_time : FnV fs_require_time 2 w_require_time := by
  rintro io ds Q X ⟨rfl, l, t, rfl, h, hl, ht, q⟩
  show w_require_time [.sh (.list (sc l)), .sh (.int (t : Int))] _ _
  simp [w_require_time]
  refine ⟨rfl, l, rfl, h, hl, ?_⟩
  simp [ix_lastE (run_last l)]
  refine ⟨rfl, _, _, rfl, by omega, by rw [total_tl h]; omega, ?_⟩
  exact q
/-! ### plays -/
/-- how often a bar is played ahead of a time -/
def plays (L : List It) (b t : Nat) : Nat := ((TT L).take t).count b
theorem Sf_ind (b : Nat) : ∀ l : List Nat, Sf (ind b) l = ((l.count b : Nat) : Int)
  | [] => rfl
  | a :: l => by
    show ind b a + Sf (ind b) l = _
    rw [Sf_ind b l, List.count_cons]
    unfold ind
    by_cases e : a = b
    · subst e; simp; omega
    · rw [if_neg e, if_neg (by simpa using e)]; simp
theorem Sb_ind (L : List It) (b t : Nat) : Sb (ind b) L t = ((plays L b t : Nat) : Int) := Sf_ind b _
theorem SS_ind (L : List It) (b : Nat) : SS1 (ind b) L L.length = (((TT L).count b : Nat) : Int) := Sf_ind b _
theorem visits_bar {L : List It} (h : ok [] L) {b : Nat} {m : Str} (e : L[b]? = some (.bar m)) : (vis (L.drop b)).1 = (((TT L).count b : Nat) : Int) := by
  have hb := (List.getElem?_eq_some_iff.mp e).1
  rw [← SS_ind, ind_vis h e, List.drop_eq_getElem_cons hb]
  have : L[b] = .bar m := by rw [List.getElem?_eq_getElem hb] at e; exact Option.some.inj e
  rw [this]
  rfl
theorem loc_ind {L : List It} {b : Nat} {a : Int} {t : Nat} {r : Int} (hl : Loc (ind b) L a t r) : (TT L)[t]? = some b ∧ ((plays L b t : Nat) : Int) = a := by
  obtain ⟨b', e1, e2, r0, r1⟩ := hl
  rw [Sb_ind] at e2
  unfold ind at r1
  by_cases z : b' = b
  · subst z
    rw [if_pos rfl] at r1
    exact ⟨e1, by omega⟩
  · rw [if_neg z] at r1
    omega
def fs_play_count : FS := fun io ds Q _ => io = none ∧ ∃ (l : List It) (b : Nat) (m : Str), ds = [.list (sc l), .int (b : Int)] ∧ ok [] l ∧ l.length ≤ 1000 ∧ l[b]? = some (.bar m) ∧ Q (.sh (.int (((TT l).count b : Nat) : Int))) none
def w_play_count : WS := wSeq (wDrop (wCall fs_require_score [] (wCons (wVar 0) (wNil)))) (wSeq (wDrop (wCall fs_require_bar [] (wCons (wVar 0) (wCons (wVar 1) (wNil))))) (wRet (wOp oIx (wCall fs_count_visits [] (wCons (wVar 0) (wNil))) (wVar 1))))
theorem fv_play_count : FnV fs_play_count 2 w_play_count := by
  rintro io ds Q X ⟨rfl, l, b, m, rfl, h, hl, e, q⟩
  have hb := (List.getElem?_eq_some_iff.mp e).1
  show w_play_count [.sh (.list (sc l)), .sh (.int (b : Int))] _ _
  simp [w_play_count]
  refine ⟨rfl, l, rfl, h, hl, ?_⟩
  simp
  refine ⟨rfl, l, b, m, rfl, e, ?_⟩
  simp
  refine ⟨rfl, l, rfl, h, hl, ?_⟩
  simp [ix_lnE (visL_at (l := l) (i := b) (by omega)), visits_bar h e]
  exact q
def fs_plays_before : FS := fun io ds Q _ => io = none ∧ ∃ (l : List It) (b t : Nat) (m : Str), ds = [.list (sc l), .int (b : Int), .int (t : Int)] ∧ ok [] l ∧ l.length ≤ 290 ∧ l[b]? = some (.bar m) ∧ t ≤ tl l l.length ∧ Q (.sh (.int ((plays l b t : Nat) : Int))) none
def w_plays_before : WS := wSeq (wDrop (wCall fs_require_score [] (wCons (wVar 0) (wNil)))) (wSeq (wDrop (wCall fs_require_bar [] (wCons (wVar 0) (wCons (wVar 1) (wNil))))) (wSeq (wDrop (wCall fs_require_time [] (wCons (wVar 0) (wCons (wVar 2) (wNil))))) (wRet (wCall fs_sum_before [] (wCons (wVar 0) (wCons (wCall fs_accumulate [] (wCons (wVar 0) (wCons (wCall fs_indicator [] (wCons (wVar 0) (wCons (wVar 1) (wNil)))) (wNil)))) (wCons (wVar 2) (wNil))))))))
theorem sums_ind {l : List It} (h : ok [] l) (hl : l.length ≤ 290) {b : Nat} {m : Str} (e : l[b]? = some (.bar m)) {Q : R → Option Sl → Prop} {X : Exn → Option Sl → Prop} (q : Q (.ow (.list ((SL (ind b) l).map .int))) none) :
    fs_accumulate none [.list (sc l), .list (((List.range l.length).map (ind b)).map .int)] Q X := by
  have hb := (List.getElem?_eq_some_iff.mp e).1
  have g := gf_ind hb
  refine ⟨rfl, l, (List.range l.length).map (ind b), 0, rfl, h, by simp, by rw [g]; exact wt_ind b hl, fun i m' z => ?_, by rw [g]; exact q⟩
  rw [g]
  unfold ind
  rw [if_neg fun y => by subst y; rw [e] at z; cases z]
theorem fv_plays_before : FnV fs_plays_before 3 w_plays_before := by
  rintro io ds Q X ⟨rfl, l, b, t, m, rfl, h, hl, e, ht, q⟩
  have hb := (List.getElem?_eq_some_iff.mp e).1
  show w_plays_before [.sh (.list (sc l)), .sh (.int (b : Int)), .sh (.int (t : Int))] _ _
  simp [w_plays_before]
  refine ⟨rfl, l, rfl, h, by omega, ?_⟩
  simp
  refine ⟨rfl, l, b, m, rfl, e, ?_⟩
  simp
  refine ⟨rfl, l, t, rfl, h, by omega, ht, ?_⟩
  simp
  refine ⟨rfl, l, b, rfl, by omega, ?_⟩
  simp only [ev_fr_ow, ev_fr_sh, getS_0, getS_s, slVar_sh]
  refine sums_ind h hl e ?_
  simp only [ev_fr_ow, ev_fr_sh, getS_0, getS_s, slVar_sh]
  refine ⟨rfl, l, ind b, 0, t, rfl, h, wt_ind b hl, ht, ?_⟩
  rw [Sb_ind]
  simp
  exact q
def fs_nth_play : FS := fun io ds Q _ => io = none ∧ ∃ (l : List It) (b n : Nat) (m : Str), ds = [.list (sc l), .int (b : Int), .int (n : Int)] ∧ ok [] l ∧ l.length ≤ 290 ∧ l[b]? = some (.bar m) ∧ n < (TT l).count b ∧
  ∀ t : Nat, (TT l)[t]? = some b → plays l b t = n → Q (.sh (.int (t : Int))) none
def w_nth_play : WS := wSeq (wDrop (wCall fs_require_score [] (wCons (wVar 0) (wNil)))) (wSeq (wDrop (wCall fs_require_bar [] (wCons (wVar 0) (wCons (wVar 1) (wNil))))) (wSeq (wIfS (wNot (wT (wCall fs_is_integer [] (wCons (wVar 2) (wCons (wC (.int 0)) (wCons (wOp (oII (fun _ _ => True) (· - ·)) (wOp oIx (wCall fs_count_visits [] (wCons (wVar 0) (wNil))) (wVar 1)) (wC (.int 1))) (wNil))))))) (wNev) (wNext)) (wRet (wOp oIx (wCall fs_locate [] (wCons (wVar 0) (wCons (wCall fs_accumulate [] (wCons (wVar 0) (wCons (wCall fs_indicator [] (wCons (wVar 0) (wCons (wVar 1) (wNil)))) (wNil)))) (wCons (wVar 2) (wNil))))) (wC (.int 0))))))
theorem fv_nth_play : FnV fs_nth_play 3 w_nth_play := by
  rintro io ds Q X ⟨rfl, l, b, n, m, rfl, h, hl, e, hn, q⟩
  have hb := (List.getElem?_eq_some_iff.mp e).1
  show w_nth_play [.sh (.list (sc l)), .sh (.int (b : Int)), .sh (.int (n : Int))] _ _
  simp [w_nth_play]
  refine ⟨rfl, l, rfl, h, by omega, ?_⟩
  simp
  refine ⟨rfl, l, b, m, rfl, e, ?_⟩
  simp
  refine ⟨rfl, l, rfl, h, by omega, ?_⟩
  simp [ix_lnE (visL_at (l := l) (i := b) (by omega)), visits_bar h e]
  refine ⟨rfl, .int (n : Int), 0, .int ((((TT l).count b : Nat) : Int) - 1), rfl, .inr ⟨_, rfl⟩, ?_⟩
  have : isIntD (.int (n : Int)) 0 (.int ((((TT l).count b : Nat) : Int) - 1)) = true := by simp [isIntD]; omega
  rw [this]
  simp
  refine ⟨rfl, l, b, rfl, by omega, ?_⟩
  simp only [ev_fr_ow, ev_fr_sh, getS_0, getS_s, slVar_sh]
  refine sums_ind h hl e ?_
  simp only [ev_fr_ow, ev_fr_sh, getS_0, getS_s, slVar_sh]
  refine ⟨rfl, l, ind b, 0, n, rfl, h, wt_ind b hl, by omega, by rw [SS_ind]; omega, fun t r hlr => ?_⟩
  obtain ⟨h1, h2⟩ := loc_ind hlr
  simp
  exact q t h1 (by omega)
def fs_next_play : FS := fun io ds Q _ => io = none ∧ ∃ (l : List It) (b t : Nat) (m : Str), ds = [.list (sc l), .int (b : Int), .int (t : Int)] ∧ ok [] l ∧ l.length ≤ 290 ∧ l[b]? = some (.bar m) ∧ t ≤ tl l l.length ∧
  (plays l b t = (TT l).count b → Q (.sh .none) none) ∧ ∀ t' : Nat, (TT l)[t']? = some b → plays l b t' = plays l b t → Q (.sh (.int (t' : Int))) none
def w_next_play : WS := wSeq (wDrop (wCall fs_require_score [] (wCons (wVar 0) (wNil)))) (wSeq (wDrop (wCall fs_require_bar [] (wCons (wVar 0) (wCons (wVar 1) (wNil))))) (wSeq (wDrop (wCall fs_require_time [] (wCons (wVar 0) (wCons (wVar 2) (wNil))))) (wSeq (wSet 3 (wCall fs_accumulate [] (wCons (wVar 0) (wCons (wCall fs_indicator [] (wCons (wVar 0) (wCons (wVar 1) (wNil)))) (wNil))))) (wSeq (wSet 4 (wCall fs_sum_before [] (wCons (wVar 0) (wCons (wVar 3) (wCons (wVar 2) (wNil)))))) (wRet (wIf (wT (wOp (oIB fun i j => decide (i < j)) (wVar 4) (wOp oIx (wVar 3) (wUn (fun a k => isI a fun i => k (.sh (.int (-i)))) (wC (.int 1)))))) (wOp oIx (wCall fs_locate [] (wCons (wVar 0) (wCons (wVar 3) (wCons (wVar 4) (wNil))))) (wC (.int 0))) (wC .none)))))))
theorem fv_next_play : FnV fs_next_play 5 w_next_play := by
  rintro io ds Q X ⟨rfl, l, b, t, m, rfl, h, hl, e, ht, q0, q⟩
  have hb := (List.getElem?_eq_some_iff.mp e).1
  show w_next_play [.sh (.list (sc l)), .sh (.int (b : Int)), .sh (.int (t : Int)), .no, .no] _ _
  simp [w_next_play]
  refine ⟨rfl, l, rfl, h, by omega, ?_⟩
  simp
  refine ⟨rfl, l, b, m, rfl, e, ?_⟩
  simp
  refine ⟨rfl, l, t, rfl, h, by omega, ht, ?_⟩
  simp
  refine ⟨rfl, l, b, rfl, by omega, ?_⟩
  simp only [ev_fr_ow, ev_fr_sh, getS_0, getS_s, slVar_sh]
  refine sums_ind h hl e ?_
  simp
  refine ⟨rfl, l, ind b, 0, t, rfl, h, wt_ind b hl, ht, ?_⟩
  rw [Sb_ind]
  simp [ix_lastE SL_last]
  have hle : plays l b t ≤ (TT l).count b := (List.take_sublist _ _).count_le _
  rw [SS_ind]
  by_cases hc : plays l b t < (TT l).count b
  · have : ((plays l b t : Nat) : Int) < (((TT l).count b : Nat) : Int) := by omega
    simp [hc]
    refine ⟨rfl, l, ind b, 0, (plays l b t : Int), rfl, h, wt_ind b hl, by omega, by rw [SS_ind]; exact this, fun t' r hlr => ?_⟩
    obtain ⟨h1, h2⟩ := loc_ind hlr
    simp
    exact q t' h1 (by omega)
  · simp [hc]
    exact q0 (by omega)
end SC

set_option Elab.async false
set_option linter.all false
set_option maxRecDepth 100000
/-! VDict: dict(a list of pairs). -/
namespace VL
open PySem L2

def dmerge (kvs : List (Key × D)) (acc : List (D × D)) : List (D × D) := kvs.foldl (fun acc p => dput acc (kD p.1) p.2) acc
def oDictP : Op1 := fun d k => isL d fun l => ∃ kvs : List (Key × D), l = kvs.map (fun p => .tuple [kD p.1, p.2]) ∧ k (.ow (.dict (dmerge kvs [])))
def rDictP (K : Fg) : List V → Hp → VK → Prop := fun xs H Q => ∃ (a : Addr) (ps : List Addr) (kvs : List (Key × V)), xs = [.ref a] ∧ SqL K H a (ps.map V.ref) ∧ Paired (fun p kv => SqT K H p [kV kv.1, kv.2]) ps kvs ∧ ∀ p, H p = none → Q (.ref p) (upd H p (.dK (mergeK [] kvs)))
theorem pairs_rep {K : Fg} {Hi H : Hp} (e : Ext Hi H) : ∀ {kvs : List (Key × D)} {xs : List V}, Reps K Hi xs (kvs.map fun p => .tuple [kD p.1, p.2]) → ∃ (ps : List Addr) (kvv : List (Key × V)), xs = ps.map V.ref ∧ Paired (fun p kv => SqT K H p [kV kv.1, kv.2]) ps kvv ∧
    ∀ (acc : List (Key × V)) (accD : List (D × D)), RepKV K Hi acc accD → RepKV K Hi (mergeK acc kvv) (dmerge kvs accD)
  | [], _, .nil => ⟨[], [], rfl, .nil, fun acc accD h => h⟩
  | p :: kvs, _, .cons h r => by
    obtain ⟨ps, kvv, rfl, hp, hm⟩ := pairs_rep e r
    cases h with
    | tup ht hr =>
      rename_i a ys
      cases hr with
      | cons r1 rr =>
        cases rr with
        | cons r2 rr2 =>
          cases rr2
          rename_i v1 v2
          have ek := r1.key
          subst ek
          refine ⟨a :: ps, (p.1, v2) :: kvv, rfl, .cons (SqT.of (e _ _ ht)) hp, fun acc accD h => ?_⟩
          exact hm _ _ (h.put r2)
theorem sem_dictP {G : Gb} : SemN G (rDictP G.K) (o1 oDictP) := by
  refine semN_1 ?_
  intro C Hi σ H Γ x a k Q c ha h q
  obtain ⟨l, rfl, kvs, rfl, h1⟩ := isL_inv h
  obtain ⟨p, xs, rfl, s1, r1⟩ := ha.list c.imm
  obtain ⟨ps, kvv, rfl, hp, hm⟩ := pairs_rep c.imm r1
  exact ⟨p, ps, kvv, rfl, SqL.of s1, hp, fun t ht => q _ _ _ Hi (Ext.refl _) (Out.new c ht (.dct upd_same (hm [] [] .nil))) h1⟩
theorem t_dictP {X : Cx} {G : Gb} (hK : X.K = G.K) (hc : X.calm = true) : T1 X G "dict" (rDictP G.K) (o1 oDictP) := ⟨by rw [← hK]; exact call_dictP hc, sem_dictP⟩
end VL

set_option Elab.async false
set_option linter.all false
set_option maxRecDepth 100000
/-! VCt2: repeats_of, is_visit_counts, the laws' own visits. -/
namespace SC
open PySem L2 VL

theorem sumR_succ' (f : Nat → Int) : ∀ n, sumR (n + 1) f = f 0 + sumR n fun j => f (j + 1)
  | 0 => by simp [sumR]
  | n + 1 => by rw [sumR_succ, sumR_succ' f n, sumR_succ]; omega
/-- a sum over places -/
theorem idxF_sum {α : Type} (p : α → Bool) (q : Nat → Bool) (f : Nat → Int) : ∀ (l : List α) (n : Nat), (((idxF p n l).filter q).map f).sum = sumR l.length fun j => if (l[j]?.map p) = some true ∧ q (n + j) = true then f (n + j) else 0
  | [], n => rfl
  | a :: l, n => by
    have ih := idxF_sum p q f l (n + 1)
    rw [List.length_cons, sumR_succ', idxF]
    have e : (sumR l.length fun j => if (((a :: l)[j + 1]?).map p) = some true ∧ q (n + (j + 1)) = true then f (n + (j + 1)) else 0) = sumR l.length fun j => if (l[j]?.map p) = some true ∧ q (n + 1 + j) = true then f (n + 1 + j) else 0 := by
      congr 1; funext j; rw [show n + (j + 1) = n + 1 + j by omega]; simp
    rw [e, ← ih]
    by_cases ha : p a = true
    · rw [if_pos ha, List.filter_cons]
      by_cases hq : q n = true
      · simp [ha, hq]
      · simp [ha, hq]
    · simp [ha]
def isRepI : It → Bool
  | .rep _ _ => true
  | _ => false
def isRepN (n : Str) : It → Bool
  | .rep m _ => m == n
  | _ => false
theorem isRep_map (l : List It) (j : Nat) : (l[j]?.map isRepI) = some true ↔ isRep l j = true := by
  unfold isRep
  cases l[j]? with
  | none => simp
  | some it => cases it <;> simp [isRepI]
theorem rnm_map (l : List It) (n : Str) (j : Nat) : (l[j]?.map (isRepN n)) = some true ↔ rnm l j = some n := by
  unfold rnm
  cases l[j]? with
  | none => simp
  | some it => cases it <;> simp [isRepN]
/-! ### repeats_of -/
def fs_repeats_of : FS := fun io ds Q _ => io = none ∧ ∃ (l : List It) (n : Str), ds = [.list (sc l), .str n] ∧ l.length ≤ 1000 ∧ (∀ it ∈ l, it.fine) ∧ PyData.strOk n = true ∧ Q (.ow (.list ((idxF (isRepN n) 0 l).map fun i : Nat => .int (i : Int)))) none
def w_repeats_of : WS := wRet (wLc [2, 3] (wiA enumD (wCons (wVar 0) (wNil))) (wgTup 2 (wgCons (wgName 2) (wgCons (wgName 3) (wgNil)))) (wAnd (wT (wOp oEq (wOp oIx (wVar 3) (wC (.int 0))) (wC (.str "repeat")))) (wT (wOp oEq (wOp oIx (wVar 3) (wC (.int 1))) (wVar 1)))) (wVar 2))
theorem fv_repeats_of : FnV fs_repeats_of 4 w_repeats_of := by
  rintro io ds Q X ⟨rfl, l, n, rfl, hl, hf, hn, q⟩
  show w_repeats_of [.sh (.list (sc l)), .sh (.str n), .no, .no] _ _
  simp [w_repeats_of, ev_wLc, okW, wipeE]
  refine lc_idx l It.d (isRepN n) (by omega) (fun i it acc k hi hz h1 h2 => ?_) (by simpa [restE] using q)
  have hfi := hf it (List.mem_of_getElem? hi)
  cases it with
  | bar m => simp [lcT, It.d, sh_bar, sh_rep, eqv_str, br, wipeE]; exact h2 rfl
  | mark m => simp [lcT, It.d, sh_mark, sh_rep, eqv_str, mr, wipeE]; exact h2 rfl
  | rep m c =>
    have hm : SeqAt.shaped (.str m) = true := shaped_str hfi
    simp [lcT, It.d, sh_rep, eqv_str, rr, wipeE, hm, shaped_str hn]
    by_cases e : m = n
    · simp [e]; exact ⟨hz, h1 (by simp [isRepN, e])⟩
    · simp [e]; exact h2 (by simp [isRepN, e])
/-! ### what the entries follow from -/
def expv (l : List It) (G : Nat → Int) (j : Nat) : Int := match l[j]? with
  | some (.bar _) => G (j + 1)
  | some (.rep _ c) => G (j + 1) * (c + 1)
  | some (.mark n) => G (j + 1) - sumR l.length fun r => if rnm l r = some n then cof l r * G (r + 1) else 0
  | none => 0
abbrev Vv (l : List It) (j : Nat) : Int := (vis (l.drop j)).1
theorem rnm_some {l : List It} {j : Nat} {n : Str} (h : rnm l j = some n) : ∃ c, l[j]? = some (.rep n c) := by
  unfold rnm at h
  split at h
  · rename_i m c e
    cases h
    exact ⟨c, e⟩
  · cases h
theorem behind {l : List It} (h : ok [] l) {j r : Nat} {n : Str} (hj : l[j]? = some (.mark n)) (hr : rnm l r = some n) : j < r := by
  obtain ⟨c, e⟩ := rnm_some hr
  obtain ⟨i, i1, i2, _⟩ := stt_le h e
  rw [ok_uniq h hj i2]
  exact i1
theorem expv_vis {l : List It} (h : ok [] l) {j : Nat} (hj : j < l.length) : Vv l j = expv l (Vv l) j := by
  have e : l.drop j = l[j] :: l.drop (j + 1) := List.drop_eq_getElem_cons hj
  have eq : l[j]? = some l[j] := List.getElem?_eq_getElem hj
  unfold expv Vv
  rw [e, eq]
  cases c : l[j] with
  | bar n => rfl
  | rep n k => rfl
  | mark n =>
    show (vis (l.drop (j + 1))).1 - (vis (l.drop (j + 1))).2 n = _
    rw [vis2 l n (j + 1) (by omega)]
    congr 1
    refine sumR_congr fun r hr => ?_
    by_cases hn : rnm l r = some n
    · have := behind h (by rw [eq, c]) hn
      rw [if_pos ⟨hn, by omega⟩, if_pos hn]
    · rw [if_neg (fun z => hn z.1), if_neg hn]
theorem expv_all {l : List It} (h : ok [] l) {G : Nat → Int} (h1 : G l.length = 1) (hG : ∀ j, j < l.length → G j = expv l G j) : ∀ j, j ≤ l.length → G j = Vv l j := by
  suffices z : ∀ d j, j ≤ l.length → l.length - j ≤ d → G j = Vv l j from fun j hj => z _ j hj (Nat.le_refl _)
  intro d
  induction d with
  | zero =>
    intro j hj hd
    have : j = l.length := by omega
    subst this
    rw [h1]; unfold Vv; rw [List.drop_length]; rfl
  | succ d ih =>
    intro j hj hd
    by_cases hjl : j = l.length
    · exact ih j hj (by omega)
    have hj' : j < l.length := by omega
    rw [hG j hj', expv_vis h hj']
    have eq : l[j]? = some l[j] := List.getElem?_eq_getElem hj'
    unfold expv
    rw [eq]
    have i1 := ih (j + 1) (by omega) (by omega)
    cases c : l[j] with
    | bar n => exact i1
    | rep n k => show G (j + 1) * (k + 1) = Vv l (j + 1) * (k + 1); rw [i1]
    | mark n =>
      show G (j + 1) - _ = Vv l (j + 1) - _
      rw [i1]
      congr 1
      refine sumR_congr fun r hr => ?_
      by_cases hn : rnm l r = some n
      · have := behind h (by rw [eq, c]) hn
        rw [if_pos hn, if_pos hn, ih (r + 1) (by omega) (by omega)]
      · rw [if_neg hn, if_neg hn]
theorem cof_bound {l : List It} (h : ok [] l) (j : Nat) : (cof l j).natAbs < 2 ^ 32 := by
  unfold cof
  split
  · rename_i n c e
    have := ok_count h e
    omega
  · decide
/-! ### is_visit_counts -/
def fs_is_visit_counts : FS := fun io ds Q _ => io = none ∧ ∃ (l : List It) (v : D), ds = [.list (sc l), v] ∧ ok [] l ∧ l.length ≤ 1000 ∧ (∀ ns : List Int, v = .list (ns.map .int) → ∀ x ∈ ns, x.natAbs < 2 ^ 400000) ∧ Q (.sh (.bool (isInts v (visL l)))) none
def w_is_visit_counts : WS := wSeq (wDrop (wCall fs_require_score [] (wCons (wVar 0) (wNil)))) (wSeq (wIfS (wOr (wNot (wT (wCall fs_are_integers [] (wCons (wVar 0) (wCons (wVar 1) (wNil)))))) (wT (wOp oNe (wOp oIx (wVar 1) (wUn (fun a k => isI a fun i => k (.sh (.int (-i)))) (wC (.int 1)))) (wC (.int 1))))) (wRet (wC (.bool false))) (wNext)) (wSeq (wFor (wiA enumD (wCons (wVar 0) (wNil))) (wgTup 2 (wgCons (wgName 2) (wgCons (wgName 3) (wgNil)))) (wSeq (wSet 4 (wOp oIx (wVar 1) (wOp oAdd (wVar 2) (wC (.int 1))))) (wSeq (wIfS (wT (wOp oEq (wOp oIx (wVar 3) (wC (.int 0))) (wC (.str "repeat")))) (wAug 4 (oII CMulW (· * ·)) (wOp oAdd (wOp oIx (wVar 3) (wC (.int 2))) (wC (.int 1)))) (wNext)) (wSeq (wIfS (wT (wOp oEq (wOp oIx (wVar 3) (wC (.int 0))) (wC (.str "mark")))) (wAug 4 (oII (fun _ _ => True) (· - ·)) (wCB (o1 oSum) (wCons (wLc [5] (wiL (wCall fs_repeats_of [] (wCons (wVar 0) (wCons (wOp oIx (wVar 3) (wC (.int 1))) (wNil))))) (wgName 5) (wYes) (wOp oMul (wOp oIx (wOp oIx (wVar 0) (wVar 5)) (wC (.int 2))) (wOp oIx (wVar 1) (wOp oAdd (wVar 5) (wC (.int 1)))))) (wNil)))) (wNext)) (wIfS (wT (wOp oNe (wOp oIx (wVar 1) (wVar 2)) (wVar 4))) (wRet (wC (.bool false))) (wNext)))))) (wRet (wC (.bool true)))))
theorem Vv_nonneg {l : List It} (h : ok [] l) {j : Nat} (hj : j ≤ l.length) : 0 ≤ Vv l j := by
  suffices z : ∀ d j, j ≤ l.length → l.length - j ≤ d → 0 < Vv l j from Int.le_of_lt (z _ j hj (Nat.le_refl _))
  intro d
  induction d with
  | zero =>
    intro j hj hd
    have : j = l.length := by omega
    subst this
    unfold Vv; rw [List.drop_length]; decide
  | succ d ih =>
    intro j hj hd
    unfold Vv
    rw [vis1 l h j hj]
    have : 0 ≤ Sv l j j := by
      unfold Sv
      suffices y : ∀ n, n ≤ l.length → 0 ≤ sumR n fun r => if isRep l r = true ∧ j ≤ r ∧ stt l r ≤ j then cof l r * Xv l r else 0 from y _ (Nat.le_refl _)
      intro n
      induction n with
      | zero => intro _; exact Int.le_refl _
      | succ n ihn =>
        intro hn
        rw [sumR_succ]
        have := ihn (by omega)
        by_cases hc : isRep l n = true ∧ j ≤ n ∧ stt l n ≤ j
        · rw [if_pos hc]
          obtain ⟨m, c, e⟩ := isRep_iff.mp hc.1
          have h1 := ok_count h e
          have h2 : cof l n = c := by simp [cof, e]
          have h3 : 0 < Xv l n := ih (n + 1) (by omega) (by omega)
          have := Int.mul_pos (show 0 < cof l n by omega) h3
          omega
        · rw [if_neg hc]; omega
    omega
theorem visL_nonneg {l : List It} (h : ok [] l) : ∀ n ∈ visL l, 0 ≤ n := fun n hn => by
  obtain ⟨i, hi⟩ := List.getElem?_of_mem hn
  have hil : i < (visL l).length := (List.getElem?_eq_some_iff.mp hi).1
  rw [visL_length] at hil
  rw [visL_get l i (by omega)] at hi
  cases hi
  exact Vv_nonneg h (by omega)
theorem fv_is_visit_counts : FnV fs_is_visit_counts 6 w_is_visit_counts := by
  rintro io ds Q X ⟨rfl, l, v, rfl, h, hl, hb, q⟩
  show w_is_visit_counts [.sh (.list (sc l)), .sh v, .no, .no, .no, .no] _ _
  simp [w_is_visit_counts]
  refine ⟨rfl, l, rfl, h, hl, ?_⟩
  simp
  refine ⟨rfl, l, v, rfl, hl, ?_⟩
  cases ha : areInts l.length v with
  | false =>
    rw [areInts_no (visL_length l) (visL_nonneg h) ha] at q
    simp
    exact q
  | true =>
    cases v with
    | list vs =>
      simp only [areInts, Bool.and_eq_true, decide_eq_true_eq] at ha
      obtain ⟨ns, rfl, h0⟩ := ints_of ha.2
      have hnl : ns.length = l.length + 1 := by simpa using ha.1
      have hb := hb ns rfl
      rw [isInts_map] at q
      obtain ⟨G, hG⟩ : ∃ G : Nat → Int, ∀ j, G j = (ns[j]?).getD 0 := ⟨_, fun _ => rfl⟩
      have hat : ∀ i, i ≤ l.length → ns[i]? = some (G i) ∧ (ns.map PyData.int)[i]? = some (.int (G i)) := fun i hi => by
        have : i < ns.length := by omega
        have e : ns[i]? = some (G i) := by rw [hG, List.getElem?_eq_getElem this]; rfl
        exact ⟨e, by rw [List.getElem?_map, e]; rfl⟩
      have hGb : ∀ i, (G i).natAbs < 2 ^ 400000 := fun i => by
        rw [hG]
        cases e : ns[i]? with
        | none => exact Nat.two_pow_pos _
        | some x => exact hb x (List.mem_of_getElem? e)
      have same : ns = visL l → ∀ j, j ≤ l.length → G j = Vv l j := fun e j hj => by
        have := (hat j hj).1
        rw [e, visL_get l j hj] at this
        exact (Option.some.inj this).symm
      have no : ∀ j, j ≤ l.length → G j ≠ Vv l j → (ns == visL l) = false := fun j hj e => by
        cases z : ns == visL l with
        | false => rfl
        | true => exact absurd (same (eq_of_beq z) j hj) e
      have hlast : (ns.map PyData.int).getLast? = some (.int (G l.length)) := by
        rw [List.getLast?_eq_getElem?, List.length_map, hnl]
        exact (hat l.length (Nat.le_refl _)).2
      simp [ix_lastE hlast, shaped_int, eqv_int]
      by_cases hx : G l.length = 1
      · simp [hx, ev_wFor, sc, enumD_map]
        refine loop_inv (fun i Γ => (∀ j, j < i → G j = expv l G j) ∧ ∃ a b c d, Γ = [.sh (.list (sc l)), .sh (.list (ns.map .int)), a, b, c, d] ∧ (d = .no ∨ ∃ x, d = .sh x)) ⟨fun j hj => by omega, _, _, _, _, rfl, .inl rfl⟩ ?_ ?_
        · rintro i d Γ k hd ⟨hp, a, b, c, d5, rfl, hd5⟩ hk
          rw [List.getElem?_mapIdx] at hd
          cases hit : l[i]? with
          | none => rw [hit] at hd; cases hd
          | some it =>
            rw [hit] at hd
            cases (Option.some.inj hd)
            have hil : i < l.length := (List.getElem?_eq_some_iff.mp hit).1
            have iy := fun k => ix_lnE (k := k) (hat (i + 1) (by omega)).2
            rw [Int.natCast_add] at iy
            simp at iy
            have ii := fun k => ix_lnE (k := k) (hat i (by omega)).2
            have fin : ∀ a b c, G i = expv l G i → k [.sh (.list (sc l)), .sh (.list (ns.map .int)), a, b, c, d5] := fun a b c e => hk _ ⟨fun j hj => by
              by_cases z : j = i
              · rw [z]; exact e
              · exact hp j (by omega), _, _, _, _, rfl, hd5⟩
            have no' : G i ≠ expv l G i → (ns == visL l) = false := fun e => by
              cases z : ns == visL l with
              | false => rfl
              | true =>
                have s := same (eq_of_beq z)
                refine absurd ?_ e
                rw [s i (by omega), expv_vis h hil]
                unfold expv
                rw [hit]
                cases it with
                | bar n => exact (s (i + 1) (by omega)).symm
                | rep n c => show _ = G (i + 1) * (c + 1); rw [s (i + 1) (by omega)]
                | mark n =>
                  show Vv l (i + 1) - _ = G (i + 1) - _
                  rw [s (i + 1) (by omega)]
                  congr 1
                  refine sumR_congr fun r hr => ?_
                  rw [s (r + 1) (by omega)]
            cases it with
            | bar nm =>
              have ex : expv l G i = G (i + 1) := by simp [expv, hit]
              rw [ex] at no' fin
              simp [It.d, sh_bar, sh_rep, sh_mark, eqv_str, br, bm, iy, ii, shaped_int, eqv_int]
              by_cases e : G i = G (i + 1)
              · simp [e]; exact fin _ _ _ e
              · rw [no' e] at q
                simp [e]; exact q
            | rep nm cc =>
              have ex : expv l G i = G (i + 1) * (cc + 1) := by simp [expv, hit]
              rw [ex] at no' fin
              have hc := ok_count h hit
              have hm : CMulW (G (i + 1)) (cc + 1) := wide_mul (a := 400000) (b := 33) (hGb _) (by omega) (by decide) (by decide) (by decide)
              simp [It.d, sh_bar, sh_rep, sh_mark, eqv_str, rr, rm, iy, ii, shaped_int, eqv_int, hm]
              by_cases e : G i = G (i + 1) * (cc + 1)
              · simp [e]; exact fin _ _ _ e
              · rw [no' e] at q
                simp [e]; exact q
            | mark nm =>
              have ex : expv l G i = G (i + 1) - sumR l.length fun r => if rnm l r = some nm then cof l r * G (r + 1) else 0 := by simp [expv, hit]
              rw [ex] at no' fin
              have hnm := ok_fine h hit
              have okd : okW [.sh (.list (sc l)), .sh (.list (ns.map .int)), .sh (.int (i : Int)), .sh (.tuple [.str "mark", .str nm]), .sh (.int (G (i + 1))), d5] [5] := by
                rcases hd5 with rfl | ⟨x, rfl⟩ <;> exact ⟨trivial, trivial⟩
              simp [It.d, sh_bar, sh_rep, sh_mark, eqv_str, mr, mm, iy, ii, shaped_int, eqv_int, ev_wLc]
              refine ⟨rfl, l, nm, rfl, hl, fun it hit => by obtain ⟨z, hz⟩ := List.getElem?_of_mem hit; exact ok_fine h hz, hnm, ?_⟩
              simp
              refine ⟨okd, ?_⟩
              refine lcm_map (idxF (isRepN nm) 0 l) (fun r : Nat => .int (r : Int)) (fun r : Nat => .int (cof l r * G (r + 1))) (Nat.le_trans (idxF_length _ _ _) (by omega)) (fun r acc k' hr hz hk' => ?_) ?_
              · obtain ⟨r', it, e, hr1, hr2⟩ := idxF_mem.mp hr
                have : r' = r := by omega
                subst this
                have hrl : r' < l.length := (List.getElem?_eq_some_iff.mp hr1).1
                cases it with
                | bar m => cases hr2
                | mark m => cases hr2
                | rep m cc =>
                  have hcf : cof l r' = cc := by simp [cof, hr1]
                  have ir := fun k => ix_lnE (k := k) (hat (r' + 1) (by omega)).2
                  rw [Int.natCast_add] at ir
                  simp at ir
                  have hc := ok_count h hr1
                  have hm : CMulW cc (G (r' + 1)) := wide_mul (a := 32) (b := 400000) (by omega) (hGb _) (by decide) (by decide) (by decide)
                  rw [hcf] at hk'
                  simp [lcT, wipeE, ix_lnE (sc_get hr1), It.d, ir, hm]
                  exact ⟨hz, hk'⟩
              · have es : ((idxF (isRepN nm) 0 l).map fun r : Nat => cof l r * G (r + 1)).sum = sumR l.length fun r => if rnm l r = some nm then cof l r * G (r + 1) else 0 := by
                  have := idxF_sum (isRepN nm) (fun _ => true) (fun r => cof l r * G (r + 1)) l 0
                  rw [List.filter_eq_self.mpr (fun _ _ => rfl)] at this
                  rw [this]
                  refine sumR_congr fun r hr => ?_
                  rw [Nat.zero_add]
                  by_cases e : rnm l r = some nm
                  · rw [if_pos e, if_pos ⟨(rnm_map _ _ _).mpr e, rfl⟩]
                  · rw [if_neg e, if_neg fun z => e ((rnm_map _ _ _).mp z.1)]
                simp [restE, wipeE]
                refine ⟨(idxF (isRepN nm) 0 l).map fun r : Nat => cof l r * G (r + 1), by rw [List.map_map]; rfl, ?_⟩
                rw [es]
                simp [ii, shaped_int, eqv_int]
                by_cases e : G i = G (i + 1) - sumR l.length fun r => if rnm l r = some nm then cof l r * G (r + 1) else 0
                · simp [← e]
                  exact fin _ _ _ e
                · rw [no' e] at q
                  simp [e]; exact q
        · rintro Γ ⟨hp, a, b, c, d, rfl, _⟩
          have e : ns = visL l := by
            apply List.ext_getElem?
            intro j
            by_cases hj : j ≤ l.length
            · rw [(hat j hj).1, visL_get l j hj, expv_all h hx (by rw [List.length_mapIdx] at hp; exact hp) j hj]
            · rw [List.getElem?_eq_none (by omega), List.getElem?_eq_none (by rw [visL_length]; omega)]
          have : (ns == visL l) = true := by rw [e]; simp
          rw [this] at q
          simp
          exact q
      · have : G l.length ≠ Vv l l.length := by
          have : Vv l l.length = 1 := by unfold Vv; rw [List.drop_length]; rfl
          rw [this]; exact hx
        rw [no _ (Nat.le_refl _) this] at q
        simp [hx]
        exact q
    | _ => cases ha
end SC

set_option Elab.async false
set_option linter.all false
set_option maxRecDepth 100000
/-! VCt3: the laws' own visits; a list with one entry changed. -/
namespace SC
open PySem L2 VL

/-- a dict of pairs whose values follow from their keys -/
theorem dget_merge (f : Key → D) : ∀ (kvs : List (Key × D)) (acc : List (D × D)) (k : Key), (∀ p ∈ kvs, p.2 = f p.1) →
    ((k ∈ kvs.map fun p => p.1) → dget (dmerge kvs acc) (kD k) = some (f k)) ∧ ((¬ k ∈ kvs.map fun p => p.1) → dget (dmerge kvs acc) (kD k) = dget acc (kD k))
  | [], acc, k, _ => ⟨fun h => by simp at h, fun _ => rfl⟩
  | p :: r, acc, k, h => by
    have ih := dget_merge f r (dput acc (kD p.1) p.2) k fun q hq => h q (List.mem_cons_of_mem _ hq)
    show (_ → dget (dmerge r (dput acc (kD p.1) p.2)) (kD k) = _) ∧ (_ → dget (dmerge r (dput acc (kD p.1) p.2)) (kD k) = _)
    rw [List.map_cons]
    refine ⟨fun hk => ?_, fun hk => ?_⟩
    · by_cases h1 : k ∈ r.map fun p => p.1
      · exact ih.1 h1
      · rw [ih.2 h1, dget_put]
        rcases List.mem_cons.mp hk with z | z
        · rw [if_pos z.symm, z, h p List.mem_cons_self]
        · exact absurd z h1
    · rw [ih.2 fun z => hk (List.mem_cons_of_mem _ z), dget_put, if_neg fun z => hk (by rw [← z]; exact List.mem_cons_self)]
abbrev Rp (l : List It) : List Nat := idxF isRepI 0 l
theorem Rp_mem {l : List It} {r : Nat} : r ∈ Rp l ↔ ∃ n c, l[r]? = some (.rep n c) := by
  rw [idxF_mem]
  constructor
  · rintro ⟨i, it, e, h1, h2⟩
    have : i = r := by omega
    subst this
    cases it with
    | rep n c => exact ⟨n, c, h1⟩
    | _ => cases h2
  · rintro ⟨n, c, h⟩
    exact ⟨r, _, by omega, h, rfl⟩
theorem Rp_sum (l : List It) (p q : Nat) (f : Nat → Int) : (((Rp l).filter fun j => decide (p ≤ j) && decide (stt l j ≤ q)).map f).sum = sumR l.length fun j => if isRep l j = true ∧ p ≤ j ∧ stt l j ≤ q then f j else 0 := by
  have := idxF_sum isRepI (fun j => decide (p ≤ j) && decide (stt l j ≤ q)) f l 0
  rw [this]
  refine sumR_congr fun j hj => ?_
  rw [Nat.zero_add]
  by_cases h : isRep l j = true ∧ p ≤ j ∧ stt l j ≤ q
  · rw [if_pos h, if_pos ⟨(isRep_map _ _).mpr h.1, by simp [h.2]⟩]
  · rw [if_neg h, if_neg fun z => h ⟨(isRep_map _ _).mp z.1, by simpa using z.2⟩]
def fs_law_visits : FS := fs_count_visits
def w_law_visits : WS := wSeq (wSet 1 (wLc [4, 9] (wiA enumD (wCons (wVar 0) (wNil))) (wgTup 2 (wgCons (wgName 4) (wgCons (wgName 9) (wgNil)))) (wT (wOp oEq (wOp oIx (wVar 9) (wC (.int 0))) (wC (.str "repeat")))) (wVar 4))) (wSeq (wSet 2 (wCB (o1 oDictP) (wCons (wLc [4] (wiL (wVar 1)) (wgName 4) (wYes) (wTup (wCons (wVar 4) (wCons (wCall fs_law_start [] (wCons (wVar 0) (wCons (wVar 4) (wNil)))) (wNil))))) (wNil)))) (wSeq (wSet 3 (wDict0)) (wSeq (wFor (wiL (wRevL (wVar 1))) (wgName 4) (wSeq (wSet 5 (wLc [10] (wiL (wVar 1)) (wgName 10) (wAnd (wT (wOp (oIB fun i j => decide (j < i)) (wVar 10) (wVar 4))) (wT (wOp (oIB fun i j => decide (i ≤ j)) (wOp oIx (wVar 2) (wVar 10)) (wVar 4)))) (wVar 10))) (wDPut 3 (wVar 4) (wOp oAdd (wC (.int 1)) (wCB (o1 oSum) (wCons (wLc [10] (wiL (wVar 5)) (wgName 10) (wYes) (wOp oMul (wOp oIx (wOp oIx (wVar 0) (wVar 10)) (wC (.int 2))) (wOp oIx (wVar 3) (wVar 10)))) (wNil))))))) (wSeq (wSet 6 (wLst (wNil))) (wSeq (wFor (wiR1 (wCons (wOp oAdd (wCB (o1 oLen) (wCons (wVar 0) (wNil))) (wC (.int 1))) (wNil))) (wgName 7) (wSeq (wSet 8 (wLc [10] (wiL (wVar 1)) (wgName 10) (wAnd (wT (wOp (oIB fun i j => decide (j ≤ i)) (wVar 10) (wVar 7))) (wT (wOp (oIB fun i j => decide (i ≤ j)) (wOp oIx (wVar 2) (wVar 10)) (wVar 7)))) (wVar 10))) (wDrop (wMut 6 fAppend (wCons (wOp oAdd (wC (.int 1)) (wCB (o1 oSum) (wCons (wLc [10] (wiL (wVar 8)) (wgName 10) (wYes) (wOp oMul (wOp oIx (wOp oIx (wVar 0) (wVar 10)) (wC (.int 2))) (wOp oIx (wVar 3) (wVar 10)))) (wNil)))) wNil))))) (wRet (wVar 6)))))))
theorem Xv_mul {l : List It} (h : ok [] l) (hl : l.length ≤ 1000) (j r : Nat) : CMulW (cof l j) (Vv l r) := by
  have hv := (vb (l := l.drop r) (ms := []) fun j m d e => ok_count h (by rw [List.getElem?_drop] at e; exact e)).1
  have hv2 : (vis (l.drop r)).1.natAbs < 2 ^ (32 * (l.drop r).length + 1) := by have := Nat.two_pow_pos (32 * (l.drop r).length); rw [Nat.pow_succ]; omega
  have : (l.drop r).length ≤ 1000 := by rw [List.length_drop]; omega
  exact wide_mul (cof_bound h j) hv2 (by decide) (by omega) (by omega)
theorem fv_law_visits : FnV fs_law_visits 11 w_law_visits := by
  rintro io ds Q X ⟨rfl, l, rfl, h, hl, q⟩
  show w_law_visits [.sh (.list (sc l)), .no, .no, .no, .no, .no, .no, .no, .no, .no, .no] _ _
  have hRl : (Rp l).length ≤ 1000000 := Nat.le_trans (idxF_length _ _ _) (by omega)
  simp [w_law_visits, ev_wLc, okW, wipeE]
  refine lc_idx l It.d isRepI (by omega) (fun i it acc k hi hz h1 h2 => ?_) ?_
  · cases it with
    | bar m => simp [lcT, It.d, sh_bar, sh_rep, eqv_str, br, wipeE]; exact h2 rfl
    | mark m => simp [lcT, It.d, sh_mark, sh_rep, eqv_str, mr, wipeE]; exact h2 rfl
    | rep m c => simp [lcT, It.d, sh_rep, eqv_str, rr, wipeE]; exact ⟨hz, h1 rfl⟩
  simp [restE]
  refine lcm_map (Rp l) (fun r : Nat => .int (r : Int)) (fun r : Nat => .tuple [.int (r : Int), .int ((stt l r : Nat) : Int)]) hRl (fun r acc k hr hz hk => ?_) ?_
  · obtain ⟨n, c, e⟩ := Rp_mem.mp hr
    obtain ⟨j, j1, j2, j3⟩ := stt_le h e
    simp [lcT]
    refine ⟨rfl, l, r, j, n, c, rfl, h, hl, e, j2, j1, ?_⟩
    rw [j3] at hk
    simp at hk
    simp [wipeE]
    exact ⟨hz, hk⟩
  obtain ⟨sps, hsp⟩ : ∃ sps, sps = dmerge ((Rp l).map fun r : Nat => ((Sum.inl (r : Int) : Key), PyData.int ((stt l r : Nat) : Int))) [] := ⟨_, rfl⟩
  have hst : ∀ r ∈ Rp l, dget sps (.int (r : Int)) = some (.int ((stt l r : Nat) : Int)) := fun r hr => by
    have := dget_merge (fun k => match k with
      | .inl i => .int ((stt l i.toNat : Nat) : Int)
      | _ => .none) ((Rp l).map fun r : Nat => ((Sum.inl (r : Int) : Key), PyData.int ((stt l r : Nat) : Int))) [] (.inl (r : Int)) (fun p hp => by
        obtain ⟨r', _, rfl⟩ := List.mem_map.mp hp
        simp)
    have this := this.1 (List.mem_map.mpr ⟨_, List.mem_map.mpr ⟨r, hr, rfl⟩, rfl⟩)
    rw [← hsp] at this
    have e : dget sps (kD (.inl (r : Int))) = some (.int ((stt l ((r : Int).toNat) : Nat) : Int)) := this
    rw [Int.toNat_natCast] at e
    exact e
  simp [restE, oDictP]
  refine ⟨(Rp l).map fun r : Nat => ((Sum.inl (r : Int) : Key), PyData.int ((stt l r : Nat) : Int)), by rw [List.map_map]; rfl, ?_⟩
  rw [← hsp]
  -- one entry: the repeats whose segment holds a place, their sum
  have hsrt : (Rp l).reverse.Pairwise (· > ·) := List.pairwise_reverse.mpr (idxF_sorted _ _ _)
  rw [← List.map_reverse]
  refine loop_inv (fun i Γ => ∃ ps a4 a5 a10, Γ = [.sh (.list (sc l)), .sh (.list ((Rp l).map fun r : Nat => .int (r : Int))), .ow (.dict sps), .ow (.dict ps), a4, a5, .no, .no, .no, .no, a10] ∧ (a10 = .no ∨ ∃ x, a10 = .sh x) ∧ ps.length ≤ i ∧
      ∀ r ∈ Rp l, r ∉ (Rp l).reverse.drop i → dget ps (.int (r : Int)) = some (.int (Vv l (r + 1)))) ⟨[], _, _, _, rfl, .inl rfl, Nat.le_refl _, fun r hr hn => absurd (by simpa using hr) hn⟩ ?_ ?_
  · rintro i d Γ k hd ⟨ps, a4, a5, a10, rfl, ha10, hpl, hps⟩ hk
    rw [List.getElem?_map] at hd
    cases er : (Rp l).reverse[i]? with
    | none => rw [er] at hd; cases hd
    | some r =>
      rw [er] at hd
      cases (Option.some.inj hd)
      have hr : r ∈ Rp l := List.mem_reverse.mp (List.mem_of_getElem? er)
      obtain ⟨n, c, e⟩ := Rp_mem.mp hr
      have hil : i < (Rp l).reverse.length := (List.getElem?_eq_some_iff.mp er).1
      have edr : (Rp l).reverse.drop i = r :: (Rp l).reverse.drop (i + 1) := by
        rw [List.drop_eq_getElem_cons hil]
        congr 1
        rw [List.getElem?_eq_getElem hil] at er
        exact Option.some.inj er
      have hbig : ∀ x ∈ Rp l, r < x → x ∉ (Rp l).reverse.drop i := fun x hx hrx hm => by
        rw [edr] at hm
        rcases List.mem_cons.mp hm with z | z
        · omega
        · have := (List.pairwise_cons.mp (edr ▸ hsrt.drop (i := i))).1 x z
          omega
      have okd : ∀ a5, okW [.sh (.list (sc l)), .sh (.list ((Rp l).map fun r : Nat => .int (r : Int))), .ow (.dict sps), .ow (.dict ps), .sh (.int (r : Int)), a5, .no, .no, .no, .no, a10] [10] := fun a5 => by
        rcases ha10 with rfl | ⟨x, rfl⟩ <;> exact ⟨trivial, trivial⟩
      simp
      refine ⟨okd _, ?_⟩
      refine lcm_filt (Rp l) (fun r : Nat => .int (r : Int)) (fun r : Nat => .int (r : Int)) (fun x => decide (r + 1 ≤ x) && decide (stt l x ≤ r)) hRl (fun x acc k' hx hz h1 h2 => ?_) ?_
      · have hsx := hst x hx
        simp [lcT, wipeE, ev_ixd, hsx]
        by_cases c1 : r < x
        · by_cases c2 : stt l x ≤ r
          · simp [c1, c2]; exact ⟨hz, h1 (by simp; omega)⟩
          · simp [c1, c2]; exact h2 (by simp; omega)
        · simp [c1]; exact h2 (by simp; omega)
      simp [restE, wipeE]
      refine ⟨okd _, ?_⟩
      refine lcm_map ((Rp l).filter fun x => decide (r + 1 ≤ x) && decide (stt l x ≤ r)) (fun r : Nat => .int (r : Int)) (fun x : Nat => .int (cof l x * Vv l (x + 1))) (Nat.le_trans (List.length_filter_le _ _) hRl) (fun x acc k' hx hz hk' => ?_) ?_
      · obtain ⟨hx1, hx2⟩ := List.mem_filter.mp hx
        have hx2 : r + 1 ≤ x ∧ stt l x ≤ r := by simpa using hx2
        obtain ⟨nx, cx, ex⟩ := Rp_mem.mp hx1
        have hcf : cof l x = cx := by simp [cof, ex]
        have hv := hps x hx1 (hbig x hx1 (by omega))
        have hm := Xv_mul h hl x (x + 1)
        rw [hcf] at hk' hm
        simp [lcT, wipeE, ix_lnE (sc_get ex), It.d, ev_ixd, hv, hm]
        exact ⟨hz, hk'⟩
      simp [restE]
      refine ⟨((Rp l).filter fun x => decide (r + 1 ≤ x) && decide (stt l x ≤ r)).map fun x : Nat => cof l x * Vv l (x + 1), by rw [List.map_map]; rfl, ?_⟩
      rw [Rp_sum]
      have ev : 1 + (sumR l.length fun j => if isRep l j = true ∧ r + 1 ≤ j ∧ stt l j ≤ r then cof l j * Vv l (j + 1) else 0) = Vv l (r + 1) := (vis1R l h e).symm
      simp [wipeE]
      rw [ev]
      have hrl : (Rp l).reverse.length ≤ 1000 := by rw [List.length_reverse]; exact Nat.le_trans (idxF_length _ _ _) hl
      refine ⟨small (by omega), hk _ ⟨_, _, _, _, rfl, ha10, Nat.le_trans (dput_len _ _ _) (by omega), fun x hx hn => ?_⟩⟩
      rw [dget_putI]
      by_cases hxr : x = r
      · subst hxr; simp
      · rw [if_neg (by omega)]
        refine hps x hx fun z => hn ?_
        rw [edr] at z
        rcases List.mem_cons.mp z with z | z
        · exact absurd z hxr
        · exact z
  · rintro Γ ⟨ps, a4, a5, a10, rfl, ha10, hpl, hps⟩
    have hps : ∀ r ∈ Rp l, dget ps (.int (r : Int)) = some (.int (Vv l (r + 1))) := fun r hr => hps r hr (by rw [List.drop_eq_nil_of_le (by simp)]; simp)
    simp [rangeD, sc_length]
    refine ⟨by omega, by omega, ?_⟩
    refine loop_inv (fun i Γ => ∃ a7 a8 a10, Γ = [.sh (.list (sc l)), .sh (.list ((Rp l).map fun r : Nat => .int (r : Int))), .ow (.dict sps), .ow (.dict ps), a4, a5, .ow (.list (((visL l).take i).map .int)), a7, a8, .no, a10] ∧ (a10 = .no ∨ ∃ x, a10 = .sh x)) ⟨_, _, _, rfl, ha10⟩ ?_ ?_
    · rintro i d Γ k hd ⟨a7, a8, a10, rfl, ha10⟩ hk
      rw [List.getElem?_map] at hd
      by_cases hi : i < l.length + 1
      · rw [List.getElem?_range hi] at hd
        cases (Option.some.inj hd)
        have okd : ∀ a7 a8, okW [.sh (.list (sc l)), .sh (.list ((Rp l).map fun r : Nat => .int (r : Int))), .ow (.dict sps), .ow (.dict ps), a4, a5, .ow (.list (((visL l).take i).map .int)), a7, a8, .no, a10] [10] := fun a7 a8 => by
          rcases ha10 with rfl | ⟨x, rfl⟩ <;> exact ⟨trivial, trivial⟩
        simp
        refine ⟨by simpa using okd _ _, ?_⟩
        refine lcm_filt (Rp l) (fun r : Nat => .int (r : Int)) (fun r : Nat => .int (r : Int)) (fun x => decide (i ≤ x) && decide (stt l x ≤ i)) hRl (fun x acc k' hx hz h1 h2 => ?_) ?_
        · have hsx := hst x hx
          simp [lcT, wipeE, ev_ixd, hsx]
          by_cases c1 : i ≤ x
          · by_cases c2 : stt l x ≤ i
            · simp [c1, c2]; exact ⟨hz, h1 (by simp; omega)⟩
            · simp [c1, c2]; exact h2 (by simp; omega)
          · simp [c1]; exact h2 (by simp; omega)
        simp [restE, wipeE]
        refine ⟨by simpa using okd _ _, ?_⟩
        refine lcm_map ((Rp l).filter fun x => decide (i ≤ x) && decide (stt l x ≤ i)) (fun r : Nat => .int (r : Int)) (fun x : Nat => .int (cof l x * Vv l (x + 1))) (Nat.le_trans (List.length_filter_le _ _) hRl) (fun x acc k' hx hz hk' => ?_) ?_
        · obtain ⟨hx1, hx2⟩ := List.mem_filter.mp hx
          obtain ⟨nx, cx, ex⟩ := Rp_mem.mp hx1
          have hcf : cof l x = cx := by simp [cof, ex]
          have hv := hps x hx1
          have hm := Xv_mul h hl x (x + 1)
          rw [hcf] at hk' hm
          simp [lcT, wipeE, ix_lnE (sc_get ex), It.d, ev_ixd, hv, hm]
          exact ⟨hz, hk'⟩
        simp [restE]
        refine ⟨((Rp l).filter fun x => decide (i ≤ x) && decide (stt l x ≤ i)).map fun x : Nat => cof l x * Vv l (x + 1), by rw [List.map_map]; rfl, ?_⟩
        rw [Rp_sum]
        have ev : 1 + (sumR l.length fun j => if isRep l j = true ∧ i ≤ j ∧ stt l j ≤ i then cof l j * Vv l (j + 1) else 0) = Vv l i := (vis1 l h i (by omega)).symm
        simp [wipeE]
        rw [ev]
        have fin := fun a7 a8 => hk _ ⟨a7, a8, a10, rfl, ha10⟩
        rw [take_snoc (visL_get l i (by omega)), List.map_append, List.map_take] at fin
        refine ⟨small (by omega), fin _ _⟩
      · rw [List.getElem?_eq_none (by simp; omega)] at hd
        cases hd
    · rintro Γ ⟨a7, a8, a10, rfl, ha10⟩
      rw [List.length_map, List.length_range, List.take_of_length_le (by rw [visL_length]; omega)]
      simp
      exact q
/-! ### _law_bent -/
def fs_law_bent : FS := fun io ds Q _ => ∃ (n : Nat) (d : D) (ns : List Int), io = some (.io d) ∧ StrOk n d ∧ n ≤ 900000 ∧ ds = [.list (ns.map .int)] ∧ ns ≠ [] ∧ ns.length ≤ 100000 ∧
  ∀ (ms : List Int) d', (ms == ns) = false → (∀ y ∈ ms, ∃ x ∈ ns, x ≤ y ∧ y ≤ x + 3) → StrOk (n + 2) d' → Q (.ow (.list (ms.map .int))) (some (.io d'))
theorem bent_ne {ns : List Int} {i : Nat} {x δ : Int} (h : ns[i]? = some x) (hd : 1 ≤ δ) : (ns.set i (x + δ) == ns) = false := by
  cases z : ns.set i (x + δ) == ns with
  | false => rfl
  | true =>
    have z := eq_of_beq z
    have hi := (List.getElem?_eq_some_iff.mp h).1
    have := congrArg (·[i]?) z
    simp [List.getElem?_set, hi, h] at this
    rw [List.getElem?_eq_getElem hi] at h
    have := Option.some.inj h
    omega
def w_law_bent : WS := wSeq (wSet 2 (wCallIo fs_law_draw 0 [] (wCons (wCB (o1 oLen) (wCons (wVar 1) (wNil))) (wNil)))) (wRet (wOp oAdd (wOp oAdd (wSlL (wVar 1) (wNoP) (wPart (wVar 2))) (wLst (wCons (wOp oAdd (wOp oAdd (wOp oIx (wVar 1) (wVar 2)) (wC (.int 1))) (wCallIo fs_law_draw 0 [] (wCons (wC (.int 3)) (wNil)))) (wNil)))) (wSlL (wVar 1) (wPart (wOp oAdd (wVar 2) (wC (.int 1)))) (wNoP))))
theorem fv_law_bent : FnV fs_law_bent 3 w_law_bent := by
  rintro io ds Q X ⟨n, d, ns, rfl, hs, hn, rfl, hne, hl, q⟩
  show w_law_bent [.io d, .sh (.list (ns.map .int)), .no] _ _
  have hl0 : 0 < ns.length := List.length_pos_iff.mpr hne
  simp [w_law_bent]
  refine drw hs (by omega) (by simpa using hl0) (by omega) fun r d1 r0 r1 s1 => ?_
  obtain ⟨i, rfl⟩ : ∃ i : Nat, r = (i : Int) := ⟨r.toNat, by omega⟩
  have hi : i < ns.length := by omega
  have hx : ns[i]? = some ns[i] := List.getElem?_eq_getElem hi
  have ix := fun k => ix_lnE (k := k) (show (ns.map PyData.int)[i]? = some (.int ns[i]) by rw [List.getElem?_map, hx]; rfl)
  simp [ix]
  refine drw s1 (by omega) (by decide) (by decide) fun r d2 r0' r1' s2 => ?_
  have t1 : cutD (ns.map PyData.int) none (some (i : Int)) = (ns.map PyData.int).take i := cut_take (by rw [List.length_map]; omega)
  have t2 : cutD (ns.map PyData.int) (some ((i : Int) + 1)) none = (ns.map PyData.int).drop (i + 1) := by
    have := cut_drop (l := ns.map PyData.int) (p := i + 1) (by rw [List.length_map]; omega)
    rw [← this]; rfl
  have := q (ns.set i (ns[i] + (1 + r))) d2 (bent_ne hx (by omega)) (fun y hy => by
    rcases List.mem_or_eq_of_mem_set hy with z | rfl
    · exact ⟨y, z, by omega, by omega⟩
    · exact ⟨ns[i], List.getElem_mem hi, by omega, by omega⟩) s2
  have e : (ns.set i (ns[i] + (1 + r))) = ns.take i ++ (ns[i] + 1 + r) :: ns.drop (i + 1) := by
    rw [List.set_eq_take_append_cons_drop, if_pos hi, Int.add_assoc]
  rw [e] at this
  simp [t1, t2]
  refine ⟨smallE (by omega), smallE (by omega), ?_⟩
  simpa using this
end SC

set_option Elab.async false
set_option linter.all false
set_option maxRecDepth 100000
/-! VSet: sorted(set(a list of ints)); count of an int in a list of ints. -/
namespace VL
open PySem PySem.Spec L2 PyProof.Rows

/-- a set just made -/
abbrev nuSet (w : World) : Obj := { cls := .type "set", dict := none, data := .set #[] 0 (.fresh 0 0 (!w.params.followText "set-order")) }
abbrev nuHeap (w : World) (s : Shared) : Heap := s.heap.push (nuSet w)
section
variable {P : Program} {w : World} {A : Around} {E : Value → Shared → Prop} {s : Shared}
abbrev SetDone (w : World) (s : Shared) (ns : List Int) (h' : Heap) (c : Nat) : Prop :=
  SetR w h' s.heap.objs.size (fun j => decide (j ∈ ns)) c ∧ c ≤ ns.length ∧ ∀ b o, s.heap.get? b = some o → h'.get? b = some o
set_option maxHeartbeats 4000000 in
theorem call_set_ints {l : Addr} {its : Array Value} (ns : List Int) {Q : Value → Shared → Prop} (hh : A.handled = none) (hl : s.heap.IsList l its) (hit : IntsAre its.toList ns) (hb : ns.length + 1 < scanBound)
    (q : ∀ h' tk c, SetDone w s ns h' c → Q (.ref s.heap.objs.size) { s with heap := h', toks := tk }) :
    wpAny (model P w) A (call (.type "set") [.ref l]) Q E s := by
  have hsz : its.size = ns.length := by
    have e := hit.length
    rwa [Array.length_toList] at e
  have hlS : l < s.heap.objs.size := let ⟨_, e, _⟩ := hl; Heap.lt_size e
  obtain ⟨mc, mt, hm⟩ := F.called_set.mro
  have made := F.called_set.made
  have subs := F.called_set.sub
  refine wpAny_call (codeAny_of_tree (show wpAny _ _ (callAny (.type "set") _) _ _ _ from ?_))
  refine wpAny_pure ⟨Code.quiet_builtin _ (by decide +kernel), codeAny_builtin F.entry_type_call ?_⟩
  rw [Around.under_plain (weight_type_call_type "set" [.ref l] []) rfl]
  have n1 := F.called_set.notType
  have n2 := F.called_set.canCreate
  have n3 := F.typeCall_set_1 (.ref l)
  repeat (any_goals (first | assumption | wp_step))
  refine codeAny_mono (code_set_led1 (.ref l) (E := E) (Q₁ := fun u t => u = .ref s.heap.objs.size ∧ t = { s with heap := nuHeap w s }) ⟨rfl, rfl⟩) fun r t hr => ?_
  cases r with
  | error e => exact hr
  | ok fl =>
    cases fl with
    | ret u =>
      obtain ⟨rfl, rfl⟩ := hr
      have at0 : (nuHeap w s).get? s.heap.objs.size = some (nuSet w) := Heap.get?_push_size _ rfl
      have ty : Shared.TypeIs { s with heap := nuHeap w s } (.ref s.heap.objs.size) "set" := ⟨_, at0, rfl⟩
      have i1 := F.called_set.init.lookup
      have i2 := F.called_set.init.bind (.ref s.heap.objs.size)
      repeat (any_goals (first | assumption | wp_step))
      refine codeAny_mono (codeAny_call_builtin (R := wants (fun u t => u = .none ∧ ∃ h' tk c, t = { s with heap := h', toks := tk } ∧ SetDone w s ns h' c) E) F.called_set.init.plain F.entry_set_init (check_set_init_1 ty ?_)) fun r2 t2 hr2 => ?_
      · obtain ⟨⟨k1, k2, k3, k4⟩, hol, hcl, nl, hdl⟩ := hl
        dsimp only at hcl hdl
        subst hcl
        subst hdl
        have at1 := Heap.get?_push_of_some (nuSet w) hol
        have w1 := F.sub_list_set
        have w2 := F.sub_list_frozenset
        have w3 : (Value.type "list" == Value.type "dict") = false := by decide
        have li : (nuHeap w s).IsList l its := ⟨_, at1, rfl, nl, rfl⟩
        have i0 : (nuHeap w s).objs.size = s.heap.objs.size + 1 := Heap.size_push ..
        unfold Builtin.«set.__init__» noKeywords Builtin.Frozenset.updateFrom
        generalize hgo : pyIter = go
        wp_walk
        subst hgo
        refine wpAny_pyIter_list li (wpAny_bind (wpAny_runValue ?_))
        have hn : A.in1.in1.in1.handled = none := by simp [hh]
        have ne1 : l ≠ (nuHeap w s).objs.size := Nat.ne_of_lt (by rw [i0]; exact Nat.lt_succ_of_lt hlS)
        have out : s.heap.objs.size ∉ [(nuHeap w s).objs.size, l] := by
          simp only [List.mem_cons, List.not_mem_nil, or_false, not_or]
          exact ⟨Nat.ne_of_lt (by rw [i0]; exact Nat.lt_succ_self _), Nat.ne_of_gt hlS⟩
        have val : ∀ (i : Nat) (v : Value), its[i]? = some v → ∃ k t, ns[i]? = some k ∧ v = .int k t := fun i v hv => by
          have hi : i < ns.length := hsz ▸ (Array.getElem?_eq_some_iff.mp hv).1
          obtain ⟨t, e⟩ := IntsAre.int_at hit i v (by rwa [Array.getElem?_toList])
          refine ⟨ns[i], t, List.getElem?_eq_getElem hi, ?_⟩
          rw [e, List.getD_eq_getElem?_getD, List.getElem?_eq_getElem hi]
          rfl
        refine set_update_ints ((Walks.list hn _ l ne1 its).toS) s.heap.objs.size out ns hsz hb val (its.size - 0) 0 _ (by omega) (Nat.zero_le _) ⟨⟨_, Heap.get?_push_size _ rfl, rfl, rfl⟩, li.push _⟩ ?st ?fin
        case st => exact ⟨0, Nat.le_refl 0, setR_new_at (Heap.get?_push_of_some _ at0)⟩
        case fin =>
          intro t3 c mv hc hS
          obtain ⟨h3, g3, d3, tk3, os3⟩ := t3
          cases (show g3 = s.gens from mv.gens)
          cases (show d3 = s.drawn from mv.drawn)
          cases (show os3 = s.os from mv.os)
          show wpAny _ _ _ _ _ _
          refine wpAny_pure ?_
          show wpAny _ _ (ret Value.none) _ _ _
          refine wpAny_pure ⟨rfl, h3, tk3, c, rfl, hS, by omega, fun b o e => ?_⟩
          have hb0 : b < s.heap.objs.size := Heap.lt_size e
          refine mv.heap b o ?_ (Heap.get?_push_of_some _ (Heap.get?_push_of_some _ e))
          simp only [List.mem_cons, List.not_mem_nil, or_false, not_or]
          exact ⟨Nat.ne_of_lt hb0, Nat.ne_of_lt (by rw [i0]; exact Nat.lt_succ_of_lt hb0)⟩
      · cases r2 with
        | error e => exact hr2
        | ok f2 =>
          cases f2 with
          | ret u =>
            obtain ⟨rfl, h3, tk3, c, rfl, dn⟩ := hr2
            repeat (any_goals (first | assumption | wp_step))
            exact q _ _ _ dn
          | _ => exact hr2.elim
    | _ => exact hr.elim
end
end VL

set_option Elab.async false
set_option linter.all false
set_option maxRecDepth 100000
/-! VSetB: sorted(set(a list of ints)); methods that only read; list.count. -/
namespace VL
open PySem PySem.Spec L2 PyProof.Rows

section
variable {X : Cx} {G : Gb} {W : WX} {C : Cf} {Hi H H' : Hp} {σ : St} {Γ : Ev}
def rSetI (K : Fg) (w : World) : List V → Hp → VK → Prop := fun xs H Q => ∃ (p : Addr) (ns : List Int), xs = [.ref p] ∧ SqL K H p (ns.map V.int) ∧ ns.length + 1 < scanBound ∧
  ∀ a c, H a = none → c ≤ ns.length → Q (.ref a) (upd H a (SetO w a (fun j => decide (j ∈ ns)) c))
theorem cr_setI (hc : X.calm = true) : CallR X (.type "set") (rSetI X.K X.w) := by
  intro pins s σ H xs us Q I r h
  obtain ⟨p, ns, rfl, hq, hb, q⟩ := h
  obtain ⟨u, rfl, ru⟩ := vals1 r
  cases (show u = .ref p from ru)
  obtain ⟨its, rv, pl, hz⟩ := I.list hq
  have new : H s.heap.objs.size = none := I.hok.fresh (Nat.le_refl _)
  refine call_set_ints ns (I.ok.hd hc) pl.isList (by simpa using ints_of_vals rv) hb fun h' tk c dn => ?_
  obtain ⟨hS, hcn, hk⟩ := dn
  refine ⟨.ref s.heap.objs.size, upd H s.heap.objs.size (SetO X.w s.heap.objs.size (fun j => decide (j ∈ ns)) c), ?_, rfl, q _ c new hcn⟩
  have J := I.laid (t' := tk) (h' := h') (a := s.heap.objs.size) (o := SetO X.w s.heap.objs.size (fun j => decide (j ∈ ns)) c) hk (Nat.le_refl _) (setO_new hS)
  exact J
def oSortSet : Op1 := fun d k => isL d fun l => ∃ ns : List Int, l = ns.map .int ∧ ns.length < 63 ∧ ∀ ns' : List Int, ns'.Pairwise (· < ·) → (∀ x, x ∈ ns' ↔ x ∈ ns) → k (.ow (.list (ns'.map .int)))
theorem sim_sortset {te : TE} {we : WE} (hw' : ∀ n, n < 63 → n + 1 < scanBound) (w : World) (he : SimE G W te we) : SimE G W (tCB (rSortedSet w) (tCons (tCB (rSetI G.K w) (tCons te tNil)) tNil)) (wCB (o1 oSortSet) (wCons we wNil)) := by
  intro C Hi σ H Γ Q Qd Xd c hw hQ hX
  refine he C Hi σ H Γ _ _ Xd c hw (fun v1 r1 H1 Hi1 Γ1 e1 o1 q1 => ?_) hX
  obtain ⟨Hi2, e2, c2, h2⟩ := o1.hold
  have q1 : rdW r1 Γ1 fun d => oSortSet d fun r => Qd r Γ1 := q1
  obtain ⟨d, b1, q2⟩ := h2.read c2 q1
  obtain ⟨l, rfl, ns, rfl, hl, q3⟩ := isL_inv q2
  obtain ⟨p, xs, rfl, s1, rr⟩ := b1.list c2.imm
  refine ⟨p, ns, rfl, SqL.of (by rw [s1, reps_ints rr]), hw' _ hl, fun a n ha hn => ?_⟩
  refine ⟨a, _, n, rfl, upd_same, by omega, fun ns' p' hp hm hlen hp' => ?_⟩
  have c3 : Rel G C Hi2 σ (upd H1 a (SetO w a (fun j => decide (j ∈ ns)) n)) Γ1 := c2.grow (Ext.new ha) (Ext.refl _) (c2.imm.trans (Ext.new ha)) fun _ _ h => .inl h
  exact hQ _ _ _ Hi2 Γ1 (e1.trans e2) (Out.newL c3 hp' (ints_reps ns')) (q3 ns' hp fun x => by rw [hm x]; simp)
theorem de_sortset {a : Expr} {ta : TE} {wa : WE} {p p2 q pos : Pos} (hK : X.K = G.K) (hc : X.calm = true) (hm : X.mg "sorted" = none) (hm2 : X.mg "set" = none) (ha : DE X G W a ta wa) (hg : Gl X "sorted" := by rfl) (hg2 : Gl X "set" := by rfl)
    (s1 : starEach [a] X.env = (false, eval a X.env) :: starEach [] X.env := by rfl) (s2 : (backTo q (starEach [] X.env)).any (·.1) = false := by rfl)
    (s3 : starEach [.Call (.Name "set" p2) [a] [] q] X.env = (false, eval (.Call (.Name "set" p2) [a] [] q) X.env) :: starEach [] X.env := by rfl) (s4 : (backTo pos (starEach [] X.env)).any (·.1) = false := by rfl) :
    DE X G W (.Call (.Name "sorted" p) [.Call (.Name "set" p2) [a] [] q] [] pos) (tCB (rSortedSet X.w) (tCons (tCB (rSetI G.K X.w) (tCons ta tNil)) tNil)) (wCB (o1 oSortSet) (wCons wa wNil)) := by
  refine ⟨pe_callB (cr_sortedSet hc) hg hm (by decide +kernel) (pa_cons (pe_callTy (by rw [← hK]; exact cr_setI hc) hg2 hm2 (by decide +kernel) (pa_cons ha.pe pa_nil s1) (by decide) (by decide) s1 s2) pa_nil s3) (by decide) (by decide) s3 s4, sim_sortset (fun n hn => by unfold scanBound; omega) X.w ha.sim⟩
/-! ### methods of built-ins that only read -/
def tyD (T : String) (d : D) : Prop := match d with
  | .str _ => T = "str"
  | .int _ => T = "int"
  | .list _ => T = "list"
  | _ => False
abbrev OpMR := D → List D → (R → Prop) → Prop
def SemMR (G : Gb) (r : V → List V → Hp → VK → Prop) (o : OpMR) : Prop := ∀ {C : Cf} {Hi : Hp} {σ : St} {H : Hp} {Γ : Ev} {x : V} {xs : List V} {d : D} {ds : List D} {k : R → Prop} {Q : VK}, Rel G C Hi σ H Γ → Rdb G.K Hi H x d → Rdbs G.K Hi H xs ds → o d ds k →
  (∀ v r H' Hi', Ext Hi Hi' → Out G C Hi' σ H' Γ v r → k r → Q v H') → r x xs H Q
def wMR (T : String) (o : OpMR) (wo : WE) (wa : WA) : WE := fun Γ Q X => wo Γ (fun r Γ1 => rdW r Γ1 fun d => tyD T d ∧ wa Γ1 (fun rs Γ2 => rdW r Γ2 fun d => rdAll rs Γ2 fun ds => o d ds fun r' => Q r' Γ2) X) X
def wMR0 (T : String) (o : OpMR) (wo : WE) : WE := fun Γ Q X => wo Γ (fun r Γ1 => rdW r Γ1 fun d => tyD T d ∧ o d [] fun r' => Q r' Γ1) X
theorem tyV_of {K : Fg} {T : String} {x : V} {d : D} (e : Ext Hi H) (h : Rdb K Hi H x d) (t : tyD T d) : tyV K T x H := by
  unfold tyD at t
  split at t
  · rw [h.str]; exact t
  · rw [h.int]; exact t
  · obtain ⟨p, xs, rfl, s, _⟩ := h.list e
    exact .inl ⟨t, _, SqL.of s⟩
  · exact t.elim
theorem sim_mr {T : String} {r : V → List V → Hp → VK → Prop} {o : OpMR} {to : TE} {wo : WE} {ta : TA} {wa : WA} (h : SemMR G r o) (ho : SimE G W to wo) (ha : SimA G W ta wa) : SimE G W (tBM G.K T r to ta) (wMR T o wo wa) := by
  intro C Hi σ H Γ Q Qd Xd c hw hQ hX
  refine ho C Hi σ H Γ _ _ Xd c hw (fun v1 r1 H1 Hi1 Γ1 e1 o1 q1 => ?_) hX
  obtain ⟨Hi2, e2, c2, h2⟩ := o1.hold
  obtain ⟨d, b1, t1, q2⟩ := h2.read c2 q1
  have f2 := e1.trans e2
  refine ⟨tyV_of c2.imm b1 t1, ha C Hi2 σ H1 Γ1 _ _ Xd c2 q2 (fun vs rs H3 Hi3 Γ3 e3 c3 h3 q3 => ?_) fun x c d H' Hi' Γ' e' => hX x c d H' Hi' Γ' (f2.trans e')⟩
  obtain ⟨d', b3, q4⟩ := (h2.mono e3).read c3 q3
  obtain ⟨ds, bs, q5⟩ := h3.read c3 q4
  exact h c3 b3 bs q5 fun v r H' Hi' e o q => hQ v r H' Hi' Γ3 ((f2.trans e3).trans e) o q
theorem sim_mr0 {T : String} {r : V → List V → Hp → VK → Prop} {o : OpMR} {to : TE} {wo : WE} (h : SemMR G r o) (ho : SimE G W to wo) : SimE G W (tBM0 G.K T r to) (wMR0 T o wo) := by
  intro C Hi σ H Γ Q Qd Xd c hw hQ hX
  refine ho C Hi σ H Γ _ _ Xd c hw (fun v1 r1 H1 Hi1 Γ1 e1 o1 q1 => ?_) hX
  obtain ⟨Hi2, e2, c2, h2⟩ := o1.hold
  obtain ⟨d, b1, t1, q2⟩ := h2.read c2 q1
  exact ⟨tyV_of c2.imm b1 t1, h c2 b1 .nil q2 fun v r H' Hi' e o q => hQ v r H' Hi' Γ1 ((e1.trans e2).trans e) o q⟩
theorem de_mr {o e : Expr} {es : List Expr} {to : TE} {wo : WE} {t : TA} {wa : WA} {name : Str} {apos cpos : Pos} {T id : String} {r : V → List V → Hp → VK → Prop} {f : OpMR} (hK : X.K = G.K) (pa : PlainAttrs T) (slot : Slot T name id) (hty : typeOf (.builtin id) = pure (.type "method_descriptor")) (hm : MtR X id r) (hs' : SemMR G r f) (ho : DE X G W o to wo) (ha : DA X G W (e :: es) t wa)
    (h1 : attributeBase o name X.env (eval o X.env) = eval o X.env := by rfl)
    (h2 : ((backTo cpos (starEach (e :: es) X.env)).all (fun x => !x.1) && (backToKw cpos (keywordEach [] X.env)).all (fun x => x.1.isSome)
      && decide ((e :: es).length + ([] : List Keyword).length + (if ([] : List Keyword).isEmpty then 0 else 1) < 30)) = true := by rfl)
    (h3 : (apos.endLine == cpos.line) = true := by rfl) (h4 : starEach (e :: es) X.env = (false, eval e X.env) :: starEach es X.env := by rfl) (h5 : (backTo cpos (starEach es X.env)).any (·.1) = false := by rfl) :
    DE X G W (.Call (.Attribute o name apos) (e :: es) [] cpos) (tBM G.K T r to t) (wMR T f wo wa) := ⟨by rw [← hK]; exact pe_bm pa slot hty hm ho.pe ha.pe h1 h2 h3 h4 h5, sim_mr hs' ho.sim ha.sim⟩
/-- list.count of an int -/
def oCnt : OpMR := fun d ds k => match ds with
  | [e] => isL d fun l => isI e fun i => ∃ ns : List Int, l = ns.map .int ∧ k (.sh (.int (ns.count i : Nat)))
  | _ => False
theorem sem_cnt : SemMR G (rCntI G.K) oCnt := by
  intro C Hi σ H Γ x xs d ds k Q c hd hs h q
  unfold oCnt at h
  split at h
  · cases hs with
    | cons b1 r1 =>
      cases r1
      obtain ⟨l, rfl, h2⟩ := isL_inv h
      obtain ⟨i, rfl, ns, rfl, h3⟩ := isI_inv h2
      obtain ⟨p, ys, rfl, s1, rr⟩ := hd.list c.imm
      rw [b1.int]
      exact ⟨p, ns, i, rfl, rfl, SqL.of (by rw [s1, reps_ints rr]), q _ _ H Hi (Ext.refl _) (out_int c _) h3⟩
  · exact h.elim
theorem de_count {o e : Expr} {to te : TE} {wo we : WE} {apos cpos : Pos} (hK : X.K = G.K) (ho : DE X G W o to wo) (he : DE X G W e te we)
    (h1 : attributeBase o "count" X.env (eval o X.env) = eval o X.env := by rfl)
    (h2 : ((backTo cpos (starEach [e] X.env)).all (fun x => !x.1) && (backToKw cpos (keywordEach [] X.env)).all (fun x => x.1.isSome)
      && decide (([e] : List Expr).length + ([] : List Keyword).length + (if ([] : List Keyword).isEmpty then 0 else 1) < 30)) = true := by rfl)
    (h3 : (apos.endLine == cpos.line) = true := by rfl) (h4 : starEach [e] X.env = (false, eval e X.env) :: starEach [] X.env := by rfl) (h5 : (backTo cpos (starEach [] X.env)).any (·.1) = false := by rfl) :
    DE X G W (.Call (.Attribute o "count" apos) [e] [] cpos) (tBM G.K "list" (rCntI G.K) to (tCons te tNil)) (wMR "list" oCnt wo (wCons we wNil)) :=
  de_mr hK PySem.F.plainAttrs_list PySem.F.slot_list_count PySem.F.type_list_count (by rw [← hK]; exact mt_lcount) sem_cnt ho (da_cons he da_nil h4) h1 h2 h3 h4 h5
@[simp ↓] theorem ev_wMR (T : String) (o : OpMR) (wo : WE) (wa : WA) (Γ : Ev) (Q : R → Ev → Prop) (X : XW) : wMR T o wo wa Γ Q X = (wo Γ (fun r Γ1 => rdW r Γ1 fun d => tyD T d ∧ wa Γ1 (fun rs Γ2 => rdW r Γ2 fun d => rdAll rs Γ2 fun ds => o d ds fun r' => Q r' Γ2) X) X) := rfl
@[simp ↓] theorem ev_wMR0 (T : String) (o : OpMR) (wo : WE) (Γ : Ev) (Q : R → Ev → Prop) (X : XW) : wMR0 T o wo Γ Q X = (wo Γ (fun r Γ1 => rdW r Γ1 fun d => tyD T d ∧ o d [] fun r' => Q r' Γ1) X) := rfl
@[simp] theorem tyD_l (l : List D) : tyD "list" (.list l) = True := by simp [tyD]
@[simp] theorem tyD_s (l : Str) : tyD "str" (.str l) = True := by simp [tyD]
@[simp ↓] theorem ev_cnt (l : List D) (i : Int) (k : R → Prop) : oCnt (.list l) [.int i] k = ∃ ns : List Int, l = ns.map .int ∧ k (.sh (.int (ns.count i : Nat))) := rfl
@[simp ↓] theorem ev_sortset (l : List D) (k : R → Prop) : oSortSet (.list l) k = ∃ ns : List Int, l = ns.map .int ∧ ns.length < 63 ∧ ∀ ns' : List Int, ns'.Pairwise (· < ·) → (∀ x, x ∈ ns' ↔ x ∈ ns) → k (.ow (.list (ns'.map .int))) := rfl
end
end VL

set_option Elab.async false
set_option linter.all false
set_option maxRecDepth 100000
/-! VLb: what many laws need: how often they go round, lists of ints compared. -/
namespace SC
open PySem L2 VL

/-- how often a law goes round -/
theorem rounds (c : Int) (hc : 1 ≤ c) (n : Nat) : ∃ m : Nat, (if (1 : Int) < (if c < (n : Int) then c else (n : Int)) then (if c < (n : Int) then c else (n : Int)) else 1) = (m : Int) ∧ (m : Int) ≤ c := by
  refine ⟨(if (1 : Int) < (if c < (n : Int) then c else (n : Int)) then (if c < (n : Int) then c else (n : Int)) else 1).toNat, ?_, ?_⟩
  · repeat' split
    all_goals omega
  · repeat' split
    all_goals omega
theorem rounds' (c : Int) (hc : 1 ≤ c) (n : Nat) : ∃ m : Nat, (if (1 : Int) < (if (n : Int) < c then (n : Int) else c) then (if (n : Int) < c then (n : Int) else c) else 1) = (m : Int) ∧ (m : Int) ≤ c := by
  refine ⟨(if (1 : Int) < (if (n : Int) < c then (n : Int) else c) then (if (n : Int) < c then (n : Int) else c) else 1).toNat, ?_, ?_⟩
  · repeat' split
    all_goals omega
  · repeat' split
    all_goals omega
theorem canAll_ints : ∀ ns : List Int, PyData.canLayAll0 (ns.map .int) = true
  | [] => by simp [PyData.canLayAll0]
  | n :: ns => by simp [PyData.canLayAll0, PyData.canLay0, canAll_ints ns]
theorem dep_ints : ∀ ns : List Int, PyData.depthAll (ns.map .int) = 0
  | [] => by simp [PyData.depthAll]
  | n :: ns => by simp [PyData.depthAll, PyData.depth, dep_ints ns]
theorem shaped_ints (ns : List Int) : SeqAt.shaped (.list (ns.map .int)) = true := by
  simp [SeqAt.shaped, PyData.canLay0, PyData.depth, canAll_ints ns, dep_ints ns]
theorem eqvAll_ints : ∀ a b : List Int, PyData.eqvAll (a.map .int) (b.map .int) = (a == b)
  | [], [] => by simp [PyData.eqvAll]
  | [], b :: bs => by simp [PyData.eqvAll]
  | a :: as, [] => by simp [PyData.eqvAll]
  | a :: as, b :: bs => by
    rw [List.map_cons, List.map_cons, PyData.eqvAll, eqv_int, eqvAll_ints as bs]
    rfl
theorem eqv_ints (a b : List Int) : PyData.eqv (.list (a.map .int)) (.list (b.map .int)) = (a == b) := by
  rw [PyData.eqv]
  exact eqvAll_ints a b
theorem visL_bound {l : List It} (h : ok [] l) (hl : l.length ≤ 1000) : ∀ x ∈ visL l, x.natAbs < 2 ^ 40000 := fun x hx => by
  obtain ⟨i, hi⟩ := List.getElem?_of_mem hx
  have hil : i < (visL l).length := (List.getElem?_eq_some_iff.mp hi).1
  rw [visL_length] at hil
  rw [visL_get l i (by omega)] at hi
  have e : (vis (l.drop i)).1 = x := Option.some.inj hi
  have hv := (vb (l := l.drop i) (ms := []) fun j m d e => ok_count h (by rw [List.getElem?_drop] at e; exact e)).1
  rw [e] at hv
  have : (l.drop i).length ≤ 1000 := by rw [List.length_drop]; omega
  exact Nat.lt_of_le_of_lt hv (Nat.pow_lt_pow_right (by decide) (by omega))
theorem run_bound {l : List It} (h : ok [] l) (hl : l.length ≤ 1000) : ∀ x ∈ run p0 l, x.natAbs < 2 ^ 40000 := fun x hx => by
  obtain ⟨i, hi⟩ := List.getElem?_of_mem hx
  have hil : i < (run p0 l).length := (List.getElem?_eq_some_iff.mp hi).1
  rw [run_length] at hil
  rw [run_get l p0 i (by omega)] at hi
  have e : (st p0 (l.take i)).2 = x := Option.some.inj hi
  obtain ⟨b1, b2, b3⟩ := bd_st h i (by omega)
  rw [e] at b1 b2
  have : 2 ^ (32 * i) ≤ 2 ^ 40000 := Nat.pow_le_pow_right (by decide) (by omega)
  omega
theorem near_bound {ns ms : List Int} (h : ∀ y ∈ ms, ∃ x ∈ ns, x ≤ y ∧ y ≤ x + 3) (hb : ∀ x ∈ ns, x.natAbs < 2 ^ 40000) : ∀ y ∈ ms, y.natAbs < 2 ^ 400000 := fun y hy => by
  obtain ⟨x, hx, h1, h2⟩ := h y hy
  have hx := hb x hx
  have h2 : 2 ^ 40001 ≤ 2 ^ 400000 := Nat.pow_le_pow_right (by decide) (by decide)
  have h3 : 2 ^ 40001 = 2 ^ 40000 * 2 := Nat.pow_succ ..
  have h4 : 2 ^ 2 ≤ 2 ^ 40000 := Nat.pow_le_pow_right (by decide) (by decide)
  generalize 2 ^ 400000 = A at *
  generalize 2 ^ 40001 = B at *
  omega
theorem int_map_inj {a b : List Int} (h : PyData.list (a.map .int) = .list (b.map .int)) : a = b := by
  injection h with h
  have h2 := congrArg asInts h
  rw [asInts_map, asInts_map] at h2
  exact Option.some.inj h2
theorem wide_bound {ns : List Int} (hb : ∀ x ∈ ns, x.natAbs < 2 ^ 40000) : ∀ y ∈ ns, y.natAbs < 2 ^ 400000 := fun y hy => Nat.lt_of_lt_of_le (hb y hy) (Nat.pow_le_pow_right (by decide) (by decide))
end SC

set_option Elab.async false
set_option linter.all false
set_option maxRecDepth 100000
/-! VTape: the laws' own tape; the places of the bars. -/
namespace SC
open PySem L2 VL

def isBarI : It → Bool
  | .bar _ => true
  | _ => false
abbrev tpD (l : List It) (n : Nat) : List D := (tp l n).map fun i : Nat => .int (i : Int)
def fs_law_tape : FS := fun io ds Q _ => io = none ∧ ∃ l : List It, ds = [.list (sc l)] ∧ ok [] l ∧ l.length ≤ 1000 ∧ tl l l.length ≤ 100000 ∧ Q (.ow (.list (tpD l l.length))) none
def w_law_tape : WS := wSeq (wPar [1, 2] (wsCons (wLst (wNil)) (wsCons (wDict0) (wsNil)))) (wSeq (wFor (wiA enumD (wCons (wVar 0) (wNil))) (wgTup 2 (wgCons (wgName 3) (wgCons (wgName 4) (wgNil)))) (wIfS (wT (wOp oEq (wOp oIx (wVar 4) (wC (.int 0))) (wC (.str "bar")))) (wDrop (wMut 1 fAppend (wCons (wVar 3) wNil))) (wIfS (wT (wOp oEq (wOp oIx (wVar 4) (wC (.int 0))) (wC (.str "mark")))) (wDPut 2 (wOp oIx (wVar 4) (wC (.int 1))) (wCB (o1 oLen) (wCons (wVar 1) (wNil)))) (wSet 1 (wOp oAdd (wVar 1) (wOp oMul (wSlL (wVar 1) (wPart (wOp oIx (wVar 2) (wOp oIx (wVar 4) (wC (.int 1))))) (wNoP)) (wOp oIx (wVar 4) (wC (.int 2))))))))) (wRet (wVar 1)))
theorem fv_law_tape : FnV fs_law_tape 5 w_law_tape := by
  rintro io ds Q X ⟨rfl, l, rfl, h, hl, ht, q⟩
  show w_law_tape [.sh (.list (sc l)), .no, .no, .no, .no] _ _
  simp [w_law_tape, ev_wFor, sc, enumD_map]
  refine loop_inv (fun i Γ => ∃ ps a3 a4, Γ = [.sh (.list (sc l)), .ow (.list (tpD l i)), .ow (.dict ps), a3, a4] ∧ ps.length ≤ i ∧ ∀ (j : Nat) m, j < i → l[j]? = some (.mark m) → dget ps (.str m) = some (.int ((tl l (j + 1) : Nat) : Int))) ⟨[], _, _, rfl, Nat.le_refl _, fun j m hj => by omega⟩ ?_ ?_
  · rintro i d Γ k hd ⟨ps, a3, a4, rfl, hpl, hps⟩ hk
    rw [List.getElem?_mapIdx] at hd
    cases hit : l[i]? with
    | none => rw [hit] at hd; cases hd
    | some it =>
      rw [hit] at hd
      cases (Option.some.inj hd)
      have hil : i < l.length := (List.getElem?_eq_some_iff.mp hit).1
      have hti : tl l i ≤ 100000 := Nat.le_trans (tl_mono (by omega)) ht
      have hti1 : tl l (i + 1) ≤ 100000 := Nat.le_trans (tl_mono (by omega)) ht
      have hz : (tpD l i).length < sizeLine := by rw [List.length_map]; exact small (show tl l i ≤ _ by omega)
      cases it with
      | bar nm =>
        have fin := fun a3 a4 => hk _ ⟨ps, a3, a4, rfl, by omega, fun j m hj e => hps j m (by
          have : j ≠ i := fun z => by subst z; rw [hit] at e; cases e
          omega) e⟩
        have e1 : tpD l (i + 1) = tpD l i ++ [.int (i : Int)] := by unfold tpD; rw [tp_bar hit, List.map_append]; rfl
        rw [e1] at fin
        generalize tpD l i = B at *
        simp [It.d, sh_bar, eqv_str, bb]
        exact ⟨hz, fin _ _⟩
      | mark nm =>
        have hlen : ((tpD l i).length : Int) = ((tl l i : Nat) : Int) := by rw [List.length_map]
        have e1 : tp l (i + 1) = tp l i := tp_mark hit
        have fin := fun a3 a4 => hk _ ⟨dput ps (.str nm) (.int ((tl l i : Nat) : Int)), a3, a4, rfl, Nat.le_trans (dput_len _ _ _) (by omega), fun j m hj e => by
          rw [dget_putS]
          by_cases z : j = i
          · subst z
            rw [hit] at e
            cases e
            rw [if_pos rfl]
            show some (PyData.int ((tl l j : Nat) : Int)) = some (.int (((tp l (j + 1)).length : Nat) : Int))
            rw [e1]
          · rw [if_neg fun y => z (by subst y; exact (ok_uniq h hit e).symm)]
            exact hps j m (by omega) e⟩
        have e2 : tpD l (i + 1) = tpD l i := by unfold tpD; rw [e1]
        rw [e2] at fin
        have hzp : ps.length < sizeLine := small (by omega)
        generalize tpD l i = B at *
        simp [It.d, sh_bar, sh_mark, eqv_str, mb, mm, hlen]
        exact ⟨hzp, fin _ _⟩
      | rep nm cc =>
        obtain ⟨j, j1, j2, _⟩ := stt_le h hit
        have hd := hps j nm j1 j2
        have hle := tl_mono (L := l) (n := j + 1) (k := i) (by omega)
        have e1 : tpD l (i + 1) = tpD l i ++ (List.replicate cc.toNat ((tpD l i).drop (tl l (j + 1)))).flatten := by
          unfold tpD
          rw [tp_rep hit, seg_eq h hit j2 j1, List.map_append, ← List.map_drop, List.map_flatten, List.map_replicate]
        have hc := ok_count h hit
        have hlen1 : (tpD l i).length + ((tpD l i).length - tl l (j + 1)) * cc.toNat = tl l (i + 1) := by
          have := tl_rep h hit j2 j1
          rw [List.length_map, this, Nat.mul_comm]
        have fin := fun a3 a4 => hk _ ⟨ps, a3, a4, rfl, by omega, fun j m hj e => hps j m (by
          have : j ≠ i := fun z => by subst z; rw [hit] at e; cases e
          omega) e⟩
        rw [e1] at fin
        have hcut : cutD (tpD l i) (some ((tl l (j + 1) : Nat) : Int)) none = (tpD l i).drop (tl l (j + 1)) := cut_drop (by rw [List.length_map]; exact hle)
        have hcn : (cc.toNat : Int) = cc := Int.toNat_of_nonneg (by omega)
        generalize tpD l i = B at *
        simp [It.d, sh_bar, sh_mark, sh_rep, eqv_str, rb, rm, ev_ixd, hd, hcut]
        refine ⟨⟨by omega, by omega⟩, smallE (by omega), smallE ?_, fin _ _⟩
        rw [Nat.mul_comm]
        omega
  · rintro Γ ⟨ps, a3, a4, rfl, _, _⟩
    rw [List.length_mapIdx]
    simp
    exact q
/-! ### _law_bars -/
def fs_law_bars : FS := fun io ds Q _ => io = none ∧ ∃ l : List It, ds = [.list (sc l)] ∧ l.length ≤ 1000 ∧ Q (.ow (.list ((idxF isBarI 0 l).map fun i : Nat => .int (i : Int)))) none
def w_law_bars : WS := wRet (wLc [1, 2] (wiA enumD (wCons (wVar 0) (wNil))) (wgTup 2 (wgCons (wgName 1) (wgCons (wgName 2) (wgNil)))) (wT (wOp oEq (wOp oIx (wVar 2) (wC (.int 0))) (wC (.str "bar")))) (wVar 1))
theorem fv_law_bars : FnV fs_law_bars 3 w_law_bars := by
  rintro io ds Q X ⟨rfl, l, rfl, hl, q⟩
  show w_law_bars [.sh (.list (sc l)), .no, .no] _ _
  simp [w_law_bars, ev_wLc, okW, wipeE]
  refine lc_idx l It.d isBarI (by omega) (fun i it acc k hi hz h1 h2 => ?_) (by simpa [restE] using q)
  cases it with
  | bar m => simp [lcT, It.d, sh_bar, eqv_str, bb, wipeE]; exact ⟨hz, h1 rfl⟩
  | mark m => simp [lcT, It.d, sh_bar, sh_mark, eqv_str, mb, wipeE]; exact h2 rfl
  | rep m c => simp [lcT, It.d, sh_bar, sh_rep, eqv_str, rb, wipeE]; exact h2 rfl
theorem bars_mem {l : List It} {b : Nat} : b ∈ idxF isBarI 0 l ↔ ∃ m, l[b]? = some (.bar m) := by
  rw [idxF_mem]
  constructor
  · rintro ⟨i, it, e, h1, h2⟩
    have : i = b := by omega
    subst this
    cases it with
    | bar n => exact ⟨n, h1⟩
    | _ => cases h2
  · rintro ⟨n, h⟩
    exact ⟨b, _, by omega, h, rfl⟩
/-- a list of drawn numbers -/
theorem count_map (l : List Nat) (b : Nat) : (l.map fun i : Nat => (i : Int)).count (b : Int) = l.count b := by
  induction l with
  | nil => rfl
  | cons a l ih =>
    rw [List.map_cons, List.count_cons, List.count_cons, ih]
    congr 1
    by_cases z : a = b
    · subst z; simp
    · have : ¬ (a : Int) = (b : Int) := by omega
      simp [z, this]
end SC

set_option Elab.async false
set_option linter.all false
set_option maxRecDepth 100000
/-! VFs: find_state, bar_at. -/
namespace SC
open PySem L2 VL

def fs_find_state : FS := fun io ds Q _ => io = none ∧ ∃ (l : List It) (t : Nat), ds = [.list (sc l), .int (t : Int)] ∧ ok [] l ∧ l.length ≤ 290 ∧ t ≤ tl l l.length ∧ (t = tl l l.length → Q (.sh (.tuple [.int (l.length : Int), .list []])) none) ∧ ∀ b as, (TT l)[t]? = some b → Q (.sh (.tuple [.int ((b : Nat) : Int), .list as])) none
def w_find_state : WS := wSeq (wPar [2, 3] (wsCons (wCall fs_segment_starts [] (wCons (wVar 0) (wNil))) (wsCons (wCall fs_arrival_times [] (wCons (wVar 0) (wNil))) (wsNil)))) (wSeq (wIfS (wT (wOp oEq (wVar 1) (wOp oIx (wVar 3) (wUn (fun a k => isI a fun i => k (.sh (.int (-i)))) (wC (.int 1)))))) (wRet (wTup (wCons (wCB (o1 oLen) (wCons (wVar 0) (wNil))) (wCons (wLst (wNil)) (wNil))))) (wNext)) (wSeq (wSet 4 (wLst (wNil))) (wWhile (wT (wC (.bool true))) (wSeq (wSet 5 (wOp oIx (wLc [8] (wiR1 (wCons (wCB (o1 oLen) (wCons (wVar 0) (wNil))) (wNil))) (wgName 8) (wT (wOp (oIB fun i j => decide (j < i)) (wOp oIx (wVar 3) (wOp oAdd (wVar 8) (wC (.int 1)))) (wVar 1))) (wVar 8)) (wC (.int 0)))) (wSeq (wIfS (wT (wOp oEq (wOp oIx (wOp oIx (wVar 0) (wVar 5)) (wC (.int 0))) (wC (.str "bar")))) (wRet (wTup (wCons (wVar 5) (wCons (wRevL (wVar 4)) (wNil))))) (wNext)) (wSeq (wSet 6 (wOp (oII (fun _ _ => True) (· - ·)) (wOp oIx (wVar 3) (wVar 5)) (wOp oIx (wVar 3) (wOp oIx (wVar 2) (wVar 5))))) (wSeq (wSet 7 (wOp oAdd (wOp (oII CDivW (· / ·)) (wOp (oII (fun _ _ => True) (· - ·)) (wVar 1) (wOp oIx (wVar 3) (wVar 5))) (wVar 6)) (wC (.int 1)))) (wSeq (wDrop (wMut 4 fAppend (wCons (wTup (wCons (wVar 5) (wCons (wVar 7) (wNil)))) wNil))) (wAug 1 (oII (fun _ _ => True) (· - ·)) (wOp oMul (wVar 7) (wVar 6)))))))))))
theorem fv_find_state : FnV fs_find_state 9 w_find_state := by
  rintro io ds Q X ⟨rfl, l, t, rfl, h, hl, ht, q0, q⟩
  show w_find_state [.sh (.list (sc l)), .sh (.int (t : Int)), .no, .no, .no, .no, .no, .no, .no] _ _
  have hsl : (sc l).length = l.length := by simp [sc]
  simp [w_find_state]
  refine ⟨rfl, l, rfl, h, by omega, fun sps hSS => ?_⟩
  simp
  refine ⟨rfl, l, rfl, h, by omega, ?_⟩
  simp [ix_lastE (run_last l), total_tl h, eqv_int]
  refine ⟨shaped_int _, shaped_int _, ?_⟩
  by_cases z : t = tl l l.length
  · have z' : (t : Int) = ((tl l l.length : Nat) : Int) := by omega
    rw [if_pos z']
    rw [hsl]
    exact q0 z
  · rw [if_neg (by omega)]
    refine while_inv (fun N Γ => ∃ (r : Nat) (s3 : Sl) (as : List D) (a5 a6 a7 : Sl), Γ = [.sh (.list (sc l)), .sh (.int (r : Int)), .ow (.dict sps), s3, .ow (.list as), a5, a6, a7, .no] ∧ (s3 = .ow (.list ((run p0 l).map .int)) ∨ s3 = .sh (.list ((run p0 l).map .int))) ∧ N ≤ l.length ∧ r < tl l N ∧ as.length + N ≤ l.length ∧ (TT l)[r]? = (TT l)[t]?) l.length ⟨t, _, [], _, _, _, rfl, .inl rfl, Nat.le_refl _, by omega, by simp, rfl⟩ ?_
    rintro N Γ k ⟨r, s3, as, a5, a6, a7, rfl, hs3, hN, hr, has, hT⟩ hk
    rcases hs3 with rfl | rfl
    all_goals
      simp [ev_wLc, okW, wipeE, hsl]
      have er : rangeD 0 l.length = (List.range l.length).map fun i : Nat => PyData.int (i : Int) := by simp [rangeD]
      rw [er]
      refine ⟨by omega, ?_⟩
      refine lcm_filt (List.range l.length) (fun i : Nat => .int (i : Int)) (fun i : Nat => .int (i : Int)) (fun i => decide (r < tl l (i + 1))) (by simp; omega) (fun i acc k' hi hz h1 h2 => ?_) ?_
      · have hil : i < l.length := by simpa using hi
        have it := fun k => ix_lnE (k := k) (run_tlD h (n := i + 1) (by omega))
        rw [Int.natCast_add] at it
        simp at it
        simp [lcT, wipeE, it]
        by_cases y : r < tl l (i + 1)
        · rw [if_pos (by omega)]
          exact ⟨hz, h1 (by simpa using y)⟩
        · rw [if_neg (by omega)]
          exact h2 (by simpa using y)
      · have hfind : ∃ i, ((List.range l.length).filter fun i => decide (r < tl l (i + 1)))[0]? = some i ∧ i < N ∧ r < tl l (i + 1) ∧ tl l i ≤ r := by
          rw [← List.head?_eq_getElem?, List.head?_filter]
          cases c : (List.range l.length).find? fun i => decide (r < tl l (i + 1)) with
          | none =>
            have h0 : N ≠ 0 := fun z0 => by rw [z0] at hr; exact absurd hr (Nat.not_lt_zero _)
            have := List.find?_eq_none.mp c (N - 1) (List.mem_range.mpr (by omega))
            rw [show N - 1 + 1 = N by omega] at this
            simp at this
            omega
          | some i =>
            obtain ⟨c1, c2, c3⟩ := List.find?_range_eq_some.mp c
            have c1 : r < tl l (i + 1) := by simpa using c1
            have c2 := List.mem_range.mp c2
            refine ⟨i, rfl, ?_, c1, ?_⟩
            · refine Nat.lt_of_not_le fun hle => ?_
              have h0 : N ≠ 0 := fun z0 => by rw [z0] at hr; exact absurd hr (Nat.not_lt_zero _)
              have := c3 (N - 1) (by omega)
              rw [show N - 1 + 1 = N by omega] at this
              simp at this
              omega
            · cases i with
              | zero => exact Nat.zero_le _
              | succ i =>
                have := c3 i (by omega)
                simpa using this
        obtain ⟨i, f0, f1, f2, f3⟩ := hfind
        generalize (List.range l.length).filter (fun i => decide (r < tl l (i + 1))) = F at *
        have hil : i < l.length := by omega
        have ix0 := fun k => ix_lnE (k := k) (show (F.map fun i : Nat => PyData.int (i : Int))[0]? = some (.int (i : Int)) by rw [List.getElem?_map, f0]; rfl)
        simp at ix0
        have it := fun k => ix_lnE (k := k) (run_tlD h (n := i) (by omega))
        have ei := List.getElem?_eq_getElem hil
        simp [restE, ix0, ix_lnE (sc_get ei), it]
        cases c : l[i] with
        | bar m =>
          rw [c] at ei
          have e1 : tl l (i + 1) = tl l i + 1 := by show (tp l (i + 1)).length = _; rw [tp_bar ei, List.length_append]; rfl
          have er : r = tl l i := by omega
          simp [It.d, sh_bar, eqv_str, bb]
          refine q i as.reverse ?_
          rw [← hT, er]
          exact TT_bar ei
        | mark m =>
          rw [c] at ei
          have e1 : tl l (i + 1) = tl l i := by show (tp l (i + 1)).length = _; rw [tp_mark ei]
          omega
        | rep m cc =>
          rw [c] at ei
          obtain ⟨j, j1, j2, j3⟩ := hSS i m cc ei
          have e1 := tl_rep h ei j2 j1
          have hle := tl_mono (L := l) (n := j + 1) (k := i) (by omega)
          have hB : 0 < tl l i - tl l (j + 1) := by
            apply Nat.pos_of_ne_zero
            intro z
            rw [z, Nat.mul_zero] at e1
            omega
          have hBlt : tl l i - tl l (j + 1) < 2 ^ (31 * 290) := by
            have := tl_lt h i (by omega)
            have : 2 ^ (31 * i) ≤ 2 ^ (31 * 290) := Nat.pow_le_pow_right (by decide) (by omega)
            omega
          have ijt := fun k => ix_lnE (k := k) (run_tlD h (n := j + 1) (by omega))
          rw [Int.natCast_add] at ijt
          simp at ijt
          have eA : (r : Int) - ((tl l i : Nat) : Int) = ((r - tl l i : Nat) : Int) := by omega
          have eB : ((tl l i : Nat) : Int) - ((tl l (j + 1) : Nat) : Int) = ((tl l i - tl l (j + 1) : Nat) : Int) := by omega
          have hD : CDivW ((r : Int) - ((tl l i : Nat) : Int)) (((tl l i : Nat) : Int) - ((tl l (j + 1) : Nat) : Int)) := by
            rw [eB]
            exact wide_div (b := 31 * 290) (by omega) (by simpa using hBlt) (by decide) (by decide)
          have hq : (r - tl l i) / (tl l i - tl l (j + 1)) < cc.toNat := by
            have hlt : r - tl l i < cc.toNat * (tl l i - tl l (j + 1)) := by omega
            exact (Nat.div_lt_iff_lt_mul hB).mpr hlt
          have hc := ok_count h ei
          have hmod := Nat.mod_lt (r - tl l i) hB
          have hdm := Nat.div_add_mod (r - tl l i) (tl l i - tl l (j + 1))
          rw [Nat.mul_comm] at hdm
          have hasz : as.length < sizeLine := small (by omega)
          simp [It.d, sh_bar, sh_rep, eqv_str, rb, ev_ixd, j3, ijt, it, hD, hasz]
          rw [eA, eB, ← Int.natCast_ediv]
          have hTT := fun (x y : Nat) (a : x < cc.toNat) (b : y < tl l i - tl l (j + 1)) => TT_rep (L := l) h ei j2 j1 (k := x) (x := y) (by omega) b
          have hTT := hTT ((r - tl l i) / (tl l i - tl l (j + 1))) ((r - tl l i) % (tl l i - tl l (j + 1))) hq hmod
          generalize (r - tl l i) / (tl l i - tl l (j + 1)) = K at *
          generalize (r - tl l i) % (tl l i - tl l (j + 1)) = M at *
          rw [show tl l i + K * (tl l i - tl l (j + 1)) + M = r by omega] at hTT
          have hm : CMulW ((K : Int) + 1) ((tl l i - tl l (j + 1) : Nat) : Int) := wide_mul (a := 32) (b := 31 * 290) (by omega) (by simpa using hBlt) (by decide) (by decide) (by decide)
          have hsub : (r : Int) - ((K : Int) + 1) * ((tl l i - tl l (j + 1) : Nat) : Int) = ((tl l (j + 1) + M : Nat) : Int) := by
            have : ((K : Int) + 1) * ((tl l i - tl l (j + 1) : Nat) : Int) = (((K * (tl l i - tl l (j + 1)) + (tl l i - tl l (j + 1)) : Nat)) : Int) := by
              rw [Int.add_mul, Int.one_mul, Int.natCast_add, Int.natCast_mul]
            rw [this]
            omega
          rw [hsub]
          refine ⟨hm, hk i _ f1 ⟨tl l (j + 1) + M, _, as ++ [_], _, _, _, rfl, (by first | exact .inr rfl | exact .inl rfl), by omega, by omega, by simp; omega, by rw [← hTT]; exact hT⟩⟩
def fs_bar_at : FS := fun io ds Q _ => io = none ∧ ∃ (l : List It) (t b : Nat) (m : Str), ds = [.list (sc l), .int (t : Int)] ∧ ok [] l ∧ l.length ≤ 290 ∧ (TT l)[t]? = some b ∧ l[b]? = some (.bar m) ∧ Q (.sh (.str m)) none
def w_bar_at : WS := wSeq (wDrop (wCall fs_require_score [] (wCons (wVar 0) (wNil)))) (wSeq (wDrop (wCall fs_require_time_to [] (wCons (wVar 1) (wCons (wOp (oII (fun _ _ => True) (· - ·)) (wOp oIx (wCall fs_arrival_times [] (wCons (wVar 0) (wNil))) (wUn (fun a k => isI a fun i => k (.sh (.int (-i)))) (wC (.int 1)))) (wC (.int 1))) (wNil))))) (wRet (wOp oIx (wOp oIx (wVar 0) (wOp oIx (wCall fs_find_state [] (wCons (wVar 0) (wCons (wVar 1) (wNil)))) (wC (.int 0)))) (wC (.int 1)))))
theorem fv_bar_at : FnV fs_bar_at 2 w_bar_at := by
  rintro io ds Q X ⟨rfl, l, t, b, m, rfl, h, hl, ht, hb, q⟩
  have htl := TT_lt ht
  show w_bar_at [.sh (.list (sc l)), .sh (.int (t : Int))] _ _
  simp [w_bar_at]
  refine ⟨rfl, l, rfl, h, by omega, ?_⟩
  simp
  refine ⟨rfl, l, rfl, h, by omega, ?_⟩
  simp [ix_lastE (run_last l), total_tl h]
  refine ⟨rfl, _, _, rfl, by omega, by omega, ?_⟩
  simp
  refine ⟨rfl, l, t, rfl, h, hl, by omega, fun z => by omega, fun b' as hb' => ?_⟩
  rw [ht] at hb'
  cases (Option.some.inj hb')
  simp [ix_lnE (sc_get hb), It.d]
  exact q
end SC

set_option Elab.async false
set_option linter.all false
set_option maxRecDepth 100000
/-! VWt: weights: require_weights, weight_sums, total_weight, weight_before, locate_weight; the laws' loads. -/
namespace SC
open PySem L2 VL

def mxW : Int := 1000000000000
def WD (ps : List (D × D)) : Prop := ∀ p ∈ ps, ∃ (nm : Str) (i : Int), p = (.str nm, .int i) ∧ nameB nm = true ∧ 0 ≤ i ∧ i ≤ 1000000000000
def gw (ps : List (D × D)) (nm : Str) : Int := match dget ps (.str nm) with
  | some (.int i) => i
  | _ => 0
theorem dget_mem {ps : List (D × D)} {k v : D} (h : dget ps k = some v) : ∃ p ∈ ps, p.2 = v := by
  unfold dget at h
  cases e : ps.find? fun p => keyEq p.1 k with
  | none => rw [e] at h; cases h
  | some p =>
    rw [e] at h
    exact ⟨p, List.mem_of_find?_eq_some e, Option.some.inj h⟩
theorem dget_some {ps : List (D × D)} {p : D × D} {nm : Str} (h : p ∈ ps) (e : p.1 = .str nm) : ∃ v, dget ps (.str nm) = some v := by
  unfold dget
  cases c : ps.find? fun p => keyEq p.1 (.str nm) with
  | none =>
    have := List.find?_eq_none.mp c p h
    rw [e] at this
    simp [keyEq] at this
  | some q => exact ⟨_, rfl⟩
theorem WD.get {ps : List (D × D)} (h : WD ps) {k v : D} (e : dget ps k = some v) : ∃ i : Int, v = .int i ∧ 0 ≤ i ∧ i ≤ 1000000000000 := by
  obtain ⟨p, hp, rfl⟩ := dget_mem e
  obtain ⟨nm, i, rfl, _, h0, h1⟩ := h p hp
  exact ⟨i, rfl, h0, h1⟩
theorem WD.getD {ps : List (D × D)} (h : WD ps) (nm : Str) : (dget ps (.str nm)).getD (.int 0) = .int (gw ps nm) ∧ 0 ≤ gw ps nm ∧ gw ps nm ≤ 1000000000000 := by
  unfold gw
  cases e : dget ps (.str nm) with
  | none => exact ⟨rfl, by decide, by decide⟩
  | some v =>
    obtain ⟨i, rfl, h0, h1⟩ := h.get e
    exact ⟨rfl, h0, h1⟩
theorem WD.put {ps : List (D × D)} (h : WD ps) {nm : Str} {i : Int} (hn : nameB nm = true) (h0 : 0 ≤ i) (h1 : i ≤ 1000000000000) : WD (dput ps (.str nm) (.int i)) := by
  intro p hp
  unfold dput at hp
  split at hp
  · obtain ⟨q, hq, rfl⟩ := List.mem_map.mp hp
    obtain ⟨m, j, rfl, a, b, c⟩ := h q hq
    split
    · exact ⟨m, i, rfl, a, h0, h1⟩
    · exact ⟨m, j, rfl, a, b, c⟩
  · rcases List.mem_append.mp hp with z | z
    · exact h p z
    · have : p = (.str nm, .int i) := by simpa using z
      exact ⟨nm, i, this, hn, h0, h1⟩
@[simp] theorem ev_wLcK (i : Nat) (vs : List Nat) (g : WG) (t : WT) (w : WE) (Γ : Ev) (Q : R → Ev → Prop) (X : XW) (ps : List (D × D)) (h : Γ[i]? = some (.sh (.dict ps))) :
    wLcK i vs g t w Γ Q X = ((∀ p ∈ ps, fltP p.2) ∧ okW (ΓK Γ i ps) vs ∧ lcW vs g t w (fun acc _ => (∀ e ∈ acc, fltP e) ∧ Q (.ow (.list acc)) Γ) (ps.map (·.1)) [] (wipeE (ΓK Γ i ps) vs)) := by
  unfold wLcK
  rw [h]
def fs_require_weights : FS := fun io ds Q _ => io = none ∧ ∃ ps : List (D × D), ds = [.dict ps] ∧ WD ps ∧ ps.length ≤ 1000 ∧ Q (.sh .none) none
def w_require_weights : WS := wSeq (wIfS (wNot (wT (wIsi "dict" (wVar 0)))) (wNev) (wNext)) (wIfS (wNot (wT (wCB (o1 oAll) (wCons (wLcK 0 [1] (wgName 1) (wYes) (wAndV (wCall fs_is_name [] (wCons (wVar 1) (wNil))) (wCall fs_is_integer [] (wCons (wOp oIx (wVar 0) (wVar 1)) (wCons (wC (.int 0)) (wCons (wC (.int 1000000000000)) (wNil))))))) (wNil))))) (wNev) (wNext))
theorem fv_require_weights : FnV fs_require_weights 2 w_require_weights := by
  rintro io ds Q X ⟨rfl, ps, rfl, h, hl, q⟩
  show w_require_weights [.sh (.dict ps), .no] _ _
  simp [w_require_weights]
  refine ⟨fun a b hp => ?_, ?_, ?_⟩
  · obtain ⟨_, i, e, _⟩ := h _ hp
    cases e
    exact True.intro
  · simp [ΓK, okW]
  · simp only [ΓK, wipeE, List.map_cons, List.map_nil, List.set_cons_zero, List.set_cons_succ]
    refine lcm_map ps (fun p => p.1) (fun _ => .bool true) (by omega) (fun p acc k hp hz hk => ?_) ?_
    · obtain ⟨nm, i, rfl, hn, h0, h1⟩ := h p hp
      obtain ⟨v, hv⟩ := dget_some hp rfl
      obtain ⟨j, rfl, j0, j1⟩ := h.get hv
      simp [lcT, wipeE]
      refine ⟨rfl, nm, rfl, hn, ?_⟩
      simp [ev_ixd, hv]
      refine ⟨rfl, .int j, 0, .int 1000000000000, rfl, .inr ⟨_, rfl⟩, ?_⟩
      have : isIntD (.int j) 0 (.int 1000000000000) = true := by simp [isIntD]; omega
      rw [this]
      simp
      exact ⟨hz, hk⟩
    · refine ⟨fun e he => ?_, ps.map (fun _ => true), by rw [List.map_map]; rfl, ?_⟩
      · obtain ⟨_, _, rfl⟩ := List.mem_map.mp he
        exact True.intro
      · have : (ps.map fun _ => true).all id = true := List.all_eq_true.mpr fun b hb => by
          obtain ⟨_, _, rfl⟩ := List.mem_map.mp hb
          rfl
        rw [this]
        simp
        exact q
/-- what the item at a place weighs -/
def itW (ps : List (D × D)) : It → Int
  | .bar m => gw ps m
  | _ => 0
def wtf (ps : List (D × D)) (l : List It) : Nat → Int := gf (l.map (itW ps))
theorem wtf_get {ps : List (D × D)} {l : List It} {i : Nat} {it : It} (h : l[i]? = some it) : wtf ps l i = itW ps it := by
  unfold wtf gf
  rw [List.getElem?_map, h]
  rfl
theorem itW_range {ps : List (D × D)} (h : WD ps) (it : It) : 0 ≤ itW ps it ∧ itW ps it ≤ 1000000000000 := by
  cases it with
  | bar m => exact (h.getD m).2
  | mark m => exact ⟨by simp [itW], by simp [itW]⟩
  | rep m c => exact ⟨by simp [itW], by simp [itW]⟩
theorem wtf_range {ps : List (D × D)} (h : WD ps) (l : List It) (i : Nat) : 0 ≤ wtf ps l i ∧ wtf ps l i ≤ 1000000000000 := by
  cases e : l[i]? with
  | none =>
    have : wtf ps l i = 0 := by
      unfold wtf gf
      rw [List.getElem?_map, e]
      rfl
    rw [this]
    decide
  | some it =>
    rw [wtf_get e]
    exact itW_range h it
theorem wtf_ok {ps : List (D × D)} (h : WD ps) {l : List It} (hl : l.length ≤ 280) : Wt (wtf ps l) l 40 := ⟨fun i => (wtf_range h l i).1, fun i => Int.le_trans (wtf_range h l i).2 (by decide), by omega⟩
def fs_weight_sums : FS := fun io ds Q _ => io = none ∧ ∃ (l : List It) (ps : List (D × D)), ds = [.list (sc l), .dict ps] ∧ ok [] l ∧ l.length ≤ 280 ∧ WD ps ∧ Q (.ow (.list ((SL (wtf ps l) l).map .int))) none
def w_weight_sums : WS := wRet (wCall fs_accumulate [] (wCons (wVar 0) (wCons (wLc [2] (wiL (wVar 0)) (wgName 2) (wYes) (wIf (wT (wOp oEq (wOp oIx (wVar 2) (wC (.int 0))) (wC (.str "bar")))) (wDGet2 (wVar 1) (wOp oIx (wVar 2) (wC (.int 1))) (wC (.int 0))) (wC (.int 0)))) (wNil))))
theorem fv_weight_sums : FnV fs_weight_sums 3 w_weight_sums := by
  rintro io ds Q X ⟨rfl, l, ps, rfl, h, hl, hw, q⟩
  show w_weight_sums [.sh (.list (sc l)), .sh (.dict ps), .no] _ _
  simp [w_weight_sums, ev_wLc, okW, wipeE, sc]
  refine lcm_map l It.d (fun it => .int (itW ps it)) (by omega) (fun it acc k hi hz hk => ?_) ?_
  · cases it with
    | bar m =>
      simp [lcT, wipeE, It.d, sh_bar, eqv_str, bb, (hw.getD m).1]
      exact ⟨hz, hk⟩
    | mark m =>
      simp [lcT, wipeE, It.d, sh_bar, sh_mark, eqv_str, mb]
      exact ⟨hz, hk⟩
    | rep m c =>
      simp [lcT, wipeE, It.d, sh_bar, sh_rep, eqv_str, rb]
      exact ⟨hz, hk⟩
  · simp [restE]
    refine ⟨rfl, l, l.map (itW ps), 40, by rw [List.map_map]; rfl, h, by simp, wtf_ok hw hl, fun i m e => ?_, ?_⟩
    · exact wtf_get e
    · simp
      exact q
def fs_total_weight : FS := fun io ds Q _ => io = none ∧ ∃ (l : List It) (ps : List (D × D)), ds = [.list (sc l), .dict ps] ∧ ok [] l ∧ l.length ≤ 280 ∧ WD ps ∧ ps.length ≤ 1000 ∧ Q (.sh (.int (SS1 (wtf ps l) l l.length))) none
def w_total_weight : WS := wSeq (wDrop (wCall fs_require_score [] (wCons (wVar 0) (wNil)))) (wSeq (wDrop (wCall fs_require_weights [] (wCons (wVar 1) (wNil)))) (wRet (wOp oIx (wCall fs_weight_sums [] (wCons (wVar 0) (wCons (wVar 1) (wNil)))) (wUn (fun a k => isI a fun i => k (.sh (.int (-i)))) (wC (.int 1))))))
theorem fv_total_weight : FnV fs_total_weight 2 w_total_weight := by
  rintro io ds Q X ⟨rfl, l, ps, rfl, h, hl, hw, hp, q⟩
  show w_total_weight [.sh (.list (sc l)), .sh (.dict ps)] _ _
  simp [w_total_weight]
  refine ⟨rfl, l, rfl, h, by omega, ?_⟩
  simp
  refine ⟨rfl, ps, rfl, hw, hp, ?_⟩
  simp
  refine ⟨rfl, l, ps, rfl, h, hl, hw, ?_⟩
  simp [ix_lastE SL_last]
  exact q
def fs_weight_before : FS := fun io ds Q _ => io = none ∧ ∃ (l : List It) (ps : List (D × D)) (t : Nat), ds = [.list (sc l), .dict ps, .int (t : Int)] ∧ ok [] l ∧ l.length ≤ 280 ∧ WD ps ∧ ps.length ≤ 1000 ∧ t ≤ tl l l.length ∧ Q (.sh (.int (Sb (wtf ps l) l t))) none
def w_weight_before : WS := wSeq (wDrop (wCall fs_require_score [] (wCons (wVar 0) (wNil)))) (wSeq (wDrop (wCall fs_require_weights [] (wCons (wVar 1) (wNil)))) (wSeq (wDrop (wCall fs_require_time [] (wCons (wVar 0) (wCons (wVar 2) (wNil))))) (wRet (wCall fs_sum_before [] (wCons (wVar 0) (wCons (wCall fs_weight_sums [] (wCons (wVar 0) (wCons (wVar 1) (wNil)))) (wCons (wVar 2) (wNil))))))))
theorem fv_weight_before : FnV fs_weight_before 3 w_weight_before := by
  rintro io ds Q X ⟨rfl, l, ps, t, rfl, h, hl, hw, hp, ht, q⟩
  show w_weight_before [.sh (.list (sc l)), .sh (.dict ps), .sh (.int (t : Int))] _ _
  simp [w_weight_before]
  refine ⟨rfl, l, rfl, h, by omega, ?_⟩
  simp
  refine ⟨rfl, ps, rfl, hw, hp, ?_⟩
  simp
  refine ⟨rfl, l, t, rfl, h, by omega, ht, ?_⟩
  simp
  refine ⟨rfl, l, ps, rfl, h, hl, hw, ?_⟩
  simp
  refine ⟨rfl, l, wtf ps l, 40, t, rfl, h, wtf_ok hw hl, ht, ?_⟩
  simp
  exact q
def fs_locate_weight : FS := fun io ds Q _ => io = none ∧ ∃ (l : List It) (ps : List (D × D)) (a : Int), ds = [.list (sc l), .dict ps, .int a] ∧ ok [] l ∧ l.length ≤ 280 ∧ WD ps ∧ ps.length ≤ 1000 ∧ 0 ≤ a ∧ a < SS1 (wtf ps l) l l.length ∧
  ∀ (t : Nat) (r : Int), Loc (wtf ps l) l a t r → Q (.sh (.tuple [.int (t : Int), .int r])) none
def w_locate_weight : WS := wSeq (wDrop (wCall fs_require_score [] (wCons (wVar 0) (wNil)))) (wSeq (wDrop (wCall fs_require_weights [] (wCons (wVar 1) (wNil)))) (wSeq (wSet 3 (wCall fs_weight_sums [] (wCons (wVar 0) (wCons (wVar 1) (wNil))))) (wSeq (wIfS (wNot (wT (wCall fs_is_integer [] (wCons (wVar 2) (wCons (wC (.int 0)) (wCons (wOp (oII (fun _ _ => True) (· - ·)) (wOp oIx (wVar 3) (wUn (fun a k => isI a fun i => k (.sh (.int (-i)))) (wC (.int 1)))) (wC (.int 1))) (wNil))))))) (wNev) (wNext)) (wRet (wCall fs_locate [] (wCons (wVar 0) (wCons (wVar 3) (wCons (wVar 2) (wNil)))))))))
theorem fv_locate_weight : FnV fs_locate_weight 4 w_locate_weight := by
  rintro io ds Q X ⟨rfl, l, ps, a, rfl, h, hl, hw, hp, a0, a1, q⟩
  show w_locate_weight [.sh (.list (sc l)), .sh (.dict ps), .sh (.int a), .no] _ _
  simp [w_locate_weight]
  refine ⟨rfl, l, rfl, h, by omega, ?_⟩
  simp
  refine ⟨rfl, ps, rfl, hw, hp, ?_⟩
  simp
  refine ⟨rfl, l, ps, rfl, h, hl, hw, ?_⟩
  simp [ix_lastE SL_last]
  refine ⟨rfl, .int a, 0, .int (SS1 (wtf ps l) l l.length - 1), rfl, .inr ⟨_, rfl⟩, ?_⟩
  have : isIntD (.int a) 0 (.int (SS1 (wtf ps l) l l.length - 1)) = true := by simp [isIntD]; omega
  rw [this]
  simp
  refine ⟨rfl, l, wtf ps l, 40, a, rfl, h, wtf_ok hw hl, a0, a1, fun t r hlr => ?_⟩
  simp
  exact q t r hlr
def nmI : It → Str
  | .bar m => m
  | .mark m => m
  | .rep m _ => m
theorem ok_nmI : ∀ {l : List It} {ms : List Str} {it : It}, ok ms l → it ∈ l → nameB (nmI it) = true
  | .bar n :: r, ms, it, h, hm => by
    rcases List.mem_cons.mp hm with rfl | hm
    · exact h.1
    · exact ok_nmI h.2 hm
  | .mark n :: r, ms, it, h, hm => by
    rcases List.mem_cons.mp hm with rfl | hm
    · exact h.1
    · exact ok_nmI h.2.2 hm
  | .rep n c :: r, ms, it, h, hm => by
    rcases List.mem_cons.mp hm with rfl | hm
    · exact h.1
    · exact ok_nmI h.2.2.2 hm
def fs_law_loads : FS := fun io ds Q _ => ∃ (n : Nat) (d : D) (l : List It), io = some (.io d) ∧ StrOk n d ∧ n ≤ 100000 ∧ ds = [.list (sc l)] ∧ ok [] l ∧ l.length ≤ 280 ∧ ∀ (ps : List (D × D)) d', WD ps → ps.length ≤ l.length + 2 → StrOk (n + 2000) d' → Q (.ow (.dict ps)) (some (.io d'))
def w_law_loads : WS := wSeq (wSet 2 (wDict0)) (wSeq (wFor (wiL (wOp oAdd (wVar 1) (wLst (wCons (wTup (wCons (wC (.str "bar")) (wCons (wC (.str "none")) (wNil)))) (wCons (wTup (wCons (wC (.str "bar")) (wCons (wC (.str "zz")) (wNil)))) (wNil)))))) (wgName 3) (wIfS (wT (wOp (oIB fun i j => decide (j < i)) (wCallIo fs_law_draw 0 [] (wCons (wC (.int 4)) (wNil))) (wC (.int 0)))) (wDPut 2 (wOp oIx (wVar 3) (wC (.int 1))) (wOp oIx (wLst (wCons (wC (.int 0)) (wCons (wC (.int 1)) (wCons (wCallIo fs_law_draw 0 [] (wCons (wC (.int 9)) (wNil))) (wCons (wCallIo fs_law_draw 0 [] (wCons (wOp oAdd (wOp (oII CPowW fun i j => i ^ j.toNat) (wC (.int 10)) (wC (.int 12))) (wC (.int 1))) (wNil))) (wNil)))))) (wCallIo fs_law_draw 0 [] (wCons (wC (.int 4)) (wNil))))) (wNext))) (wRet (wVar 2)))
theorem fv_law_loads : FnV fs_law_loads 4 w_law_loads := by
  rintro io ds Q X ⟨n, d, l, rfl, hs, hn, rfl, h, hl, q⟩
  show w_law_loads [.io d, .sh (.list (sc l)), .no, .no] _ _
  simp [w_law_loads, ev_wFor, sc]
  refine ⟨small (by omega), ?_⟩
  refine loop_inv (fun j Γ => ∃ (d : D) (ps : List (D × D)) (a3 : Sl), Γ = [.io d, .sh (.list (sc l)), .ow (.dict ps), a3] ∧ WD ps ∧ ps.length ≤ j ∧ StrOk (n + 4 * j) d) ⟨d, [], _, rfl, fun p hp => (nomatch hp), Nat.le_refl _, hs⟩ ?_ ?_
  · rintro j x Γ k hx ⟨d, ps, a3, rfl, hw, hp, hsd⟩ hk
    have hjl := (List.getElem?_eq_some_iff.mp hx).1
    simp at hjl
    have hit : ∃ (tg nm : Str) (rest : List D), x = .tuple (.str tg :: .str nm :: rest) ∧ nameB nm = true := by
      have hm : x ∈ (l ++ [It.bar "none", It.bar "zz"]).map It.d := by
        rw [List.map_append]
        exact List.mem_of_getElem? hx
      obtain ⟨it, hit, rfl⟩ := List.mem_map.mp hm
      have hnm : nameB (nmI it) = true := by
        rcases List.mem_append.mp hit with z | z
        · exact ok_nmI h z
        · rcases List.mem_cons.mp z with rfl | z
          · decide +kernel
          · have : it = .bar "zz" := by simpa using z
            subst this
            decide +kernel
      cases it with
      | bar m => exact ⟨_, m, [], rfl, hnm⟩
      | mark m => exact ⟨_, m, [], rfl, hnm⟩
      | rep m c => exact ⟨_, m, [_], rfl, hnm⟩
    obtain ⟨tg, nm, rest, rfl, hnm⟩ := hit
    have p1 : CPowW 10 12 := pow10 12 (by decide) (by decide)
    simp
    refine drw hsd (by omega) (by decide) (by decide) fun r1 d1 r10 r11 s1 => ?_
    simp
    by_cases z : 0 < r1
    · simp [z]
      refine drw s1 (by omega) (by decide) (by decide) fun r2 d2 r20 r21 s2 => ?_
      simp [p1]
      refine drw s2 (by omega) (by decide) (by decide) fun r3 d3 r30 r31 s3 => ?_
      simp
      refine drw s3 (by omega) (by decide) (by decide) fun r4 d4 r40 r41 s4 => ?_
      have fin : ∀ v : Int, 0 ≤ v → v ≤ 1000000000000 → k [.io d4, .sh (.list (sc l)), .ow (.dict (dput ps (.str nm) (.int v))), .sh (.tuple (.str tg :: .str nm :: rest))] := fun v v0 v1 => hk _ ⟨d4, _, _, rfl, hw.put hnm v0 v1, Nat.le_trans (dput_len _ _ _) (by omega), by rw [show n + 4 * (j + 1) = n + 4 * j + 1 + 1 + 1 + 1 by omega]; exact s4⟩
      have hz : ps.length < sizeLine := small (by omega)
      rcases four r40 r41 with rfl | rfl | rfl | rfl
      · simp
        exact ⟨hz, fin 0 (by decide) (by decide)⟩
      · simp
        exact ⟨hz, fin 1 (by decide) (by decide)⟩
      · simp
        exact ⟨hz, fin r2 r20 (by omega)⟩
      · simp [ix_l3]
        exact ⟨hz, fin r3 r30 (by omega)⟩
    · simp [z]
      exact hk _ ⟨d1, ps, _, rfl, hw, by omega, s1.mono (by omega)⟩
  · rintro Γ ⟨d, ps, a3, rfl, hw, hp, hsd⟩
    simp at hp hsd ⊢
    exact q ps d hw hp (hsd.mono (by omega))
end SC

set_option Elab.async false
set_option linter.all false
set_option maxRecDepth 100000
/-! VReprB: repr with great ints and dicts, where the base tells that no limit of digits was set. -/
namespace VL
open PySem L2 PyProof.Rows

def tenP : Nat := 10 ^ 4300
mutual
/-- what repr can show -/
def ShowB : PyData → Prop
  | .none => True
  | .bool _ => True
  | .str _ => True
  | .int i => i.natAbs < tenP
  | .list xs => ShowBAll xs
  | .tuple xs => ShowBAll xs
  | .dict kvs => ShowBKv kvs
def ShowBAll : List PyData → Prop
  | [] => True
  | x :: xs => ShowB x ∧ ShowBAll xs
def ShowBKv : List (PyData × PyData) → Prop
  | [] => True
  | (k, v) :: r => ShowB k ∧ ShowB v ∧ ShowBKv r
end
section
variable {P : Program} {w : World} {K : Fg} {H : Hp} {h : Heap}
theorem reprK_int {i : Int} (t : Tok) (hn : h.NoDigits) (hi : i.natAbs < tenP) : ReprK P w [] h 0 (.int i t) (PyData.shown (.int i)) := by
  intro base hb A g E s Q hg hcl hu hk hQ
  have hb' : base ≤ sizeLine := by omega
  rw [pyReprUnder_leaf (v := .int i t) hb' (fun _ e => nomatch e)]
  unfold pyRepr
  have hns : s.heap.NoDigits := hn.keeps hk
  refine wpAny_bind (wpAny_pyReprObj_slot (by omega) (typeIs_int _ i t) F.slot_int_repr.toG ?_)
  refine wpAny_call (codeAny_call_builtin F.slot_int_repr.plain F.entry_int_repr (F.slot_int_repr.check _ _ _ _ _ _ _ _ (typeIs_int _ i t) (F.args_int_repr_1 _) ?_))
  unfold Builtin.«int.__repr__»
  show wpAny _ _ (do let r ← Builtin.overDigitLimit? i; _) _ _ s
  refine wpAny_bind (overDigitLimit_any hns (fun hlt => ?_) (fun hge => absurd hi (Nat.not_lt.mpr hge)))
  refine wpAny_bind (wpAny_mkStr (wpAny_pure ⟨_, _, rfl, ?_⟩) (int_text_fits10 hlt))
  have := hQ s.heap (s.toks + 1) fun _ _ e => e
  simp only [PyData.shown] at this
  exact wpAny_pure this
theorem key_read {h : Heap} {k : Key} {u : Value} {d : D} (h1 : keyIs k u = true) (hk : kD k = d) (hs : ShowB d) (hz : (PyData.shown d).length ≤ sizeLine) (hn : h.NoDigits) : ∃ as, Reads h u d as ∧ ReprK P w [] h 0 u (PyData.shown d) := by
  rcases keyIs_shape h1 with ⟨i, t, rfl, rfl⟩ | ⟨x, t, rfl, rfl⟩
  · have hp : d = .int i := hk.symm
    subst hp
    exact ⟨_, .int i t, reprK_int t hn (by simpa only [ShowB] using hs)⟩
  · have hp : d = .str x := hk.symm
    subst hp
    refine ⟨_, .str x t, ?_⟩
    simp only [PyData.shown] at hz ⊢
    exact .of_is (ReprIs.str x t hz) _ _ _
theorem keys_read {h : Heap} (hn : h.NoDigits) {es : List DictEntry} {kvs : List (Key × Value)} (hp : Pairs (mixKind P w) es kvs) : ∀ {ds : List D}, kvs.map (fun p => kD p.1) = ds → ShowBAll ds → (∀ t ∈ PyData.shownAll ds, t.length ≤ sizeLine) →
    ∃ as bs, ReadsAll h (es.map (·.key)) ds as ∧ ReadAtMost h (PyData.depthAll ds) bs ∧ ReprAllK P w bs h (PyData.depthAll ds) (es.map (·.key)) (PyData.shownAll ds) := by
  induction hp with
  | nil =>
    intro ds e hs hz
    subst e
    exact ⟨[], [], .nil, (fun _ q => nomatch q), .nil⟩
  | @cons e kv es kvs h1 h2 r ih =>
    intro ds e0 hs hz
    subst e0
    rw [List.map_cons] at hs hz ⊢
    have hs : ShowB (kD kv.1) ∧ ShowBAll (kvs.map fun p => kD p.1) := by simpa only [ShowBAll] using hs
    simp only [PyData.shownAll] at hz
    obtain ⟨as, bs, i1, i2, i3⟩ := ih rfl hs.2 (fun t ht => hz t (List.mem_cons_of_mem _ ht))
    have hd : PyData.depth (kD kv.1) = 0 := (show ∀ k : Key, PyData.depth (kD k) = 0 from fun k => by cases k <;> simp [kD, PyData.depth]) kv.1
    obtain ⟨as', k1, k2⟩ := key_read (P := P) (w := w) (h := h) h1 rfl hs.1 (hz _ List.mem_cons_self) hn
    have hle : PyData.depthAll (kvs.map fun p => kD p.1) ≤ PyData.depthAll (kD kv.1 :: kvs.map fun p => kD p.1) := by simp only [PyData.depthAll]; omega
    refine ⟨as' ++ as, bs, .cons k1 i1, i2.mono hle, ?_⟩
    simp only [List.map_cons, PyData.shownAll, PyData.depthAll]
    exact .cons ((k2.more fun b hb => nomatch hb).level_le (by omega)) (i3.more_le (fun b hb => hb) (by omega))
theorem showBKv_split : ∀ {kvs : List (D × D)}, ShowBKv kvs → ShowBAll (kvs.map (·.1)) ∧ ShowBAll (kvs.map (·.2))
  | [], _ => ⟨trivial, trivial⟩
  | (k, v) :: r, hk => by
    have hk : ShowB k ∧ ShowB v ∧ ShowBKv r := by simpa only [ShowBKv] using hk
    obtain ⟨a, b⟩ := showBKv_split hk.2.2
    exact ⟨⟨hk.1, a⟩, hk.2.1, b⟩
theorem RepKV.keys : ∀ {kvs : List (Key × V)} {ps : List (D × D)}, RepKV K H kvs ps → kvs.map (fun p => kD p.1) = ps.map (·.1)
  | _, _, .nil => rfl
  | _, _, .cons _ r => by rw [List.map_cons, List.map_cons, RepKV.keys r]
theorem kv_keys : ∀ {kvs : List (Key × V)} {vs : List (Key × Value)}, KV kvs vs → kvs.map (fun p => kD p.1) = vs.map fun p => kD p.1
  | _, _, .nil => rfl
  | _, _, .cons h r => by rw [List.map_cons, List.map_cons, kv_keys r, h.1]
theorem pairs_vals : ∀ {es : List DictEntry} {kvs : List (Key × Value)}, Pairs (mixKind P w) es kvs → es.map (·.val) = kvs.map (·.2)
  | _, _, .nil => rfl
  | _, _, .cons _ h r => by rw [List.map_cons, List.map_cons, pairs_vals r, h]
theorem kv_vals : ∀ {kvs : List (Key × V)} {vs : List (Key × Value)}, KV kvs vs → Vals (kvs.map (·.2)) (vs.map (·.2))
  | _, _, .nil => .nil
  | _, _, .cons h r => .cons h.2 (kv_vals r)
theorem RepKV.vals : ∀ {kvs : List (Key × V)} {ps : List (D × D)}, RepKV K H kvs ps → Reps K H (kvs.map (·.2)) (ps.map (·.2))
  | _, _, .nil => .nil
  | _, _, .cons h r => .cons h (RepKV.vals r)
theorem szKV (kvs : List (Key × V)) : sizeOf (kvs.map (·.2)) ≤ sizeOf kvs := by
  induction kvs with
  | nil => simp
  | cons p r ih => obtain ⟨k, v⟩ := p; simp; omega
mutual
theorem Rep.showK (I : HOk P w H h) (hn : h.NoDigits) : ∀ {d : D} {v : V} {u : Value}, Rep K H v d → RelV v u → ShowB d → d.shown.length ≤ sizeLine →
    ∃ as bs, Reads h u d as ∧ ReadAtMost h d.depth bs ∧ ReprK P w bs h d.depth u d.shown
  | _, _, u, .non, r, _, _ => by cases (show u = .none from r); exact ⟨_, [], .none, (fun _ q => nomatch q), by simp only [PyData.shown]; exact .of_is ReprIs.none _ _ _⟩
  | _, _, u, .bl b, r, _, _ => by cases (show u = .bool b from r); exact ⟨_, [], .bool b, (fun _ q => nomatch q), by simp only [PyData.shown]; exact .of_is (ReprIs.bool b) _ _ _⟩
  | _, _, u, .int i, r, hs, _ => by
    obtain ⟨t, rfl⟩ := r
    exact ⟨_, [], .int i t, (fun _ q => nomatch q), by
      have := reprK_int (P := P) (w := w) (h := h) (i := i) t hn (by simpa only [ShowB] using hs)
      simpa only [PyData.depth] using this⟩
  | _, _, u, .str x, r, _, hz => by
    obtain ⟨t, rfl⟩ := r
    exact ⟨_, [], .str x t, (fun _ q => nomatch q), by simp only [PyData.shown]; exact .of_is (ReprIs.str x t (by simpa only [PyData.shown] using hz)) _ _ _⟩
  | .list ds, _, u, .lst (a := a) (xs := xs) hl rs, r, hs, hz => by
    cases (show u = .ref _ from r)
    obtain ⟨_, its, n, rv, ho⟩ := I _ _ hl
    have hz' : (listText (PyData.shownAll ds)).length ≤ sizeLine := by simpa only [PyData.shown] using hz
    obtain ⟨as, bs, h4, hb, hk⟩ := Reps.showK I hn rs rv (by simpa only [ShowB] using hs) fun t ht => Nat.le_trans (listText_mem_le ht) hz'
    have h4' : ReadsAll h its.toArray.toList ds as := by simpa using h4
    have rd : Reads h (.ref a) (.list ds) _ := .list ho rfl rfl h4'
    have hna : a ∉ bs := not_mem_of_deeper rd (by simp only [PyData.depth]; omega) hb
    refine ⟨_, a :: bs, rd, ReadAtMost.cons rd (by simp only [PyData.depth]; omega) hb, ?_⟩
    simp only [PyData.depth, PyData.shown]
    cases its with
    | nil =>
      cases h4
      simp only [PyData.shownAll, listText_nil]
      exact ReprK.listEmpty ho rfl rfl
    | cons x l => exact ReprK.list ho rfl rfl hna (by simpa using hk.length_eq) (fun i y e => hk.item i y (by simpa using e))
  | .tuple ds, _, u, .tup (a := a) (xs := xs) hl rs, r, hs, hz => by
    cases (show u = .ref _ from r)
    obtain ⟨_, its, rv, ho⟩ := I _ _ hl
    obtain ⟨o, n, h1, h2, h3⟩ := tup_obj ho
    have hz' : (tupleText (PyData.shownAll ds)).length ≤ sizeLine := by simpa only [PyData.shown] using hz
    obtain ⟨as, bs, h4, hb, hk⟩ := Reps.showK I hn rs rv (by simpa only [ShowB] using hs) fun t ht => Nat.le_trans (tupleText_mem_le ht) hz'
    have h4' : ReadsAll h its.toArray.toList ds as := by simpa using h4
    have rd : Reads h (.ref a) (.tuple ds) _ := .tuple h1 h2 h3 h4'
    have hna : a ∉ bs := not_mem_of_deeper rd (by simp only [PyData.depth]; omega) hb
    refine ⟨_, a :: bs, rd, ReadAtMost.cons rd (by simp only [PyData.depth]; omega) hb, ?_⟩
    simp only [PyData.depth, PyData.shown]
    exact ReprK.tuple h1 h2 h3 hna (by simpa using hk)
  | .dict ps, _, u, .dct (a := a) (kvs := kvs) hl rs, r, hs, hz => by
    cases (show u = .ref _ from r)
    obtain ⟨_, hsys, vs, rv, o, es, ep, h1, h2, h3, _, h5, _⟩ := hl.ok I
    have hz' : (dictText (PyData.shownKv ps)).length ≤ sizeLine := by simpa only [PyData.shown] using hz
    obtain ⟨s1, s2⟩ := showBKv_split (by simpa only [ShowB] using hs)
    obtain ⟨a1, b1, r1, hb1, k1⟩ := keys_read (h := h) hn h5 ((kv_keys rv).symm.trans rs.keys) s1 (fun t ht => let ⟨p, hp, hq⟩ := PyData.shownKv_key_le ps t ht; Nat.le_trans hq (Nat.le_trans (dictText_mem_le hp) hz'))
    have rv2 := kv_vals rv
    rw [← pairs_vals h5] at rv2
    obtain ⟨a2, b2, r2, hb2, k2⟩ := RepKV.showK I hn rs rv2 s2 (fun t ht => let ⟨p, hp, hq⟩ := PyData.shownKv_val_le ps t ht; Nat.le_trans hq (Nat.le_trans (dictText_mem_le hp) hz'))
    have rd : Reads h (.ref a) (.dict ps) _ := .dict h1 h2.1 h3 r1 r2
    have hb : ReadAtMost h (PyData.depthKv ps) (b1 ++ b2) := (hb1.mono (PyData.depthAll_keys_le ps)).append (hb2.mono (PyData.depthAll_vals_le ps))
    have hna : a ∉ b1 ++ b2 := not_mem_of_deeper rd (by simp only [PyData.depth]; omega) hb
    refine ⟨_, a :: (b1 ++ b2), rd, ReadAtMost.cons rd (by simp only [PyData.depth]; omega) hb, ?_⟩
    simp only [PyData.depth, PyData.shown, PyData.shownKv_eq]
    exact ReprK.dict h1 h2.1 h3 hsys hna (ReprEntriesK.of_two es.toList _ _
      (k1.more_le (fun b hb => List.mem_append_left _ hb) (PyData.depthAll_keys_le ps)) (k2.more_le (fun b hb => List.mem_append_right _ hb) (PyData.depthAll_vals_le ps)))
theorem Reps.showK (I : HOk P w H h) (hn : h.NoDigits) : ∀ {ds : List D} {vs : List V} {us : List Value}, Reps K H vs ds → Vals vs us → ShowBAll ds → (∀ t ∈ PyData.shownAll ds, t.length ≤ sizeLine) →
    ∃ as bs, ReadsAll h us ds as ∧ ReadAtMost h (PyData.depthAll ds) bs ∧ ReprAllK P w bs h (PyData.depthAll ds) us (PyData.shownAll ds)
  | _, _, _, .nil, .nil, _, _ => ⟨[], [], .nil, (fun _ q => nomatch q), by simp only [PyData.shownAll]; exact .nil⟩
  | d :: ds, _, _, .cons h1 r1, .cons q1 q2, hs, hz => by
    have hs : ShowB d ∧ ShowBAll ds := by simpa only [ShowBAll] using hs
    simp only [PyData.shownAll] at hz
    obtain ⟨a1, b1, r1', hb1, k1⟩ := Rep.showK I hn h1 q1 hs.1 (hz _ List.mem_cons_self)
    obtain ⟨a2, b2, r2', hb2, k2⟩ := Reps.showK I hn r1 q2 hs.2 fun t ht => hz t (List.mem_cons_of_mem _ ht)
    refine ⟨a1 ++ a2, b1 ++ b2, .cons r1' r2', ?_, ?_⟩
    · exact (hb1.mono (by simp only [PyData.depthAll]; omega)).append (hb2.mono (by simp only [PyData.depthAll]; omega))
    · simp only [PyData.depthAll, PyData.shownAll]
      exact .cons ((k1.more fun b hb => List.mem_append_left _ hb).level_le (Nat.le_max_left _ _)) (k2.more_le (fun b hb => List.mem_append_right _ hb) (Nat.le_max_right _ _))
theorem RepKV.showK (I : HOk P w H h) (hn : h.NoDigits) : ∀ {ps : List (D × D)} {kvs : List (Key × V)} {us : List Value}, RepKV K H kvs ps → Vals (kvs.map (·.2)) us → ShowBAll (ps.map (·.2)) → (∀ t ∈ PyData.shownAll (ps.map (·.2)), t.length ≤ sizeLine) →
    ∃ as bs, ReadsAll h us (ps.map (·.2)) as ∧ ReadAtMost h (PyData.depthAll (ps.map (·.2))) bs ∧ ReprAllK P w bs h (PyData.depthAll (ps.map (·.2))) us (PyData.shownAll (ps.map (·.2)))
  | _, _, _, .nil, .nil, _, _ => ⟨[], [], .nil, (fun _ q => nomatch q), by simp only [List.map_nil, PyData.shownAll]; exact .nil⟩
  | _, _, _, .cons (d := d) (ps := ps) h1 r1, .cons q1 q2, hs, hz => by
    rw [List.map_cons] at hs hz ⊢
    have hs : ShowB d ∧ ShowBAll (ps.map (·.2)) := by simpa only [ShowBAll] using hs
    simp only [PyData.shownAll] at hz
    obtain ⟨a1, b1, r1', hb1, k1⟩ := Rep.showK I hn h1 q1 hs.1 (hz _ List.mem_cons_self)
    obtain ⟨a2, b2, r2', hb2, k2⟩ := RepKV.showK I hn r1 q2 hs.2 fun t ht => hz t (List.mem_cons_of_mem _ ht)
    refine ⟨a1 ++ a2, b1 ++ b2, .cons r1' r2', ?_, ?_⟩
    · exact (hb1.mono (by simp only [PyData.depthAll]; omega)).append (hb2.mono (by simp only [PyData.depthAll]; omega))
    · simp only [PyData.depthAll, PyData.shownAll]
      exact .cons ((k1.more fun b hb => List.mem_append_left _ hb).level_le (Nat.le_max_left _ _)) (k2.more_le (fun b hb => List.mem_append_right _ hb) (Nat.le_max_right _ _))
end
theorem showsByB (I : HOk P w H h) (hn : h.NoDigits) {a : Addr} {d : D} (hr : Rep K H (.ref a) d) (hd : (∃ l, d = .list l) ∨ ∃ l, d = .tuple l) (hs : ShowB d) (hz : d.shown.length ≤ sizeLine) : ∃ T idr, ShowsBy P w h a d T idr := by
  cases hr with
  | lst hl rs =>
    rename_i xs ds
    obtain ⟨_, its, n, rv, h1⟩ := I _ _ hl
    have hz' : (listText (PyData.shownAll ds)).length ≤ sizeLine := by simpa only [PyData.shown] using hz
    obtain ⟨as, bs, h4, hb, hk⟩ := Reps.showK I hn rs rv (by simpa only [ShowB] using hs) fun t ht => Nat.le_trans (listText_mem_le ht) hz'
    have h4' : ReadsAll h its.toArray.toList ds as := by simpa using h4
    have rd : Reads h (.ref a) (.list ds) _ := .list h1 rfl rfl h4'
    have hna : a ∉ bs := not_mem_of_deeper rd (by simp only [PyData.depth]; omega) hb
    refine ⟨"list", "list.__repr__", F.slot_list_repr.toG, F.slot_list_str, F.slot_list_format, fun s hk0 => ⟨_, hk0 _ _ h1, rfl⟩, fun A E s Q hg hu hk0 hQ => ?_⟩
    simp only [PyData.depth] at hu
    simp only [PyData.shown] at hQ
    cases its with
    | nil =>
      cases h4
      simp only [PyData.shownAll, listText_nil] at hQ
      exact call_list_repr_empty ⟨_, hk0 _ _ h1, rfl⟩ (hk0 _ _ h1) rfl (hQ s.heap _ _ fun _ _ e => e)
    | cons x l => exact call_list_reprK h1 rfl rfl hna (by simpa using hk.length_eq) (fun i y e => hk.item i y (by simpa using e)) hg (fun b _ => Clear.nil b) hu hk0 hQ hz'
  | tup hl rs =>
    rename_i xs ds
    obtain ⟨_, its, rv, ho⟩ := I _ _ hl
    obtain ⟨o, n, h1, h2, h3⟩ := tup_obj ho
    have hz' : (tupleText (PyData.shownAll ds)).length ≤ sizeLine := by simpa only [PyData.shown] using hz
    obtain ⟨as, bs, h4, hb, hk⟩ := Reps.showK I hn rs rv (by simpa only [ShowB] using hs) fun t ht => Nat.le_trans (tupleText_mem_le ht) hz'
    have h4' : ReadsAll h its.toArray.toList ds as := by simpa using h4
    have rd : Reads h (.ref a) (.tuple ds) _ := .tuple h1 h2 h3 h4'
    have hna : a ∉ bs := not_mem_of_deeper rd (by simp only [PyData.depth]; omega) hb
    refine ⟨"tuple", "tuple.__repr__", F.slot_tuple_repr, F.slot_tuple_str, F.slot_tuple_format, fun s hk0 => ⟨o, hk0 _ _ h1, h2⟩, fun A E s Q hg hu hk0 hQ => ?_⟩
    simp only [PyData.depth] at hu
    simp only [PyData.shown] at hQ
    exact call_tuple_reprK h1 h2 h3 hna (by simpa using hk) hg (fun b _ => Clear.nil b) hu hk0 hQ hz'
  | dct hl rs => rcases hd with ⟨_, e⟩ | ⟨_, e⟩ <;> cases e
end
def rReprB (K : Fg) : List V → Hp → VK → Prop := fun xs H Q => ∃ (a : Addr) (d : D), xs = [.ref a] ∧ Rep K H (.ref a) d ∧ ((∃ l, d = .list l) ∨ ∃ l, d = .tuple l) ∧ ShowB d ∧ d.depth ≤ 60 ∧ d.shown.length ≤ sizeLine ∧ Q (.str d.shown) H
theorem call_reprB {X : Cx} (hgd : X.A.guards = some []) (hu : X.A.units + 65 < cLine) (hn : X.base.NoDigits) : CallR X (.builtin "repr") (rReprB X.K) := by
  intro pins s σ H xs us Q I r h
  obtain ⟨a, d, rfl, hr, hd, hs, hdp, hsz, q⟩ := h
  obtain ⟨u, rfl, ru⟩ := vals1 r
  cases (show u = .ref a from ru)
  obtain ⟨T, idr, S⟩ := showsByB I.hok (hn.keeps I.bk) hr hd hs hsz
  exact call_repr_slot (by omega) (S.typeIs s fun _ _ e => e) S.slotRepr (S.call X.A.in1 _ s _ hgd (by show X.A.units + 1 + d.depth < cLine; omega) (fun _ _ e => e) fun h' u tk k => ⟨_, _, rfl, ⟨.str d.shown, H, I.kept k, ⟨_, rfl⟩, q⟩⟩)
/-- repr of a list, a tuple -/
def oReprB : Op1 := fun d k => ShowB d ∧ d.depth ≤ 60 ∧ d.shown.length ≤ sizeLine ∧ (match d with
  | .list _ => k (.sh (.str d.shown))
  | .tuple _ => k (.sh (.str d.shown))
  | _ => False)
theorem sem_reprB {G : Gb} : SemN G (rReprB G.K) (o1 oReprB) := by
  refine semN_1 ?_
  intro C Hi σ H Γ x a k Q c ha h q
  obtain ⟨h1, h2, h3, h4⟩ := h
  have hr := ha.rep c.imm
  cases a with
  | list l =>
    obtain ⟨p, xs, rfl, _, _⟩ := ha.list c.imm
    exact ⟨p, _, rfl, hr, .inl ⟨_, rfl⟩, h1, h2, h3, q _ _ H Hi (Ext.refl _) (out_str c _) h4⟩
  | tuple l =>
    obtain ⟨p, xs, rfl, _, _⟩ := ha.tuple c.imm
    exact ⟨p, _, rfl, hr, .inr ⟨_, rfl⟩, h1, h2, h3, q _ _ H Hi (Ext.refl _) (out_str c _) h4⟩
  | _ => exact h4.elim
theorem b_reprB {X : Cx} {G : Gb} (hK : X.K = G.K) (hgd : X.A.guards = some []) (hu : X.A.units + 65 < cLine) (hn : X.base.NoDigits) : B1 X G "repr" (rReprB G.K) (o1 oReprB) := ⟨by rw [← hK]; exact call_reprB hgd hu hn, sem_reprB⟩
theorem ev_reprB (l : List D) (k : R → Prop) : oReprB (.list l) k = (ShowB (.list l) ∧ PyData.depth (.list l) ≤ 60 ∧ (PyData.shown (.list l)).length ≤ sizeLine ∧ k (.sh (.str (PyData.shown (.list l))))) := rfl
end VL

set_option Elab.async false
set_option linter.all false
set_option maxRecDepth 100000
/-! VCh: values near a list of ints; what repr shows of them. -/
namespace SC
open PySem L2 VL

def bigI : Nat := 10 ^ 2797
def bndI : Nat := 2 ^ 9281
theorem bnd_big : bndI * 4 ≤ bigI := by unfold bndI bigI; decide +kernel
theorem bnd_lo : 100 ≤ bndI := by unfold bndI; decide +kernel
theorem big_ten : bigI ≤ tenP := by unfold bigI tenP; decide +kernel
theorem big_w : bigI ≤ 2 ^ 10000 := by unfold bigI; decide +kernel
theorem shown_int {i : Int} (h : i.natAbs < bigI) : (PyData.shown (.int i)).length ≤ 2800 := by
  have e := int_text_length_le10 (k := 2797) (by decide) h
  show (Str.ofString (toString i)).length ≤ 2800
  rw [ofString_length]
  omega
/-- what repr shows of data, at most M -/
structure Fit (M : Nat) (t : D) : Prop where
  sh : ShowB t
  dp : t.depth ≤ 5
  lv : t.leavesShort 2800 = true
  bk : t.bulk ≤ M
structure FitAll (M : Nat) (ts : List D) : Prop where
  sh : ShowBAll ts
  dp : PyData.depthAll ts ≤ 4
  lv : PyData.leavesShortAll 2800 ts = true
  bk : PyData.bulkAll ts ≤ M
theorem FitAll.list {M : Nat} {ts : List D} (h : FitAll M ts) : Fit M (.list ts) :=
  ⟨by simpa only [ShowB] using h.sh, by have := h.dp; simp only [PyData.depth]; omega, by simpa only [PyData.leavesShort] using h.lv, by simpa only [PyData.bulk] using h.bk⟩
theorem FitAll.tuple {M : Nat} {ts : List D} (h : FitAll M ts) : Fit M (.tuple ts) :=
  ⟨by simpa only [ShowB] using h.sh, by have := h.dp; simp only [PyData.depth]; omega, by simpa only [PyData.leavesShort] using h.lv, by simpa only [PyData.bulk] using h.bk⟩
theorem FitAll.nil : FitAll 0 [] := ⟨by simp only [ShowBAll], by simp [PyData.depthAll], by simp [PyData.leavesShortAll], by simp [PyData.bulkAll]⟩
theorem FitAll.cons {M N : Nat} {t : D} {ts : List D} (h : Fit M t) (hd : t.depth ≤ 4) (g : FitAll N ts) : FitAll (M + 1 + N) (t :: ts) :=
  ⟨by simp only [ShowBAll]; exact ⟨h.sh, g.sh⟩, by have := g.dp; simp only [PyData.depthAll]; omega, by simp [PyData.leavesShortAll, h.lv, g.lv], by have := h.bk; have := g.bk; simp only [PyData.bulkAll]; omega⟩
theorem Fit.mono {M N : Nat} {t : D} (h : Fit M t) (l : M ≤ N) : Fit N t := ⟨h.sh, h.dp, h.lv, Nat.le_trans h.bk l⟩
theorem FitAll.mono {M N : Nat} {t : List D} (h : FitAll M t) (l : M ≤ N) : FitAll N t := ⟨h.sh, h.dp, h.lv, Nat.le_trans h.bk l⟩
theorem fit_int {i : Int} (h : i.natAbs < bigI) : Fit 0 (.int i) :=
  ⟨by simp only [ShowB]; exact Nat.lt_of_lt_of_le h big_ten, by simp [PyData.depth], by simpa [PyData.leavesShort] using shown_int h, by simp [PyData.bulk]⟩
theorem fit_bool (b : Bool) : Fit 0 (.bool b) := ⟨by simp only [ShowB], by simp [PyData.depth], by simp [PyData.leavesShort], by simp [PyData.bulk]⟩
theorem fit_none : Fit 0 .none := ⟨by simp only [ShowB], by simp [PyData.depth], by simp [PyData.leavesShort], by simp [PyData.bulk]⟩
theorem fit_str {x : Str} (h : PyData.strOk x = true) : Fit x.cps.size (.str x) :=
  ⟨by simp only [ShowB], by simp [PyData.depth], by
    unfold PyData.strOk at h
    rw [← Array.all_toList] at h
    simp only [PyData.leavesShort, List.all_eq_true, decide_eq_true_eq]
    intro c hc
    have := List.all_eq_true.mp h c hc
    have := of_decide_eq_true this
    omega, by simp [PyData.bulk]⟩
theorem fit_shown {M : Nat} {t : D} (h : Fit M t) (hM : M ≤ 5900) : t.shown.length ≤ sizeLine := by
  have := PyData.shown_le_bulk 2800 (by decide) t h.lv
  have hb := h.bk
  have : (2800 + 2) * t.bulk ≤ 2802 * 5900 := Nat.mul_le_mul_left _ (by omega)
  rw [sizeLine_eq]
  omega
theorem fit_items : ∀ {l : List It}, (∀ it ∈ l, it.shows) → FitAll (18 * l.length) (sc l) ∧ PyData.depthAll (sc l) ≤ 1
  | [], _ => ⟨FitAll.nil, by simp [sc, PyData.depthAll]⟩
  | it :: l, h => by
    obtain ⟨ih, id⟩ := fit_items (l := l) fun x hx => h x (List.mem_cons_of_mem _ hx)
    have hi := h it List.mem_cons_self
    have one : Fit 17 it.d ∧ it.d.depth ≤ 1 := by
      have p1 : 10 ^ 12 ≤ bigI := by unfold bigI; decide +kernel
      cases it with
      | bar n =>
        refine ⟨(((fit_str b1).mono (N := 3) (Nat.le_of_eq s1) |> fun a => FitAll.cons a (by simp [PyData.depth]) (FitAll.cons ((fit_str (name_strOk hi)).mono (name_size hi)) (by simp [PyData.depth]) FitAll.nil)).tuple).mono (by decide), ?_⟩
        simp [It.d, PyData.depth, PyData.depthAll]
      | mark n =>
        refine ⟨(((fit_str b2).mono (N := 4) (Nat.le_of_eq s2) |> fun a => FitAll.cons a (by simp [PyData.depth]) (FitAll.cons ((fit_str (name_strOk hi)).mono (name_size hi)) (by simp [PyData.depth]) FitAll.nil)).tuple).mono (by decide), ?_⟩
        simp [It.d, PyData.depth, PyData.depthAll]
      | rep n c =>
        obtain ⟨hn, c1, c2⟩ := hi
        refine ⟨(((fit_str b3).mono (N := 6) (Nat.le_of_eq s3) |> fun a => FitAll.cons a (by simp [PyData.depth]) (FitAll.cons ((fit_str (name_strOk hn)).mono (name_size hn)) (by simp [PyData.depth]) (FitAll.cons (fit_int (i := c) (by omega)) (by simp [PyData.depth]) FitAll.nil))).tuple).mono (by decide), ?_⟩
        simp [It.d, PyData.depth, PyData.depthAll]
    refine ⟨(FitAll.cons one.1 (by omega) ih).mono (by rw [List.length_cons]; omega), ?_⟩
    rw [show sc (it :: l) = it.d :: sc l from rfl]
    simp only [PyData.depthAll]
    omega
/-- items and a thing near a list of ints are shown -/
theorem fit_both {l : List It} (h : ok [] l) (hl : l.length ≤ 290) {t : D} (ht : Fit 590 t) (hd : t.depth ≤ 3) : Fit 5900 (.list [.list (sc l), t]) := by
  obtain ⟨a, b⟩ := fit_items (ok_shows h)
  refine ((FitAll.cons (a.list) (by simp only [PyData.depth]; omega) (FitAll.cons ht (by omega) FitAll.nil)).list).mono (by omega)
theorem fit_ints : ∀ {ns : List Int}, (∀ n ∈ ns, n.natAbs < bigI) → FitAll ns.length (ns.map .int) ∧ PyData.depthAll (ns.map .int) = 0
  | [], _ => ⟨FitAll.nil, by simp [PyData.depthAll]⟩
  | n :: ns, h => by
    obtain ⟨ih, id⟩ := fit_ints (ns := ns) fun x hx => h x (List.mem_cons_of_mem _ hx)
    refine ⟨(FitAll.cons (fit_int (h n List.mem_cons_self)) (by simp [PyData.depth]) ih).mono (by rw [List.length_cons]; omega), ?_⟩
    rw [List.map_cons]
    simp only [PyData.depthAll, id, PyData.depth]
    rfl
/-- an entry that may stand in a thing -/
def At1 (e : D) : Prop := Fit 1 e ∧ e.depth ≤ 1 ∧ ∀ i, e = .int i → i.natAbs < bigI
theorem at_int {i : Int} (h : i.natAbs < bigI) : At1 (.int i) := ⟨(fit_int h).mono (by decide), by simp [PyData.depth], fun j e => by cases e; exact h⟩
theorem fit_ats : ∀ {xs : List D}, (∀ x ∈ xs, At1 x) → FitAll (2 * xs.length) xs ∧ PyData.depthAll xs ≤ 1
  | [], _ => ⟨FitAll.nil, by simp [PyData.depthAll]⟩
  | x :: xs, h => by
    obtain ⟨ih, id⟩ := fit_ats (xs := xs) fun x hx => h x (List.mem_cons_of_mem _ hx)
    obtain ⟨f, d, _⟩ := h x List.mem_cons_self
    refine ⟨(FitAll.cons f (by omega) ih).mono (by rw [List.length_cons]; omega), ?_⟩
    simp only [PyData.depthAll]
    omega
/-- a thing near a list of ints -/
structure Thing (t : D) : Prop where
  fit : Fit 590 t
  dp : t.depth ≤ 3
  len : ∀ xs, t = .list xs → xs.length ≤ 1000
  nts : ∀ ms : List Int, t = .list (ms.map .int) → ∀ x ∈ ms, x.natAbs < 2 ^ 400000
theorem thing_list {xs : List D} (hl : xs.length ≤ 293) (h : ∀ x ∈ xs, At1 x) : Thing (.list xs) := by
  obtain ⟨a, b⟩ := fit_ats h
  refine ⟨(a.list).mono (by omega), by simp only [PyData.depth]; omega, fun ys e => by cases e; omega, fun ms e x hx => ?_⟩
  cases e
  have := (h (.int x) (List.mem_map.mpr ⟨x, hx, rfl⟩)).2.2 x rfl
  exact Nat.lt_of_lt_of_le this (Nat.le_trans big_w (Nat.pow_le_pow_right (by decide) (by decide)))

/-! ### _law_is_list -/
def fs_law_is_list : FS := fun io ds Q _ => io = none ∧ ∃ (ns : List Int) (t : D), ds = [.list (ns.map .int), t] ∧ (∀ xs, t = .list xs → xs.length ≤ 1000) ∧ Q (.sh (.bool (isInts t ns))) none
def w_law_is_list : WS := wSeq (wIfS (wOr (wNot (wT (wIsi "list" (wVar 1)))) (wT (wOp oNe (wLc [2] (wiL (wVar 1)) (wgName 2) (wOr (wT (wIsi "bool" (wVar 2))) (wNot (wT (wIsi "int" (wVar 2))))) (wC (.int 1))) (wLst (wNil))))) (wRet (wC (.bool false))) (wNext)) (wRet (wOp oEq (wVar 1) (wVar 0)))
def isIntI : D → Bool
  | .int _ => true
  | _ => false
theorem asInts_all : ∀ xs : List D, (∀ x ∈ xs, isIntI x = true) → ∃ ms : List Int, xs = ms.map .int
  | [], _ => ⟨[], rfl⟩
  | x :: xs, h => by
    obtain ⟨ms, rfl⟩ := asInts_all xs fun y hy => h y (List.mem_cons_of_mem _ hy)
    have hx := h x List.mem_cons_self
    cases x with
    | int i => exact ⟨i :: ms, rfl⟩
    | _ => cases hx
theorem asInts_no : ∀ {xs : List D} {ns : List Int}, (∃ x ∈ xs, isIntI x = false) → isInts (.list xs) ns = false := fun {xs ns} ⟨x, hx, h⟩ => by
  cases e : isInts (.list xs) ns with
  | false => rfl
  | true =>
    have e : (asInts xs == some ns) = true := e
    have := asInts_some (eq_of_beq e)
    rw [this] at hx
    obtain ⟨i, _, rfl⟩ := List.mem_map.mp hx
    cases h
theorem fv_law_is_list : FnV fs_law_is_list 3 w_law_is_list := by
  rintro io ds Q X ⟨rfl, ns, t, rfl, hl, q⟩
  show w_law_is_list [.sh (.list (ns.map .int)), .sh t, .no] _ _
  cases t with
  | list xs =>
    have hl := hl xs rfl
    simp [w_law_is_list, isT, ev_wLc, okW, wipeE]
    have e0 : xs = xs.map fun d => d := by simp
    have key := fun k (d0 : D → D) (hd0 : ∀ d, d0 d = d) h h2 => lcm_filt (vs := [2]) (g := wgName 2) (t := wOr (wT (wIsi "bool" (wVar 2))) (wNot (wT (wIsi "int" (wVar 2))))) (w := wC (.int 1)) (k := k) (Γ := [.sh (.list (ns.map .int)), .sh (.list xs), .no]) xs d0 (fun _ => .int 1) (fun d => !isIntI d) (by omega) h h2
    have key2 := fun k h h2 => key k (fun d => d) (fun _ => rfl) h h2
    rw [← e0] at key2
    refine key2 _ (fun d acc k hd hz h1 h2 => ?_) ?_
    · cases d with
      | bool b => simp [lcT, isT, wipeE]; exact ⟨hz, h1 rfl⟩
      | int i => simp [lcT, isT, wipeE]; exact h2 rfl
      | none => simp [lcT, isT, wipeE]; exact ⟨hz, h1 rfl⟩
      | str x => simp [lcT, isT, wipeE]; exact ⟨hz, h1 rfl⟩
      | list x => simp [lcT, isT, wipeE]; exact ⟨hz, h1 rfl⟩
      | tuple x => simp [lcT, isT, wipeE]; exact ⟨hz, h1 rfl⟩
      | dict x => simp [lcT, isT, wipeE]; exact ⟨hz, h1 rfl⟩
    · have e1 : ((xs.filter fun d => !isIntI d).map fun _ => PyData.int 1) = (List.replicate (xs.filter fun d => !isIntI d).length (1 : Int)).map PyData.int := by
        rw [List.map_replicate, List.map_const']
      rw [e1]
      have e2 : PyData.list [] = .list (([] : List Int).map .int) := rfl
      rw [e2]
      simp only [ev_rd_ow, ev_oNe, shaped_ints, eqv_ints]
      by_cases hex : ∃ x ∈ xs, isIntI x = false
      case neg =>
        have hc : ∀ x ∈ xs, isIntI x = true := fun x hx => by
          cases e : isIntI x with
          | true => rfl
          | false => exact absurd ⟨x, hx, e⟩ hex
        obtain ⟨ms, rfl⟩ := asInts_all xs hc
        have : (List.filter (fun d => !isIntI d) (ms.map PyData.int)) = [] := List.filter_eq_nil_iff.mpr fun a ha => by
          obtain ⟨i, _, rfl⟩ := List.mem_map.mp ha
          simp [isIntI]
        rw [this]
        rw [isInts_map] at q
        simp [restE, shaped_ints, eqv_ints]
        exact q
      case pos =>
        rw [asInts_no hex] at q
        obtain ⟨x, hx, hx2⟩ := hex
        have : 0 < (List.filter (fun d => !isIntI d) xs).length := List.length_pos_of_mem (List.mem_filter.mpr ⟨hx, by simp [hx2]⟩)
        obtain ⟨n, hn⟩ : ∃ n, (List.filter (fun d => !isIntI d) xs).length = n + 1 := ⟨_, (Nat.succ_pred_eq_of_pos this).symm⟩
        rw [hn, List.replicate_succ]
        simp [restE]
        exact q
  | _ =>
    simp [w_law_is_list, isT]
    simpa [isInts] using q
end SC

set_option Elab.async false
set_option linter.all false
set_option maxRecDepth 100000
/-! VWf: what repr shows of weights; sums along the tape. -/
namespace SC
open PySem L2 VL

theorem fit_dict : ∀ {ps : List (D × D)}, WD ps → Fit (10 * ps.length) (.dict ps) ∧ PyData.depthKv ps = 0
  | [], _ => ⟨⟨by simp only [ShowB, ShowBKv], by simp [PyData.depth, PyData.depthKv], by simp [PyData.leavesShort, PyData.leavesShortKv], by simp [PyData.bulk, PyData.bulkKv]⟩, by simp [PyData.depthKv]⟩
  | p :: ps, h => by
    obtain ⟨ih, id⟩ := fit_dict (ps := ps) fun x hx => h x (List.mem_cons_of_mem _ hx)
    obtain ⟨nm, i, rfl, hn, h0, h1⟩ := h p List.mem_cons_self
    have f1 := fit_str (name_strOk hn)
    have hsz := name_size hn
    have f2 : Fit 0 (.int i) := fit_int (by
      have : 10 ^ 13 ≤ bigI := by unfold bigI; decide +kernel
      omega)
    have a1 := f1.sh; have a2 := f2.sh; have a3 := ih.sh
    have b1 := f1.lv; have b2 := f2.lv; have b3 := ih.lv
    have c1 := f1.bk; have c2 := f2.bk; have c3 := ih.bk
    simp only [ShowB] at a3
    simp only [PyData.leavesShort] at b3
    simp only [PyData.bulk] at c3
    have hd : PyData.depthKv ((PyData.str nm, PyData.int i) :: ps) = 0 := by
      simp only [PyData.depthKv, PyData.depth, id]
      rfl
    refine ⟨⟨?_, ?_, ?_, ?_⟩, hd⟩
    · simp only [ShowB, ShowBKv]
      exact ⟨trivial, by simpa only [ShowB] using a2, a3⟩
    · simp only [PyData.depth, hd]
      decide
    · simp only [PyData.leavesShort, PyData.leavesShortKv] at b1 b2 ⊢
      simp [b1, b2, b3]
    · simp only [PyData.bulk, PyData.bulkKv] at c1 c2 ⊢
      rw [List.length_cons]
      omega
theorem fit_loads {l : List It} (h : ok [] l) (hl : l.length ≤ 280) {ps : List (D × D)} (hw : WD ps) (hp : ps.length ≤ 50) : Fit 5900 (.list [.list (sc l), .dict ps]) := by
  obtain ⟨f, d⟩ := fit_dict hw
  exact fit_both h (by omega) (f.mono (by omega)) (by simp only [PyData.depth, d]; omega)
theorem wtf_nil (l : List It) (i : Nat) : wtf [] l i = 0 := by
  cases e : l[i]? with
  | none =>
    unfold wtf gf
    rw [List.getElem?_map, e]
    rfl
  | some it =>
    rw [wtf_get e]
    cases it <;> rfl
theorem SS_nil (l : List It) (n : Nat) : SS1 (wtf [] l) l n = 0 := Sf_zero fun i _ => wtf_nil l i
def tapeW (ps : List (D × D)) (l : List It) : List Int := (TT l).map (wtf ps l)
theorem sum_tape (ps : List (D × D)) (l : List It) : (tapeW ps l).sum = SS1 (wtf ps l) l l.length := rfl
theorem sum_take (ps : List (D × D)) (l : List It) (t : Nat) : ((tapeW ps l).take t).sum = Sb (wtf ps l) l t := by
  unfold tapeW
  rw [← List.map_take]
  rfl
end SC

set_option Elab.async false
set_option linter.all false
set_option maxRecDepth 100000
/-! VFork: for k in d, d a dict: its cell is locked while it is walked. -/
namespace VL
open PySem L2

section
variable {K : Fg} {Hi H : Hp} {a : Addr} {u u' : HO} {kvs : List (Key × V)}
end
section
variable {G : Gb} {C : Cf} {Hi H : Hp} {σ : St} {Γ : Ev} {a : Addr} {u u' : HO} {kvs : List (Key × V)}
def swpC (C : Cf) (a : Addr) (o : HO) : Cf := ⟨swp C.H0 a o, swp C.I0 a o, C.io, fun b hb => by
  have := C.iot b hb
  by_cases z : b = a
  · subst z
    cases e : C.H0 b with
    | none => exact absurd e this
    | some v => rw [swp_at e]; simp
  · rw [swp_ne z]; exact this, C.pa⟩
theorem Core.swp {fp : Nat → List Addr} (c : Core G C Hi σ H Γ fp) (ha : Hi a = some u) (d : Dual kvs u u') : Core G (swpC C a u') (swp Hi a u') σ (swp H a u') Γ fp := by
  have hHa := c.imm _ _ ha
  have nfp : ∀ i, i < Γ.length → ∀ b ∈ fp i, b ≠ a := fun i hi b hb z => by
    have := c.av i b hi hb
    rw [z, ha] at this; cases this
  refine ⟨fun b o h n => ?_, fun b h => ?_, fun b o h => ?_, fun b o h => ?_, fun b o h => ?_, c.len, fun i s hs => ?_, c.dj, fun i b hi hb => ?_⟩
  · rcases swp_some h with ⟨rfl, rfl, _⟩ | ⟨z, h⟩
    · exact swp_at hHa
    · rw [swp_ne z]; exact c.frame b o h n
  · by_cases z : b = a
    · subst z; rw [swp_at hHa]; simp
    · rw [swp_ne z]
      refine c.live b fun e => h ?_
      show VL.swp C.H0 a u' b = none
      rw [swp_ne z]; exact e
  · rcases swp_some h with ⟨rfl, rfl, _⟩ | ⟨z, h⟩
    · exact swp_at hHa
    · rw [swp_ne z]; exact c.imm b o h
  · rcases swp_some h with ⟨rfl, rfl, _⟩ | ⟨z, h⟩
    · exact swp_at ha
    · rw [swp_ne z]; exact c.base b o h
  · rcases swp_some h with ⟨rfl, rfl, _⟩ | ⟨z, h⟩
    · rcases c.ov _ _ ha with q | q
      · exact .inl (swp_at q)
      · exact .inr (swp_none q)
    · rcases c.ov b o h with q | q
      · exact .inl (by show VL.swp C.I0 a u' b = _; rw [swp_ne z]; exact q)
      · exact .inr (by show VL.swp C.H0 a u' b = _; rw [swp_ne z]; exact q)
  · obtain ⟨x, hx, ok⟩ := c.sl i s hs
    have hi := (List.getElem?_eq_some_iff.mp hs).1
    have nf := nfp i hi
    refine ⟨x, hx, ?_⟩
    cases s with
    | no => exact ok
    | two _ _ => exact ok.elim
    | sh d' => obtain ⟨h0, v, h1, h2⟩ := ok; exact ⟨h0, v, h1, Rep.swp ha d h2⟩
    | ow d' =>
      obtain ⟨p, h0, h1, h2, h3⟩ := ok
      have zp : p ≠ a := nf p (by rw [h0]; simp)
      refine ⟨p, h0, h1, ?_, by show VL.swp C.H0 a u' p = _; rw [swp_ne zp]; exact h3⟩
      cases h2 with
      | lst g r => exact .lst (by rw [swp_ne zp]; exact g) (Reps.swp ha d r)
      | dct g r => exact .dct (by rw [swp_ne zp]; exact g) (RepKV.swp ha d r)
    | io d' =>
      obtain ⟨p, h0, h1, h2, h3⟩ := ok
      have zp : p ≠ a := nf p (by rw [h0]; simp)
      refine ⟨p, h0, h1, ?_, h3⟩
      cases h2 with
      | lst g r => exact .lst (by rw [swp_ne zp]; exact g) (Reps.swp ha d r)
      | dct g r => exact .dct (by rw [swp_ne zp]; exact g) (RepKV.swp ha d r)
    | op t d' =>
      obtain ⟨p, h1, h2, h3, h4⟩ := ok
      refine ⟨p, h1, G.Op.swp h2 ha d nf, fun b hb => ?_, h4⟩
      rcases h3 b hb with q | q
      · exact .inl (by show VL.swp C.H0 a u' b = _; rw [swp_ne (nf b hb)]; exact q)
      · exact .inr q
  · rw [swp_ne (nfp i hi b hb)]
    exact c.av i b hi hb
theorem Rel.swp (c : Rel G C Hi σ H Γ) (ha : Hi a = some u) (d : Dual kvs u u') : Rel G (swpC C a u') (swp Hi a u') σ (swp H a u') Γ :=
  let ⟨_, c⟩ := c
  ⟨_, c.swp ha d⟩
theorem swp2_none {H0 : Hp} {a b : Addr} {o o2 : HO} : VL.swp (VL.swp H0 a o) a o2 b = none ↔ H0 b = none := by
  by_cases z : b = a
  · subst z
    cases e : H0 b with
    | none => rw [swp_none (swp_none e)]
    | some v => rw [swp_at (swp_at e)]; simp
  · rw [swp_ne z, swp_ne z]
theorem swp2_some {H0 : Hp} {a b : Addr} {o o2 v : HO} (h : H0 b = some v) (e : b = a → v = o2) : VL.swp (VL.swp H0 a o) a o2 b = some v := by
  by_cases z : b = a
  · have ev := e z
    subst z
    rw [ev]
    exact swp_at (swp_at h)
  · rw [swp_ne z, swp_ne z]; exact h
/-- the exchange undone -/
theorem Core.unswp {fp : Nat → List Addr} (c : Core G (swpC C a u') Hi σ H Γ fp) (ha : Hi a = some u') (d : Dual kvs u' u) (f1 : ∀ o, C.H0 a = some o → ¬ C.io a → o = u) (f2 : ∀ o, C.I0 a = some o → o = u) (f3 : C.I0 a = some u ∨ C.H0 a = none) :
    Core G C (VL.swp Hi a u) σ (VL.swp H a u) Γ fp := by
  have c2 := c.swp ha d
  have hia : VL.swp Hi a u a = some u := swp_at ha
  refine ⟨fun b o h n => c2.frame b o (swp2_some h fun z => f1 o (z ▸ h) (z ▸ n)) n, fun b h => c2.live b fun z => h (swp2_none.mp z), c2.imm, fun b o h => c2.base b o (swp2_some h fun z => f2 o (z ▸ h)), fun b o h => ?_, c2.len, fun i s hs => ?_, c2.dj, c2.av⟩
  · by_cases z : b = a
    · subst z
      rw [hia] at h
      cases h
      exact f3
    · rcases c2.ov b o h with q | q
      · have q : VL.swp (VL.swp C.I0 a u') a u b = some o := q
        rw [swp_ne z, swp_ne z] at q
        exact .inl q
      · exact .inr (swp2_none.mp q)
  · obtain ⟨x, hx, ok⟩ := c2.sl i s hs
    refine ⟨x, hx, ?_⟩
    cases s with
    | no => exact ok
    | two _ _ => exact ok.elim
    | sh d' => exact ok
    | ow d' => obtain ⟨p, h0, h1, h2, h3⟩ := ok; exact ⟨p, h0, h1, h2, swp2_none.mp h3⟩
    | io d' => exact ok
    | op t d' =>
      obtain ⟨p, h1, h2, h3, h4⟩ := ok
      exact ⟨p, h1, h2, fun b hb => (h3 b hb).imp (fun q => swp2_none.mp q) id, h4⟩
theorem Core.swpF {fp : Nat → List Addr} (c : Core G C Hi σ H Γ fp) (ha : Hi a = some u) : (∀ o, C.H0 a = some o → ¬ C.io a → o = u) ∧ (∀ o, C.I0 a = some o → o = u) ∧ (C.I0 a = some u ∨ C.H0 a = none) := by
  have hHa := c.imm _ _ ha
  refine ⟨fun o h n => ?_, fun o h => ?_, c.ov a u ha⟩
  · have := c.frame a o h n
    rw [hHa] at this; cases this; rfl
  · have := c.base a o h
    rw [ha] at this; cases this; rfl
end
/-! ### the loop -/
section
variable {G : Gb} {W : WX} {g : TG} {wg : WG} {tb : TS} {wb : WS}
theorem for_core (hg : SimG G g wg) (hb : SimS G W tb wb) {C : Cf} {Hi1 : Hp} {σ : St} {H1 : Hp} {Γ1 : Ev} {Dn : Ends} {Dd : WD} {J : It} {ds : List D} {ti : TI} (c1 : Rel G C Hi1 σ H1 Γ1) (it : Items G.K Hi1 J ds) (q : loopW wg wb Dd (fun _ _ => False) ds Γ1)
    (h1 : ∀ σ' H' Hi' Γ', Ext Hi1 Hi' → Rel G C Hi' σ' H' Γ' → Dd.nx Γ' → Dn.nx σ' H') (h2 : ∀ v r σ' H' Hi' Γ', Ext Hi1 Hi' → Out G C Hi' σ' H' Γ' v r → Dd.rt r Γ' → Dn.rt v H') (hti : ∀ R : It → Hp → Prop, R J H1 → ti σ H1 R) : tFor ti g tb Dn σ H1 := by
  refine hti _ ?_
  refine ⟨fun i m σ' H' => m = ds.length - i ∧ i ≤ ds.length ∧ ∃ Hi' Γ', Ext Hi1 Hi' ∧ Rel G C Hi' σ' H' Γ' ∧ loopW wg wb Dd (fun _ _ => False) (ds.drop i) Γ', ⟨ds.length, by simp, Nat.zero_le _, Hi1, Γ1, Ext.refl _, c1, q⟩, ?_⟩
  rintro i m σ2 H2 ⟨rfl, hil, Hi2, Γ2, e2, c2, q2⟩
  by_cases hlt : i < ds.length
  · have hd : ds.drop i = ds[i] :: ds.drop (i + 1) := List.drop_eq_getElem_cons hlt
    rw [hd] at q2
    refine .inr ⟨it.go Hi2 H2 i e2 c2.imm hlt, fun σ' H' => ∃ Hi' Γ', Ext Hi1 Hi' ∧ Rel G C Hi' σ' H' Γ' ∧ loopW wg wb Dd (fun _ _ => False) (ds.drop (i + 1)) Γ', fun σ' H' z => ⟨ds.length - (i + 1), by omega, rfl, hlt, z⟩, fun x H3 y => ?_⟩
    obtain ⟨Hi3, e3, k3, im3, ov3, r3⟩ := it.yld Hi2 H2 i x H3 ds[i] e2 c2.imm (List.getElem?_eq_getElem hlt) y
    have c3 := c2.grow k3 e3 im3 ov3
    refine hg C Hi3 σ2 H3 Γ2 x _ _ _ c3 r3 q2 fun σ4 Γ4 c4 q4 => ?_
    have f3' := e2.trans e3
    exact hb C Hi3 σ4 H3 Γ4 _ _ (fun _ _ => False) c4 q4 (fun σ' H' Hi' Γ' e c' q' => ⟨Hi', Γ', f3'.trans e, c', q'⟩) (fun v r σ' H' Hi' Γ' e => h2 v r σ' H' Hi' Γ' (f3'.trans e))
      (fun σ' H' Hi' Γ' e => h1 σ' H' Hi' Γ' (f3'.trans e)) (fun σ' H' Hi' Γ' e c' q' => ⟨Hi', Γ', f3'.trans e, c', q'⟩) fun x c d σ' H' Hi' Γ' e _ _ z => z.elim
  · have e : i = ds.length := by omega
    subst e
    rw [List.drop_length] at q2
    exact .inl ⟨it.stop Hi2 H2 _ e2 c2.imm (Nat.le_refl _), h1 σ2 H2 Hi2 Γ2 e2 c2 q2⟩
theorem keys_items {K : Fg} {Hi : Hp} {a : Addr} {od : Obj} {kvs : List (Key × V)} {ps : List (D × D)} (h0 : Hi a = some (.frz od (.dK kvs))) (hr : RepKV K Hi kvs ps) : Items K Hi (Itk a od kvs) (ps.map (·.1)) :=
  have hlk : kvs.length = ps.length := hr.length
  { stop := fun Hi' H i e k hi => ⟨k _ _ (e _ _ h0), by rw [List.length_map] at hi; omega⟩
    go := fun Hi' H i e k hi => ⟨k _ _ (e _ _ h0), by rw [List.length_map] at hi; omega⟩
    yld := fun Hi' H i x H' d e k hd y => by
      obtain ⟨rfl, kk, v, hkv, rfl⟩ := y
      rw [hr.at_key hkv hd]
      exact ⟨Hi', Ext.refl _, Ext.refl _, k, fun _ _ z => .inl z, rep_key kk⟩ }
/-- locked, or so handed over -/
def tLkS (t : TS) : TS := fun D σ H => tLock t D σ H ∨ t D σ H
theorem ps_lk {X : Cx} {st : Stmt} {t : TS} (h : PS X st t) : PS X st (tLkS t) :=
  ⟨fun pins s σ H D I q => q.elim ((ps_lock h).run pins s σ H D I) (h.run pins s σ H D I)⟩
def wForK (i : Nat) (g : WG) (b : WS) : WS := fun Γ D _ => match Γ[i]? with
  | some (.sh (.dict ps)) => loopW g b D (fun _ _ => False) (ps.map (·.1)) Γ
  | some (.ow (.dict ps)) => loopW g b D (fun _ _ => False) (ps.map (·.1)) (Γ.set i (.sh (.dict ps)))
  | _ => False
theorem Out.unswp {C : Cf} {Hi H : Hp} {σ : St} {Γ : Ev} {a : Addr} {u u' : HO} {kvs : List (Key × V)} {v : V} {r : R} (o : Out G (swpC C a u') Hi σ H Γ v r) (ha : Hi a = some u') (d : Dual kvs u' u) (f1 : ∀ o, C.H0 a = some o → ¬ C.io a → o = u) (f2 : ∀ o, C.I0 a = some o → o = u) (f3 : C.I0 a = some u ∨ C.H0 a = none) :
    Out G C (VL.swp Hi a u) σ (VL.swp H a u) Γ v r := by
  cases r with
  | sh d' => obtain ⟨⟨fp, c⟩, rp⟩ := o; exact ⟨⟨fp, c.unswp ha d f1 f2 f3⟩, Rep.swp ha d rp⟩
  | ow d' => obtain ⟨hl, fp, c⟩ := o; exact ⟨hl, fp, c.unswp ha d f1 f2 f3⟩
  | vr i => obtain ⟨⟨fp, c⟩, h⟩ := o; exact ⟨⟨fp, c.unswp ha d f1 f2 f3⟩, h⟩
  | op t d' => obtain ⟨hl, fp, c⟩ := o; exact ⟨hl, fp, c.unswp ha d f1 f2 f3⟩
theorem forK_sh (hg : SimG G g wg) (hb : SimS G W tb wb) {i : Nat} {ps : List (D × D)} {C : Cf} {Hi : Hp} {σ : St} {H : Hp} {Γ : Ev} {Dn : Ends} {Dd : WD} (c : Rel G C Hi σ H Γ) (ei : Γ[i]? = some (.sh (.dict ps))) (q : loopW wg wb Dd (fun _ _ => False) (ps.map (·.1)) Γ)
    (h1 : ∀ σ' H' Hi' Γ', Ext Hi Hi' → Rel G C Hi' σ' H' Γ' → Dd.nx Γ' → Dn.nx σ' H') (h2 : ∀ v r σ' H' Hi' Γ', Ext Hi Hi' → Out G C Hi' σ' H' Γ' v r → Dd.rt r Γ' → Dn.rt v H') : tLkS (tFor (iKeys (tVar i)) g tb) Dn σ H := by
  obtain ⟨x, hx, rx⟩ := c.at_sh ei
  cases rx with
  | @dct a kvs _ h r =>
    rcases h with h | ⟨od, h⟩
    · have hHa := c.imm _ _ h
      refine .inl ⟨a, .dK kvs, hHa, True.intro, fun od => ?_⟩
      obtain ⟨fp0, c0⟩ := id c
      obtain ⟨f1, f2, f3⟩ := c0.swpF h
      have d1 : Dual kvs (.dK kvs) (.frz od (.dK kvs)) := ⟨.inl rfl, .inr ⟨od, rfl⟩⟩
      have d2 : Dual kvs (.frz od (.dK kvs)) (.dK kvs) := ⟨.inr ⟨od, rfl⟩, .inl rfl⟩
      have c2 := c.swp h d1
      have hi2 : swp Hi a (.frz od (.dK kvs)) a = some (.frz od (.dK kvs)) := swp_at h
      rw [← swp_upd hHa]
      have back : ∀ {H' Hi' : Hp}, Ext (swp Hi a (.frz od (.dK kvs))) Hi' → Ext Hi' H' → Hi' a = some (.frz od (.dK kvs)) ∧ H' a = some (.frz od (.dK kvs)) ∧ Ext Hi (swp Hi' a (.dK kvs)) ∧ swp H' a (.dK kvs) = upd H' a (.dK kvs) := fun {H' Hi'} e k => by
        have g1 := e _ _ hi2
        have g2 := k _ _ g1
        refine ⟨g1, g2, fun b o hb => ?_, swp_upd g2⟩
        by_cases z : b = a
        · subst z
          rw [h] at hb; cases hb
          exact swp_at g1
        · rw [swp_ne z]
          exact e b o (by rw [swp_ne z]; exact hb)
      refine for_core (G := G) hg hb (J := Itk a od kvs) (ds := ps.map (·.1)) c2 (keys_items hi2 (RepKV.swp h d1 r)) q (fun σ' H' Hi' Γ' e c' q' => ?_) (fun v rr σ' H' Hi' Γ' e o q' => ?_) fun R hR => ⟨_, hx, a, od, rfl, .inl ⟨kvs, c2.imm _ _ hi2, hR⟩⟩
      · obtain ⟨fp, c'⟩ := c'
        obtain ⟨g1, g2, g3, g4⟩ := back e c'.imm
        refine ⟨g2, ?_⟩
        rw [← g4]
        exact h1 σ' _ _ Γ' g3 ⟨fp, c'.unswp g1 d2 f1 f2 f3⟩ q'
      · have im : Ext Hi' H' := by
          cases rr with
          | sh d' => exact o.1.imm
          | ow d' => exact o.2.imm
          | vr j => exact o.1.imm
          | op t d' => exact o.2.imm
        obtain ⟨g1, g2, g3, g4⟩ := back e im
        refine ⟨g2, ?_⟩
        rw [← g4]
        exact h2 v rr σ' _ _ Γ' g3 (o.unswp g1 d2 f1 f2 f3) q'
    · exact .inr (for_core (G := G) hg hb (J := Itk a od kvs) (ds := ps.map (·.1)) c (keys_items h r) q h1 h2 fun R hR => ⟨_, hx, a, od, rfl, .inl ⟨kvs, c.imm _ _ h, hR⟩⟩)
theorem sim_forK (i : Nat) (hg : SimG G g wg) (hb : SimS G W tb wb) : SimS G W (tLkS (tFor (iKeys (tVar i)) g tb)) (wForK i wg wb) := by
  intro C Hi σ H Γ Dn Dd Xd c hw h1 h2 _ _ _
  unfold wForK at hw
  split at hw
  · rename_i ps ei
    exact forK_sh hg hb c ei hw h1 h2
  · rename_i ps ei
    obtain ⟨Hi', e, c'⟩ := c.freeze ei
    have hl := (List.getElem?_eq_some_iff.mp ei).1
    exact forK_sh hg hb c' (List.getElem?_set_self hl) hw (fun σ' H' Hi2 Γ' e2 => h1 σ' H' Hi2 Γ' (e.trans e2)) (fun v r σ' H' Hi2 Γ' e2 => h2 v r σ' H' Hi2 Γ' (e.trans e2))
  · exact hw.elim
end
section
variable {X : Cx} {G : Gb} {W : WX} {tg : Expr} {b1 : List Stmt} {g : TG} {wg : WG} {ts : TS} {ws : WS} {p pos : Pos}
theorem ds_forK (i : Nat) {x : Str} (hp : PassesOwn (model X.prog X.w) X.A X.env X.xe) (hc : X.calm = true) (hg : DG X G tg g wg) (hb : DB X G W b1 ts ws)
    (hN : X.N[i]? = some x := by rfl) (hv : Vis X.env.scope x := by first | exact Or.inl rfl | exact Or.inr (Or.inl rfl) | exact Or.inr (Or.inr rfl)) (hd : (x == ("__debug__" : Str)) = false := by decide) (hcd : (x == ("__classdict__" : Str)) = false := by decide)
    (hs : ∀ y, foldedSetIterable (.Name x p) X.env y = pure y := by intro _; rfl) :
    DS X G W (.For tg (.Name x p) b1 [] pos) (tLkS (tFor (iKeys (tVar i)) g ts)) (wForK i wg ws) := ⟨ps_lk (ps_for hp hc (pi_keys (pe_var hN hv hd hcd)) hg.pe hb.pe hs), sim_forK i hg.sim hb.sim⟩
end
def slFK (i : Nat) (g : WG) (b : WS) (D : WD) (Γ : Ev) : Sl → Prop
  | .sh (.dict ps) => loopW g b D (fun _ _ => False) (ps.map (·.1)) Γ
  | .ow (.dict ps) => loopW g b D (fun _ _ => False) (ps.map (·.1)) (Γ.set i (.sh (.dict ps)))
  | _ => False
theorem ev_wForK (i : Nat) (g : WG) (b : WS) (Γ : Ev) (D : WD) (X : XW) : wForK i g b Γ D X = getS Γ i (slFK i g b D Γ) := by
  rw [getS_at]
  unfold wForK
  cases Γ[i]? with
  | none => rfl
  | some s =>
    cases s with
    | sh d => cases d <;> rfl
    | ow d => cases d <;> rfl
    | _ => rfl
end VL

set_option Elab.async false
set_option linter.all false
set_option maxRecDepth 100000
/-! VForkE: a list comprehension over a dict's keys that reads other variables, too. -/
namespace VL
open PySem L2

def wLcD (i : Nat) (vs : List Nat) (g : WG) (t : WT) (w : WE) : WE := fun Γ Q X => match Γ[i]? with
  | some (.sh (.dict ps)) => okW Γ vs ∧ lcW vs g t w (fun acc Γ2 => Q (.ow (.list acc)) (restE Γ Γ2 vs)) (ps.map (·.1)) [] (wipeE Γ vs)
  | some (.ow (.dict ps)) => okW (Γ.set i (.sh (.dict ps))) vs ∧ lcW vs g t w (fun acc Γ2 => Q (.ow (.list acc)) (restE (Γ.set i (.sh (.dict ps))) Γ2 vs)) (ps.map (·.1)) [] (wipeE (Γ.set i (.sh (.dict ps))) vs)
  | _ => False
section
variable {G : Gb} {W : WX} {g : TG} {wg : WG} {tt : TT} {wt : WT} {te : TE} {we : WE} {vs : List Nat}
theorem lcD_sh (nd : vs.Nodup) (hg : SimGw G g wg vs) (ht : SimT G noW tt wt) (he : SimE G noW te we) {i : Nat} {ps : List (D × D)} {C : Cf} {Hi : Hp} {σ : St} {H : Hp} {Γ : Ev} {Q : VK} {Qd : R → Ev → Prop} (c : Rel G C Hi σ H Γ) (ei : Γ[i]? = some (.sh (.dict ps)))
    (ok : okW Γ vs) (q : lcW vs wg wt we (fun acc Γ2 => Qd (.ow (.list acc)) (restE Γ Γ2 vs)) (ps.map (·.1)) [] (wipeE Γ vs)) (hQ : ∀ v r H' Hi' Γ', Ext Hi Hi' → Out G C Hi' σ H' Γ' v r → Qd r Γ' → Q v H') : tLk (tLc (iKeys (tVar i)) g tt te vs) σ H Q := by
  obtain ⟨x, hx, rx⟩ := c.at_sh ei
  cases rx with
  | @dct a kvs _ h r =>
    rcases h with h | ⟨od, h⟩
    · have hHa := c.imm _ _ h
      refine .inl ⟨a, .dK kvs, hHa, True.intro, fun od => ?_⟩
      obtain ⟨fp0, c0⟩ := id c
      obtain ⟨f1, f2, f3⟩ := c0.swpF h
      have d1 : Dual kvs (.dK kvs) (.frz od (.dK kvs)) := ⟨.inl rfl, .inr ⟨od, rfl⟩⟩
      have d2 : Dual kvs (.frz od (.dK kvs)) (.dK kvs) := ⟨.inr ⟨od, rfl⟩, .inl rfl⟩
      have c2 := c.swp h d1
      have hi2 : swp Hi a (.frz od (.dK kvs)) a = some (.frz od (.dK kvs)) := swp_at h
      rw [← swp_upd hHa]
      refine ⟨_, hx, a, od, rfl, .inl ⟨kvs, c2.imm _ _ hi2, ?_⟩⟩
      refine lc_run nd hg ht he (Q := fun v H' => H' a = some (.frz od (.dK kvs)) ∧ Q v (upd H' a (.dK kvs))) (Qd := Qd) c2 (keys_items hi2 (RepKV.swp h d1 r)) ok q fun v rr H' Hi' Γ' e o q' => ?_
      have im : Ext Hi' H' := by
        cases rr with
        | sh d' => exact o.1.imm
        | ow d' => exact o.2.imm
        | vr j => exact o.1.imm
        | op t d' => exact o.2.imm
      have g1 := e _ _ hi2
      have g2 := im _ _ g1
      have g3 : Ext Hi (swp Hi' a (.dK kvs)) := fun b o hb => by
        by_cases z : b = a
        · subst z
          rw [h] at hb; cases hb
          exact swp_at g1
        · rw [swp_ne z]
          exact e b o (by rw [swp_ne z]; exact hb)
      refine ⟨g2, ?_⟩
      rw [← swp_upd g2]
      exact hQ v rr _ _ Γ' g3 (o.unswp g1 d2 f1 f2 f3) q'
    · refine .inr ⟨_, hx, a, od, rfl, .inl ⟨kvs, c.imm _ _ h, ?_⟩⟩
      exact lc_run nd hg ht he (Qd := Qd) c (keys_items h r) ok q hQ
theorem sim_lcD (nd : vs.Nodup) (i : Nat) (hg : SimGw G g wg vs) (ht : SimT G noW tt wt) (he : SimE G noW te we) : SimE G W (tLk (tLc (iKeys (tVar i)) g tt te vs)) (wLcD i vs wg wt we) := by
  intro C Hi σ H Γ Q Qd Xd c hw hQ hX
  unfold wLcD at hw
  split at hw
  · rename_i ps ei
    exact lcD_sh nd hg ht he c ei hw.1 hw.2 hQ
  · rename_i ps ei
    obtain ⟨Hi', e, c'⟩ := c.freeze ei
    have hl := (List.getElem?_eq_some_iff.mp ei).1
    exact lcD_sh nd hg ht he c' (List.getElem?_set_self hl) hw.1 hw.2 fun v r H' Hi2 Γ' e2 => hQ v r H' Hi2 Γ' (e.trans e2)
  · exact hw.elim
end
section
variable {X : Cx} {G : Gb} {W : WX} {tg e : Expr} {ifs : List Expr} {scope : Scope} {own : List (Str × Nat)} {pos p : Pos} {g : TG} {wg : WG} {tt : TT} {wt : WT} {te : TE} {we : WE}
theorem de_lcD (i : Nat) {x : Str} (hc : X.calm = true) (hN : X.N.Nodup) (ok : BlkOk X.N X.env.scope scope own) (nd : (own.map (·.2)).Nodup)
    (hg : ∀ s H C cl fp, DGw (Blk X scope s H C cl fp) G (own.map (·.2)) tg g wg) (ht : ∀ s H C cl fp, DTs (Blk X scope s H C cl fp) G noW ifs tt wt) (he : ∀ s H C cl fp, DE (Blk X scope s H C cl fp) G noW e te we)
    (hNi : X.N[i]? = some x := by rfl) (hv : Vis X.env.scope x := by first | exact Or.inl rfl | exact Or.inr (Or.inl rfl) | exact Or.inr (Or.inr rfl)) (hd : (x == ("__debug__" : Str)) = false := by decide) (hcd : (x == ("__classdict__" : Str)) = false := by decide)
    (hs : ∀ y, foldedSetIterable (.Name x p) X.env y = pure y := by intro _; rfl) :
    DE X G W (.ListComp e [⟨tg, .Name x p, ifs, 0⟩] scope pos) (tLk (tLc (iKeys (tVar i)) g tt te (own.map (·.2)))) (wLcD i (own.map (·.2)) wg wt we) :=
  ⟨pe_lk (pe_lc hc hN (pi_keys (pe_var hNi hv hd hcd)) ok (fun s H C cl fp => (hg s H C cl fp).pe) (fun s H C cl fp => (ht s H C cl fp).pe) (fun s H C cl fp => (he s H C cl fp).pe) hs),
    sim_lcD nd i (hg X.s_0 X.H_0 0 [] []).sim (ht X.s_0 X.H_0 0 [] []).sim (he X.s_0 X.H_0 0 [] []).sim⟩
end
def slLD (i : Nat) (vs : List Nat) (g : WG) (t : WT) (w : WE) (Q : R → Ev → Prop) (Γ : Ev) : Sl → Prop
  | .sh (.dict ps) => okW Γ vs ∧ lcW vs g t w (fun acc Γ2 => Q (.ow (.list acc)) (restE Γ Γ2 vs)) (ps.map (·.1)) [] (wipeE Γ vs)
  | .ow (.dict ps) => okW (Γ.set i (.sh (.dict ps))) vs ∧ lcW vs g t w (fun acc Γ2 => Q (.ow (.list acc)) (restE (Γ.set i (.sh (.dict ps))) Γ2 vs)) (ps.map (·.1)) [] (wipeE (Γ.set i (.sh (.dict ps))) vs)
  | _ => False
theorem ev_wLcD (i : Nat) (vs : List Nat) (g : WG) (t : WT) (w : WE) (Γ : Ev) (Q : R → Ev → Prop) (X : XW) : wLcD i vs g t w Γ Q X = getS Γ i (slLD i vs g t w Q Γ) := by
  rw [getS_at]
  unfold wLcD
  cases Γ[i]? with
  | none => rfl
  | some s =>
    cases s with
    | sh d => cases d <;> rfl
    | ow d => cases d <;> rfl
    | _ => rfl
end VL

set_option Elab.async false
set_option linter.all false
set_option maxRecDepth 100000
/-! VCh2: values near a list of ints, drawn. -/
namespace SC
open PySem L2 VL

theorem cut_mem {l : List D} {lo hi : Option Int} {x : D} (h : x ∈ cutD l lo hi) : x ∈ l := List.mem_of_mem_drop (List.mem_of_mem_take h)
theorem cut_len {l : List D} {a b : Nat} : (cutD l (some (a : Int)) (some (b : Int))).length ≤ b - a := by
  unfold cutD
  rw [HT.sIx_nat, HT.sIx_nat, List.length_take, List.length_drop]
  omega
theorem cut_len2 {l : List D} {a : Nat} : (cutD l (some (a : Int)) (some ((a : Int) + 2))).length ≤ min 2 (l.length - a) := by
  have : ((a : Int) + 2) = ((a + 2 : Nat) : Int) := by omega
  rw [this]
  unfold cutD
  rw [HT.sIx_nat, HT.sIx_nat, List.length_take, List.length_drop]
  omega
theorem cut_from {l : List D} {a : Nat} : (cutD l (some ((a : Int) + 2)) none).length = l.length - (a + 2) := by
  have : ((a : Int) + 2) = ((a + 2 : Nat) : Int) := by omega
  rw [this]
  unfold cutD
  have h2 : HT.sIx l.length l.length none = l.length := by simp [HT.sIx]
  rw [HT.sIx_nat, h2, List.length_take, List.length_drop]
  omega
theorem cut_last {l : List D} : (cutD l (some (-1)) none).length ≤ 1 := by
  unfold cutD
  rw [List.length_take, List.length_drop]
  have : HT.sIx l.length 0 (some (-1)) = l.length - 1 := by
    unfold HT.sIx
    simp
    omega
  rw [this]
  omega
theorem cut_le {l : List D} {lo hi : Option Int} : (cutD l lo hi).length ≤ l.length := by
  unfold cutD
  rw [List.length_take, List.length_drop]
  omega
def fs_law_changed : FS := fun io ds Q _ => ∃ (n : Nat) (d : D) (ns : List Int), io = some (.io d) ∧ StrOk n d ∧ n ≤ 900000 ∧ ds = [.list (ns.map .int)] ∧ ns ≠ [] ∧ ns.length ≤ 291 ∧ (∀ x ∈ ns, x.natAbs < bndI) ∧
  ∀ (ts : List D) d', (∀ t ∈ ts, Thing t) → StrOk (n + 3) d' → Q (.ow (.list ts)) (some (.io d'))
def w_law_changed : WS := wSeq (wPar [2, 3] (wsCons (wCallIo fs_law_draw 0 [] (wCons (wCB (o1 oLen) (wCons (wVar 1) (wNil))) (wNil))) (wsCons (wOp oAdd (wC (.int 1)) (wCallIo fs_law_draw 0 [] (wCons (wC (.int 9)) (wNil)))) (wsNil)))) (wSeq (wSet 4 (wOp oIx (wLst (wCons (wC (.bool true)) (wCons (wC .none) (wCons (wC (.str "1")) (wCons (wLst (wCons (wOp oIx (wVar 1) (wVar 2)) (wNil))) (wCons (wOp oAdd (wOp oIx (wVar 1) (wVar 2)) (wVar 3)) (wCons (wOp (oII (fun _ _ => True) (· - ·)) (wOp oIx (wVar 1) (wVar 2)) (wVar 3)) (wCons (wOp oMul (wOp oIx (wVar 1) (wVar 2)) (wC (.int 2))) (wCons (wOp (oII (fun _ _ => True) (· - ·)) (wUn (fun a k => isI a fun i => k (.sh (.int (-i)))) (wC (.int 1))) (wOp oIx (wVar 1) (wVar 2))) (wNil)))))))))) (wCallIo fs_law_draw 0 [] (wCons (wC (.int 8)) (wNil))))) (wSeq (wSet 5 (wLst (wCons (wVar 1) (wCons (wOp oAdd (wOp oAdd (wSlL (wVar 1) (wNoP) (wPart (wVar 2))) (wLst (wCons (wOp oAdd (wOp oIx (wVar 1) (wVar 2)) (wC (.int 1))) (wNil)))) (wSlL (wVar 1) (wPart (wOp oAdd (wVar 2) (wC (.int 1)))) (wNoP))) (wCons (wOp oAdd (wOp oAdd (wSlL (wVar 1) (wNoP) (wPart (wVar 2))) (wLst (wCons (wVar 4) (wNil)))) (wSlL (wVar 1) (wPart (wOp oAdd (wVar 2) (wC (.int 1)))) (wNoP))) (wCons (wOp oAdd (wVar 1) (wSlL (wVar 1) (wPart (wUn (fun a k => isI a fun i => k (.sh (.int (-i)))) (wC (.int 1)))) (wNoP))) (wCons (wSlL (wVar 1) (wNoP) (wPart (wUn (fun a k => isI a fun i => k (.sh (.int (-i)))) (wC (.int 1))))) (wNil)))))))) (wSeq (wSet 5 (wOp oAdd (wVar 5) (wLst (wCons (wOp oAdd (wOp oAdd (wSlL (wVar 1) (wNoP) (wPart (wVar 2))) (wRevL (wSlL (wVar 1) (wPart (wVar 2)) (wPart (wOp oAdd (wVar 2) (wC (.int 2))))))) (wSlL (wVar 1) (wPart (wOp oAdd (wVar 2) (wC (.int 2)))) (wNoP))) (wCons (wSlL (wVar 1) (wPart (wC (.int 1))) (wNoP)) (wCons (wRevL (wVar 1)) (wCons (wLc [6] (wiL (wVar 1)) (wgName 6) (wYes) (wOp oAdd (wVar 6) (wC (.int 1)))) (wNil)))))))) (wRet (wOp oAdd (wVar 5) (wLst (wCons (wLc [6] (wiL (wVar 1)) (wgName 6) (wYes) (wOp oMul (wC (.int 2)) (wVar 6))) (wCons (wCB (o1 oTuple) (wCons (wVar 1) (wNil))) (wCons (wC .none) (wCons (wDict0) (wCons (wC (.str "0")) (wCons (wC (.int 0)) (wCons (wLst (wCons (wVar 1) (wNil))) (wNil))))))))))))))
theorem at_odd {e : D} (h : Fit 1 e) (hd : e.depth ≤ 1) (hi : ∀ i, e = .int i → i.natAbs < bigI) : At1 e := ⟨h, hd, hi⟩
theorem thing_other {t : D} (h : Fit 590 t) (hd : t.depth ≤ 3) (hl : ∀ xs, t ≠ .list xs) : Thing t := ⟨h, hd, fun xs e => absurd e (hl xs), fun ms e => absurd e (hl _)⟩
theorem fv_law_changed : FnV fs_law_changed 7 w_law_changed := by
  rintro io ds Q X ⟨n, d, ns, rfl, hs, hn, rfl, hne, hl, hb, q⟩
  show w_law_changed [.io d, .sh (.list (ns.map .int)), .no, .no, .no, .no, .no] _ _
  have hl0 : 0 < ns.length := List.length_pos_iff.mpr hne
  have hbig := bnd_big
  have hlo := bnd_lo
  have b1 : ∀ x ∈ ns, x.natAbs < bigI := fun x hx => by have := hb x hx; omega
  have atn : ∀ e ∈ ns.map PyData.int, At1 e := fun e he => by
    obtain ⟨x, hx, rfl⟩ := List.mem_map.mp he
    exact at_int (b1 x hx)
  obtain ⟨B, hB⟩ : ∃ B : List D, B = ns.map .int := ⟨_, rfl⟩
  have hBl : B.length = ns.length := by rw [hB, List.length_map]
  simp [w_law_changed, ev_wLc, okW, wipeE]
  refine drw hs (by omega) (by omega) (by omega) fun r d1 r0 r1 s1 => ?_
  simp
  refine drw s1 (by omega) (by decide) (by decide) fun r2 d2 r20 r21 s2 => ?_
  obtain ⟨i, rfl⟩ : ∃ i : Nat, r = (i : Int) := ⟨r.toNat, by omega⟩
  have hi : i < ns.length := by omega
  have hx : ns[i]? = some ns[i] := List.getElem?_eq_getElem hi
  have hxb := hb ns[i] (List.getElem_mem hi)
  have ix := fun k => ix_lnE (k := k) (show (ns.map PyData.int)[i]? = some (.int ns[i]) by rw [List.getElem?_map, hx]; rfl)
  have hm : CMulW ns[i] 2 := by
    have h3 : bndI ≤ 2 ^ 9281 := Nat.le_refl _
    exact wide_mul (a := 9281) (b := 2) (Nat.lt_of_lt_of_le hxb h3) (by decide) (by decide) (by decide) (by decide)
  simp [ix, hm]
  refine drw s2 (by omega) (by decide) (by decide) fun r3 d3 r30 r31 s3 => ?_
  simp
  refine pick r30 (by simpa using r31) fun odd hodd => ?_
  have hodd : At1 odd := by
    simp only [List.mem_cons, List.not_mem_nil, or_false] at hodd
    rcases hodd with rfl | rfl | rfl | rfl | rfl | rfl | rfl | rfl
    · exact at_odd ((fit_bool true).mono (by decide)) (by simp [PyData.depth]) (fun i e => by cases e)
    · exact at_odd (fit_none.mono (by decide)) (by simp [PyData.depth]) (fun i e => by cases e)
    · exact at_odd ((fit_str (by decide +kernel)).mono (by decide +kernel)) (by simp [PyData.depth]) (fun i e => by cases e)
    · exact at_odd ((FitAll.cons (fit_int (b1 _ (List.getElem_mem hi))) (by simp [PyData.depth]) FitAll.nil).list.mono (by decide)) (by simp [PyData.depth, PyData.depthAll]) (fun i e => by cases e)
    · exact at_int (by omega)
    · exact at_int (by omega)
    · exact at_int (by omega)
    · exact at_int (by omega)
  clear hm
  have c1 : cutD (ns.map PyData.int) none (some (i : Int)) = (ns.map PyData.int).take i := cut_take (by rw [List.length_map]; omega)
  have c2 : cutD (ns.map PyData.int) (some ((i : Int) + 1)) none = (ns.map PyData.int).drop (i + 1) := by
    have := cut_drop (l := ns.map PyData.int) (p := i + 1) (by rw [List.length_map]; omega)
    rw [← this]; rfl
  rw [← hB] at c1 c2 atn
  have T := fun {xs : List D} (h1 : xs.length ≤ 293) (h2 : ∀ x ∈ xs, At1 x) => thing_list h1 h2
  rw [← hB] at ix
  rw [← hB]
  simp [ix, c1, c2, hBl]
  have z1 := @cut_len2 B i
  have z2 := @cut_from B i
  have z3 := @cut_last B
  refine ⟨smallE (by omega), smallE (by omega), smallE (by omega), smallE (by omega), smallE (by omega), smallE (by omega), smallE (by omega), ?_⟩
  have go := fun (f : Int → Int) (w : WE) (k : List D → Ev → Prop) (Γ : Ev) h h2 => lcm_map (vs := [6]) (g := wgName 6) (t := wYes) (w := w) (k := k) (Γ := Γ) ns PyData.int (fun x => .int (f x)) (by omega) h h2
  rw [← hB] at go
  refine go (fun x => x + 1) _ _ _ (fun x acc k hx hz hk => by simp [lcT, wipeE]; exact ⟨hz, hk⟩) ?_
  simp [restE]
  refine ⟨smallE (by decide), ?_⟩
  refine go (fun x => 2 * x) _ _ _ (fun x acc k hx hz hk => ?_) ?_
  · have hxb := hb x hx
    have h3 : bndI ≤ 2 ^ 9281 := Nat.le_refl _
    have hm : CMulW 2 x := wide_mul (a := 2) (b := 9281) (by decide) (Nat.lt_of_lt_of_le hxb h3) (by decide) (by decide) (by decide)
    simp [lcT, wipeE, hm]
    exact ⟨hz, hk⟩
  simp [restE]
  refine ⟨smallE (by decide), q _ d3 (fun t ht => ?_) s3⟩
  have pl : ∀ (f : Int → Int), (∀ x, x.natAbs < bndI → (f x).natAbs < bigI) → Thing (.list (ns.map fun x => .int (f x))) := fun f hf => T (by rw [List.length_map]; omega) fun e he => by
    obtain ⟨x, hx, rfl⟩ := List.mem_map.mp he
    exact at_int (hf x (hb x hx))
  have tk : ∀ e, e ∈ B.take i → At1 e := fun e he => atn e (List.mem_of_mem_take he)
  have dr : ∀ {j} e, e ∈ B.drop j → At1 e := fun e he => atn e (List.mem_of_mem_drop he)
  have ct : ∀ {lo hi} e, e ∈ cutD B lo hi → At1 e := fun e he => atn e (cut_mem he)
  simp only [List.mem_append, List.mem_cons, List.not_mem_nil, or_false, List.cons_append, List.nil_append, or_assoc] at ht
  rcases ht with rfl | rfl | rfl | rfl | rfl | rfl | rfl | rfl | rfl | rfl | rfl | rfl | rfl | rfl | rfl | rfl
  · exact T (by omega) atn
  · refine T (by simp; omega) fun e he => ?_
    rcases List.mem_append.mp he with z | z
    · exact tk e z
    · rcases List.mem_cons.mp z with rfl | z
      · exact at_int (by omega)
      · exact dr e z
  · refine T (by simp; omega) fun e he => ?_
    rcases List.mem_append.mp he with z | z
    · exact tk e z
    · rcases List.mem_cons.mp z with rfl | z
      · exact hodd
      · exact dr e z
  · refine T (by simp; omega) fun e he => ?_
    rcases List.mem_append.mp he with z | z
    · exact atn e z
    · exact ct e z
  · exact T (by have := @cut_le B none (some (-1)); omega) ct
  · refine T (by simp; omega) fun e he => ?_
    rcases List.mem_append.mp he with z | z
    · exact tk e z
    · rcases List.mem_append.mp z with z | z
      · exact ct e (List.mem_reverse.mp z)
      · exact ct e z
  · exact T (by have := @cut_le B (some 1) none; omega) ct
  · exact T (by simp; omega) fun e he => atn e (List.mem_reverse.mp he)
  · exact pl (fun x => x + 1) fun x hx => by omega
  · exact pl (fun x => 2 * x) fun x hx => by omega
  · refine thing_other ((fit_ats atn).1.tuple.mono (by omega)) (by have := (fit_ats atn).2; simp only [PyData.depth]; omega) (fun xs e => by cases e)
  · exact thing_other (fit_none.mono (by decide)) (by simp [PyData.depth]) (fun xs e => by cases e)
  · exact thing_other ⟨by simp only [ShowB, ShowBKv], by simp [PyData.depth, PyData.depthKv], by simp [PyData.leavesShort, PyData.leavesShortKv], by simp [PyData.bulk, PyData.bulkKv]⟩ (by simp [PyData.depth, PyData.depthKv]) (fun xs e => by cases e)
  · exact thing_other ((fit_str (by decide +kernel)).mono (by decide +kernel)) (by simp [PyData.depth]) (fun xs e => by cases e)
  · exact thing_other ((fit_int (by omega)).mono (by decide)) (by simp [PyData.depth]) (fun xs e => by cases e)
  · obtain ⟨f, dd⟩ := fit_ints (ns := ns) b1
    rw [← hB] at f dd
    refine ⟨(FitAll.cons f.list (by simp only [PyData.depth]; omega) FitAll.nil).list.mono (by omega), by simp only [PyData.depth, PyData.depthAll]; omega, fun xs e => by cases e; simp, fun ms e => ?_⟩
    cases ms with
    | nil => cases e
    | cons m ms => cases e
end SC

set_option Elab.async false
set_option linter.all false
set_option maxRecDepth 100000
set_option pp.maxSteps 600
/-! K39e: what the law answers. -/
namespace K39
open PySem L2 VL SC
/-! ### sums over the bars -/
theorem sum_one {α : Type} [DecidableEq α] (x : α) (v : α → Int) : ∀ {B : List α}, B.Nodup → x ∈ B → (B.map fun b => if x = b then v b else 0).sum = v x
  | [], _, h => nomatch h
  | a :: B, hn, h => by
    rw [List.nodup_cons] at hn
    rw [List.map_cons, List.sum_cons]
    by_cases z : x = a
    · subst z
      have : (B.map fun b => if x = b then v b else 0) = B.map fun _ => 0 := List.map_congr_left fun b hb => if_neg fun z => hn.1 (by rw [z]; exact hb)
      rw [this, if_pos rfl]
      have z : ∀ B : List α, (B.map fun _ => (0 : Int)).sum = 0 := fun B => by induction B with
        | nil => rfl
        | cons b B ih => rw [List.map_cons, List.sum_cons, ih]; rfl
      rw [z]; omega
    · rw [if_neg z, sum_one x v hn.2 ((List.mem_cons.mp h).resolve_left z)]; omega
theorem sum_add {α : Type} (f g : α → Int) : ∀ B : List α, (B.map fun b => f b + g b).sum = (B.map f).sum + (B.map g).sum
  | [] => rfl
  | a :: B => by rw [List.map_cons, List.sum_cons, List.map_cons, List.sum_cons, List.map_cons, List.sum_cons, sum_add f g B]; omega
theorem bars_sum (f : Nat → Int) {B : List Nat} (hB : B.Nodup) : ∀ {T : List Nat}, (∀ x ∈ T, x ∈ B) → (B.map fun b => ((T.count b : Nat) : Int) * f b).sum = Sf f T
  | [], _ => by
    have : (B.map fun b => ((([] : List Nat).count b : Nat) : Int) * f b) = B.map fun _ => 0 := List.map_congr_left fun b _ => by simp
    rw [this]
    have z : ∀ B : List Nat, (B.map fun _ => (0 : Int)).sum = 0 := fun B => by induction B with
      | nil => rfl
      | cons b B ih => rw [List.map_cons, List.sum_cons, ih]; rfl
    rw [z]; rfl
  | x :: T, h => by
    have ih := bars_sum f hB (T := T) fun y hy => h y (List.mem_cons_of_mem _ hy)
    have e : (B.map fun b => (((x :: T).count b : Nat) : Int) * f b) = B.map fun b => ((T.count b : Nat) : Int) * f b + if x = b then f b else 0 := List.map_congr_left fun b _ => by
      rw [List.count_cons]
      by_cases z : x = b
      · subst z
        simp
        rw [Int.add_mul]
        omega
      · have : (x == b) = false := by simpa using z
        simp [this, z]
    rw [e, sum_add, ih, sum_one x f hB (h x List.mem_cons_self)]
    show Sf f T + f x = ((x :: T).map f).sum
    rw [List.map_cons, List.sum_cons]
    show Sf f T + f x = f x + Sf f T
    omega
theorem Sf_congr {f g : Nat → Int} : ∀ {T : List Nat}, (∀ x ∈ T, f x = g x) → Sf f T = Sf g T := fun {T} h => by
  unfold Sf
  rw [List.map_congr_left h]
theorem Sf_one (T : List Nat) : Sf (fun _ => 1) T = (T.length : Int) := by
  induction T with
  | nil => rfl
  | cons x T ih =>
    show ((x :: T).map _).sum = _
    rw [List.map_cons, List.sum_cons, List.length_cons]
    have : (List.map (fun _ => (1 : Int)) T).sum = (T.length : Int) := ih
    rw [this]; omega
theorem Sf_add (f g : Nat → Int) (T : List Nat) : Sf (fun i => f i + g i) T = Sf f T + Sf g T := sum_add f g T
abbrev Bs (l : List SC.It) : List Nat := idxF isBarI 0 l
theorem Bs_nodup (l : List SC.It) : (Bs l).Nodup := (idxF_sorted isBarI l 0).imp fun h => Nat.ne_of_lt h
theorem tk_bars {l : List SC.It} {t : Nat} : ∀ x ∈ (SC.TT l).take t, x ∈ Bs l := fun x hx => bars_mem.mpr (tp_bars _ x (List.mem_of_mem_take hx))
/-! ### dicts of weights -/
def dO (g : Str → Int) (ns : List Str) : List (D × D) := dmerge (ns.map fun n => ((.inr n : Key), PyData.int (g n))) []
theorem wd_merge (g : Str → Int) : ∀ (ns : List Str) (acc : List (D × D)), SC.WD acc → (∀ n ∈ ns, nameB n = true ∧ 0 ≤ g n ∧ g n ≤ 1000000000000) → SC.WD (dmerge (ns.map fun n => ((.inr n : Key), PyData.int (g n))) acc)
  | [], acc, h, _ => h
  | n :: ns, acc, h, hn => by
    obtain ⟨h1, h2, h3⟩ := hn n List.mem_cons_self
    exact wd_merge g ns (dput acc (.str n) (.int (g n))) (h.put h1 h2 h3) fun m hm => hn m (List.mem_cons_of_mem _ hm)
theorem dO_wd {g : Str → Int} {ns : List Str} (h : ∀ n ∈ ns, nameB n = true ∧ 0 ≤ g n ∧ g n ≤ 1000000000000) : SC.WD (dO g ns) := wd_merge g ns [] (fun p hp => nomatch hp) h
theorem dm_len : ∀ (kvs : List (Key × D)) (ps : List (D × D)), (dmerge kvs ps).length ≤ ps.length + kvs.length
  | [], ps => Nat.le_refl _
  | p :: r, ps => by
    have h1 := dm_len r (dput ps (kD p.1) p.2)
    have h2 := dput_len ps (kD p.1) p.2
    show (dmerge r (dput ps (kD p.1) p.2)).length ≤ _
    rw [List.length_cons]
    omega
theorem dO_len (g : Str → Int) (ns : List Str) : (dO g ns).length ≤ ns.length := by
  have := dm_len (ns.map fun n => ((.inr n : Key), PyData.int (g n))) []
  unfold dO
  simpa using this
theorem dO_get {g : Str → Int} {ns : List Str} {n : Str} (h : n ∈ ns) : gw (dO g ns) n = g n := by
  have := (dget_merge (fun k => match k with
    | .inr m => .int (g m)
    | .inl _ => .none) (ns.map fun n => ((.inr n : Key), PyData.int (g n))) [] (.inr n) fun p hp => by
      obtain ⟨m, _, rfl⟩ := List.mem_map.mp hp
      rfl).1 (by
      rw [List.map_map]
      exact List.mem_map.mpr ⟨n, h, rfl⟩)
  unfold gw
  have e : dget (dO g ns) (.str n) = some (.int (g n)) := this
  rw [e]
theorem wd_keys {ps : List (D × D)} (h : SC.WD ps) : ∃ ks : List Str, ps.map (·.1) = ks.map .str ∧ (∀ k ∈ ks, nameB k = true) := by
  induction ps with
  | nil => exact ⟨[], rfl, fun k hk => nomatch hk⟩
  | cons p ps ih =>
    obtain ⟨ks, e, hk⟩ := ih fun q hq => h q (List.mem_cons_of_mem _ hq)
    obtain ⟨nm, i, rfl, hn, _⟩ := h p List.mem_cons_self
    refine ⟨nm :: ks, by rw [List.map_cons, e]; rfl, fun k hk' => ?_⟩
    rcases List.mem_cons.mp hk' with rfl | z
    · exact hn
    · exact hk k z
theorem dO_key {g : Str → Int} {ns ks : List Str} (e : (dO g ns).map (·.1) = ks.map .str) {n : Str} (h : n ∈ ns) : n ∈ ks := by
  have := (dget_merge (fun k => match k with
    | .inr m => .int (g m)
    | .inl _ => .none) (ns.map fun n => ((.inr n : Key), PyData.int (g n))) [] (.inr n) fun p hp => by
      obtain ⟨m, _, rfl⟩ := List.mem_map.mp hp
      rfl).1 (by
      rw [List.map_map]
      exact List.mem_map.mpr ⟨n, h, rfl⟩)
  have e2 : dget (dO g ns) (.str n) = some (.int (g n)) := this
  unfold dget at e2
  cases c : (dO g ns).find? fun p => keyEq p.1 (.str n) with
  | none => rw [c] at e2; cases e2
  | some p =>
    have hm := List.mem_of_find?_eq_some c
    have hk := List.find?_some c
    have : p.1 ∈ (dO g ns).map (·.1) := List.mem_map.mpr ⟨p, hm, rfl⟩
    rw [e] at this
    obtain ⟨k, hk2, ek⟩ := List.mem_map.mp this
    rw [← ek] at hk
    simp [keyEq] at hk
    rw [← hk]; exact hk2
theorem gw_of {ps : List (D × D)} (h : SC.WD ps) (n : Str) : (dget ps (.str n)).getD (.int 0) = .int (gw ps n) := (h.getD n).1
/-! ### the weight before a time -/
/-- the bars' names -/
def nmB (l : List SC.It) : List Str := (Bs l).map fun b => (l[b]?.map nmI).getD ""
theorem nmB_at {l : List SC.It} {b : Nat} {m : Str} (e : l[b]? = some (.bar m)) : m ∈ nmB l := List.mem_map.mpr ⟨b, bars_mem.mpr ⟨m, e⟩, by rw [e]; rfl⟩
theorem nmB_ok {l : List SC.It} (h : ok [] l) : ∀ n ∈ nmB l, nameB n = true := fun n hn => by
  obtain ⟨b, hb, rfl⟩ := List.mem_map.mp hn
  obtain ⟨m, e⟩ := bars_mem.mp hb
  rw [e]
  exact ok_nmI h (List.mem_of_getElem? e)
theorem Sb_ones {l : List SC.It} {t : Nat} (ht : t ≤ tl l l.length) {ps : List (D × D)} (h : ∀ m ∈ nmB l, gw ps m = 1) : Sb (wtf ps l) l t = (t : Int) := by
  unfold Sb
  rw [Sf_congr (g := fun _ => 1) fun x hx => ?_, Sf_one, List.length_take]
  · have : (SC.TT l).length = tl l l.length := rfl
    omega
  · obtain ⟨m, e⟩ := bars_mem.mp (tk_bars x hx)
    rw [wtf_get e]
    exact h m (nmB_at e)
theorem Sb_more {l : List SC.It} {t : Nat} (ht : t ≤ tl l l.length) {ps qs : List (D × D)} (h : ∀ m ∈ nmB l, gw qs m = gw ps m + 1) : Sb (wtf qs l) l t = Sb (wtf ps l) l t + (t : Int) := by
  unfold Sb
  rw [Sf_congr (f := wtf qs l) (g := fun i => wtf ps l i + 1) fun x hx => ?_, Sf_add (wtf ps l) fun _ => 1, Sf_one, List.length_take]
  · have : (SC.TT l).length = tl l l.length := rfl
    omega
  · obtain ⟨m, e⟩ := bars_mem.mp (tk_bars x hx)
    rw [wtf_get e, wtf_get e]
    exact h m (nmB_at e)
theorem due_sum {l : List SC.It} (ps : List (D × D)) (t : Nat) : ((Bs l).map fun b => ((plays l b t : Nat) : Int) * wtf ps l b).sum = Sb (wtf ps l) l t := bars_sum (wtf ps l) (Bs_nodup l) tk_bars
theorem full_sum {l : List SC.It} (ps : List (D × D)) : ((Bs l).map fun b => (((SC.TT l).count b : Nat) : Int) * wtf ps l b).sum = SS1 (wtf ps l) l l.length :=
  bars_sum (wtf ps l) (Bs_nodup l) fun x hx => bars_mem.mpr (tp_bars _ x hx)
theorem plays_tl {l : List SC.It} {b t : Nat} : plays l b t ≤ tl l l.length := Nat.le_trans List.count_le_length (by rw [List.length_take]; exact Nat.min_le_right _ _)
theorem mul_w {l : List SC.It} (ho : ok [] l) (hl : l.length ≤ 60) {ps : List (D × D)} (hw : SC.WD ps) (m : Str) {n : Nat} (hn : n ≤ tl l l.length) : CMulW (n : Int) (gw ps m) := by
  have h1 := tl_lt ho l.length (Nat.le_refl _)
  have h2 : (2 : Nat) ^ (31 * l.length) ≤ 2 ^ 1900 := Nat.pow_le_pow_right (by decide) (by omega)
  have h3 := (hw.getD m).2
  exact wide_mul (a := 1900) (b := 41) (by generalize (2 : Nat) ^ 1900 = A at *; omega) (by omega) (by decide) (by decide) (by decide)
def fs_law_sums_right : FS := fun io ds Q _ => io = none ∧ ∃ (l : List SC.It) (ps : List (D × D)) (t : Nat), ds = [.list (sc l), .dict ps, .int (t : Int)] ∧ ok [] l ∧ l.length ≤ 60 ∧ SC.WD ps ∧ ps.length ≤ 400 ∧ t ≤ tl l l.length ∧ Q (.sh (.bool true)) none
def w_law_sums_right : WS := wSeq (wSet 3 (wCall fs_law_bars [] (wCons (wVar 0) (wNil)))) (wSeq (wSet 4 (wCB (o1 oSum) (wCons (wLc [7] (wiL (wVar 3)) (wgName 7) (wYes) (wOp oMul (wCall fs_plays_before [] (wCons (wVar 0) (wCons (wVar 7) (wCons (wVar 2) (wNil))))) (wDGet2 (wVar 1) (wOp oIx (wOp oIx (wVar 0) (wVar 7)) (wC (.int 1))) (wC (.int 0))))) (wNil)))) (wSeq (wSet 5 (wCB (o1 oDictP) (wCons (wLc [7] (wiL (wVar 3)) (wgName 7) (wYes) (wTup (wCons (wOp oIx (wOp oIx (wVar 0) (wVar 7)) (wC (.int 1))) (wCons (wC (.int 1)) (wNil))))) (wNil)))) (wSeq (wSet 6 (wCB (o1 oDictP) (wCons (wLcD 5 [8] (wgName 8) (wT (wOp (oIB fun i j => decide (i < j)) (wDGet2 (wVar 1) (wVar 8) (wC (.int 0))) (wOp (oII CPowW fun i j => i ^ j.toNat) (wC (.int 10)) (wC (.int 12))))) (wTup (wCons (wVar 8) (wCons (wOp oAdd (wDGet2 (wVar 1) (wVar 8) (wC (.int 0))) (wC (.int 1))) (wNil))))) (wNil)))) (wSeq (wIfS (wOr (wT (wOp oNe (wCall fs_weight_before [] (wCons (wVar 0) (wCons (wVar 1) (wCons (wVar 2) (wNil))))) (wVar 4))) (wT (wOp oNe (wCall fs_weight_before [] (wCons (wVar 0) (wCons (wVar 5) (wCons (wVar 2) (wNil))))) (wVar 2)))) (wRet (wC (.bool false))) (wNext)) (wRet (wOrV (wOp (oIB fun i j => decide (i < j)) (wCB (o1 oLen) (wCons (wVar 6) (wNil))) (wCB (o1 oLen) (wCons (wVar 5) (wNil)))) (wOp oEq (wCall fs_weight_before [] (wCons (wVar 0) (wCons (wVar 6) (wCons (wVar 2) (wNil))))) (wOp oAdd (wVar 4) (wVar 2)))))))))
theorem fv_law_sums_right : FnV fs_law_sums_right 9 w_law_sums_right := by
  rintro io ds Q X ⟨rfl, l, ps, t, rfl, ho, hl, hw, hp, ht, q⟩
  show w_law_sums_right [.sh (.list (sc l)), .sh (.dict ps), .sh (.int (t : Int)), .no, .no, .no, .no, .no, .no] _ _
  have p1 : CPowW 10 12 := pow10 12 (by decide) (by decide)
  have hBl : (Bs l).length ≤ l.length := idxF_length isBarI l 0
  simp [w_law_sums_right, ev_wLc, okW, wipeE]
  refine ⟨rfl, l, rfl, by omega, ?_⟩
  simp
  refine lcm_map (Bs l) (fun b : Nat => .int (b : Int)) (fun b => .int (((plays l b t : Nat) : Int) * wtf ps l b)) (by omega) (fun b acc k hb hz hk => ?_) ?_
  · obtain ⟨m, e⟩ := bars_mem.mp hb
    simp [lcT, wipeE]
    refine ⟨rfl, l, b, t, m, rfl, ho, by omega, e, ht, ?_⟩
    simp [ix_lnE (sc_get e), It.d, gw_of hw]
    refine ⟨mul_w ho hl hw m plays_tl, hz, ?_⟩
    rw [wtf_get e] at hk
    exact hk
  · simp [restE]
    refine ⟨(Bs l).map fun b => ((plays l b t : Nat) : Int) * wtf ps l b, by rw [List.map_map]; rfl, ?_⟩
    rw [due_sum]
    generalize hD : Sb (wtf ps l) l t = D0
    simp [ev_wLc, okW, wipeE]
    refine lcm_map (Bs l) (fun b : Nat => .int (b : Int)) (fun b => .tuple [.str ((l[b]?.map nmI).getD ""), .int 1]) (by omega) (fun b acc k hb hz hk => ?_) ?_
    · obtain ⟨m, e⟩ := bars_mem.mp hb
      simp [lcT, wipeE, ix_lnE (sc_get e), It.d]
      rw [e] at hk
      exact ⟨hz, hk⟩
    · simp [restE]
      refine ⟨(nmB l).map fun n => ((.inr n : Key), PyData.int 1), by unfold nmB; rw [List.map_map, List.map_map]; rfl, ?_⟩
      have hO : SC.WD (dO (fun _ => 1) (nmB l)) := dO_wd fun n hn => ⟨nmB_ok ho n hn, by decide, by decide⟩
      have hOl : (dO (fun _ => 1) (nmB l)).length ≤ l.length := Nat.le_trans (dO_len _ _) (by unfold nmB; rw [List.length_map]; exact hBl)
      have hOg : ∀ m ∈ nmB l, gw (dO (fun _ => 1) (nmB l)) m = 1 := fun m hm => dO_get hm
      obtain ⟨ks, hk1, hk2⟩ := wd_keys hO
      have hk3 : ∀ m ∈ nmB l, m ∈ ks := fun m hm => dO_key hk1 hm
      have eO : dmerge ((nmB l).map fun n => ((.inr n : Key), PyData.int 1)) [] = dO (fun _ => 1) (nmB l) := rfl
      rw [eO]
      have hkl : ks.length = (dO (fun _ => 1) (nmB l)).length := by
        have := congrArg List.length hk1
        simpa using this.symm
      generalize dO (fun _ => 1) (nmB l) = os at *
      simp [ev_wLcD, slLD, okW, wipeE]
      rw [hk1]
      refine lcm_filt ks (fun n => .str n) (fun n => .tuple [.str n, .int (gw ps n + 1)]) (fun n => decide (gw ps n < 1000000000000)) (by omega) (fun n acc k hn hz h1 h2 => ?_) ?_
      · simp [lcT, wipeE, gw_of hw, p1]
        by_cases z : gw ps n < 1000000000000
        · rw [if_pos z]
          exact ⟨hz, h1 (decide_eq_true z)⟩
        · rw [if_neg z]
          exact h2 (decide_eq_false z)
      · simp [restE]
        generalize hF : ks.filter (fun n => decide (gw ps n < 1000000000000)) = fs
        refine ⟨fs.map fun n => ((.inr n : Key), PyData.int (gw ps n + 1)), by rw [List.map_map]; rfl, ?_⟩
        have hfm : ∀ n ∈ fs, n ∈ ks ∧ gw ps n < 1000000000000 := fun n hn => by
          rw [← hF] at hn
          obtain ⟨a, b⟩ := List.mem_filter.mp hn
          exact ⟨a, of_decide_eq_true b⟩
        have hM : SC.WD (dO (fun n => gw ps n + 1) fs) := dO_wd fun n hn => ⟨hk2 n (hfm n hn).1, by have := (hw.getD n).2; omega, by have := (hfm n hn).2; omega⟩
        have hMl := dO_len (fun n => gw ps n + 1) fs
        have hfl : fs.length ≤ ks.length := by rw [← hF]; exact List.length_filter_le _ _
        have hMg : ∀ m ∈ fs, gw (dO (fun n => gw ps n + 1) fs) m = gw ps m + 1 := fun m hm => dO_get hm
        have hall : fs.length = ks.length → ∀ m ∈ nmB l, m ∈ fs := fun e m hm => by
          rw [← hF] at e ⊢
          rw [List.length_filter_eq_length_iff] at e
          exact List.mem_filter.mpr ⟨hk3 m hm, e m (hk3 m hm)⟩
        have eM : dmerge (fs.map fun n => ((.inr n : Key), PyData.int (gw ps n + 1))) [] = dO (fun n => gw ps n + 1) fs := rfl
        rw [eM]
        generalize dO (fun n => gw ps n + 1) fs = qs at *
        simp
        refine ⟨rfl, l, ps, t, rfl, ho, by omega, hw, by omega, ht, ?_⟩
        simp [hD, shaped_int, eqv_int]
        refine ⟨rfl, l, os, t, rfl, ho, by omega, hO, by omega, ht, ?_⟩
        rw [Sb_ones ht hOg]
        simp [shaped_int, eqv_int]
        by_cases z : qs.length < os.length
        · simp [z]
          exact q
        · simp [z]
          refine ⟨rfl, l, qs, t, rfl, ho, by omega, hM, by omega, ht, ?_⟩
          rw [Sb_more ht fun m hm => hMg m (hall (by omega) m hm), hD]
          simp [shaped_int, eqv_int]
          exact q
/-! ### amounts located -/
theorem loc_uniq {f : Nat → Int} {l : List SC.It} (hf : ∀ i, 0 ≤ f i) {a : Int} {t t' : Nat} {r r' : Int} (h : Loc f l a t r) (h' : Loc f l a t' r') : t = t' ∧ r = r' := by
  have key : ∀ {t t' : Nat} {r r' : Int}, Loc f l a t r → Loc f l a t' r' → ¬ t < t' := by
    intro t t' r r' h h' hlt
    obtain ⟨b, h1, h2, h3, h4⟩ := h
    obtain ⟨b', g1, g2, g3, g4⟩ := h'
    have e1 := Sb_succ (f := f) h1
    have e2 := Sb_mono (f := f) (L := l) hf (s := t + 1) (t := t') hlt
    omega
  have e : t = t' := by
    have a1 := key h h'
    have a2 := key h' h
    omega
  subst e
  obtain ⟨b, h1, h2, h3, h4⟩ := h
  obtain ⟨b', g1, g2, g3, g4⟩ := h'
  exact ⟨rfl, by omega⟩
def fs_law_back_right : FS := fun io ds Q _ => io = none ∧ ∃ (l : List SC.It) (ps : List (D × D)) (a : Int), ds = [.list (sc l), .dict ps, .int a] ∧ ok [] l ∧ l.length ≤ 60 ∧ SC.WD ps ∧ ps.length ≤ 400 ∧ 0 ≤ a ∧ a < SS1 (wtf ps l) l l.length ∧ Q (.sh (.bool true)) none
def w_law_back_right : WS := wSeq (wAsg (wCall fs_locate_weight [] (wCons (wVar 0) (wCons (wVar 1) (wCons (wVar 2) (wNil))))) (wgTup 2 (wgCons (wgName 3) (wgCons (wgName 4) (wgNil))))) (wSeq (wIfS (wOr (wT (wOp oNe (wOp oAdd (wCall fs_weight_before [] (wCons (wVar 0) (wCons (wVar 1) (wCons (wVar 3) (wNil))))) (wVar 4)) (wVar 2))) (wNot (wT (wChain (oIB fun i j => decide (i ≤ j)) (oIB fun i j => decide (i < j)) (wC (.int 0)) (wVar 4) (wDGet2 (wVar 1) (wCall fs_bar_at [] (wCons (wVar 0) (wCons (wVar 3) (wNil)))) (wC (.int 0))))))) (wRet (wC (.bool false))) (wNext)) (wRet (wOp oEq (wCall fs_locate_weight [] (wCons (wVar 0) (wCons (wVar 1) (wCons (wOp (oII (fun _ _ => True) (· - ·)) (wVar 2) (wVar 4)) (wNil))))) (wTup (wCons (wVar 3) (wCons (wC (.int 0)) (wNil)))))))
theorem fv_law_back_right : FnV fs_law_back_right 5 w_law_back_right := by
  rintro io ds Q X ⟨rfl, l, ps, a, rfl, ho, hl, hw, hp, a0, a1, q⟩
  show w_law_back_right [.sh (.list (sc l)), .sh (.dict ps), .sh (.int a), .no, .no] _ _
  have hf0 := fun i => (wtf_range hw l i).1
  simp [w_law_back_right]
  refine ⟨rfl, l, ps, a, rfl, ho, by omega, hw, by omega, a0, a1, fun t r hL => ?_⟩
  obtain ⟨b, h1, h2, h3, h4⟩ := id hL
  have ht := TT_lt h1
  obtain ⟨m, e⟩ := tp_bars _ b (List.mem_of_getElem? h1)
  have hm : wtf ps l b = gw ps m := wtf_get e
  have hs0 : 0 ≤ Sb (wtf ps l) l t := Sf_nonneg fun i _ => hf0 i
  simp
  refine ⟨rfl, l, ps, t, rfl, ho, by omega, hw, by omega, by omega, ?_⟩
  simp [h2, h3, shaped_int, eqv_int]
  refine ⟨rfl, l, t, b, m, rfl, ho, by omega, h1, e, ?_⟩
  have hr : r < gw ps m := by omega
  simp [gw_of hw, h3, hr]
  refine ⟨rfl, l, ps, a - r, rfl, ho, by omega, hw, by omega, by omega, by omega, fun t' r' hL' => ?_⟩
  have hL2 : Loc (wtf ps l) l (a - r) t 0 := ⟨b, h1, by omega, by omega, by omega⟩
  obtain ⟨rfl, rfl⟩ := loc_uniq hf0 hL' hL2
  have s1 : SeqAt.shaped (.tuple [.int (t' : Int), .int 0]) = true := by simp [SeqAt.shaped, PyData.canLay0, PyData.canLayAll0, PyData.depth, PyData.depthAll]
  simp [s1, PyData.eqv, PyData.eqvAll]
  exact q
/-! ### the law -/
def nmN : D → D → Bool
  | .str a, .str b => nameB ("none" ++ a ++ b)
  | _, _ => false
theorem nmN_ok : ((signsD "abcdefghijklmnopqrstuvwxyz").all fun x => (signsD "abcdefgh").all fun y => nmN x y) = true := by decide +kernel
theorem nmN_at {x y : D} (hx : x ∈ signsD "abcdefghijklmnopqrstuvwxyz") (hy : y ∈ signsD "abcdefgh") : ∃ a b : Str, x = .str a ∧ y = .str b ∧ nameB ("none" ++ a ++ b) = true := by
  have h := List.all_eq_true.mp (List.all_eq_true.mp nmN_ok x hx) y hy
  cases x with
  | str a =>
    cases y with
    | str b => exact ⟨a, b, rfl, rfl, h⟩
    | _ => cases h
  | _ => cases h
theorem lenA (a b : Str) : (a ++ b).length = a.length + b.length := PySem.Str.length_append a b
theorem sg_len : (signsD "abcdefghijklmnopqrstuvwxyz").length = 26 ∧ (signsD "abcdefgh").length = 8 := by decide +kernel
theorem big_tl {l : List SC.It} (h : ok [] l) (hl : l.length ≤ 60) : tl l l.length < 2 ^ 1900 := by
  have h1 := tl_lt h l.length (Nat.le_refl _)
  have h2 : (2 : Nat) ^ (31 * l.length) ≤ 2 ^ 1900 := Nat.pow_le_pow_right (by decide) (by omega)
  exact Nat.lt_of_lt_of_le h1 h2
theorem Sf_leB {f : Nat → Int} {B : Int} (h : ∀ i, f i ≤ B) : ∀ T : List Nat, Sf f T ≤ B * (T.length : Int)
  | [] => by simp [Sf]
  | x :: T => by
    have := Sf_leB h T
    have e : Sf f (x :: T) = f x + Sf f T := by show ((x :: T).map f).sum = _; rw [List.map_cons, List.sum_cons]
    have hx := h x
    rw [e, List.length_cons, Int.natCast_add, Int.mul_add]
    omega
def wL8 : WS := wFor (wiR1 (wCons (wIf (wT (wOp (oIB fun i j => decide (j < i)) (wVar 8) (wC (.int 0)))) (wC (.int 4)) (wC (.int 0))) (wNil))) (wgName 11) (wSeq (wSet 12 (wOp oIx (wLst (wCons (wC (.int 0)) (wCons (wOp (oII (fun _ _ => True) (· - ·)) (wVar 8) (wC (.int 1))) (wCons (wCallIo fs_law_draw 2 [] (wCons (wVar 8) (wNil))) (wCons (wCallIo fs_law_draw 2 [] (wCons (wVar 8) (wNil))) (wNil)))))) (wVar 11))) (wIfS (wNot (wT (wCall fs_law_back_right [] (wCons (wVar 3) (wCons (wVar 4) (wCons (wVar 12) (wNil))))))) (wRet (wC (.bool false))) (wNext)))
def wL7 : WS := wSeq (wFor (wiL (wLst (wCons (wC (.int 0)) (wCons (wVar 7) (wCons (wCallIo fs_law_draw 2 [] (wCons (wOp oAdd (wVar 7) (wC (.int 1))) (wNil))) (wCons (wCallIo fs_law_draw 2 [] (wCons (wOp oAdd (wVar 7) (wC (.int 1))) (wNil))) (wNil))))))) (wgName 10) (wIfS (wNot (wT (wCall fs_law_sums_right [] (wCons (wVar 3) (wCons (wVar 4) (wCons (wVar 10) (wNil))))))) (wRet (wC (.bool false))) (wNext))) wL8
def wL4 : WS := wSeq (wPar [7, 8] (wsCons (wCall fs_total_length [] (wCons (wVar 3) (wNil))) (wsCons (wCall fs_total_weight [] (wCons (wVar 3) (wCons (wVar 4) (wNil)))) (wsNil)))) (wSeq (wSet 9 (wLc [13] (wiL (wCall fs_law_bars [] (wCons (wVar 3) (wNil)))) (wgName 13) (wYes) (wOp oMul (wCall fs_play_count [] (wCons (wVar 3) (wCons (wVar 13) (wNil)))) (wDGet2 (wVar 4) (wOp oIx (wOp oIx (wVar 3) (wVar 13)) (wC (.int 1))) (wC (.int 0)))))) (wSeq (wIfS (wOr (wT (wOp oNe (wVar 8) (wCB (o1 oSum) (wCons (wVar 9) (wNil))))) (wT (wOp oNe (wCall fs_weight_before [] (wCons (wVar 3) (wCons (wVar 4) (wCons (wVar 7) (wNil))))) (wVar 8)))) (wRet (wC (.bool false))) (wNext)) wL7))
def w_law : WS := wSeq (wFor (wiR1 (wCons (wCB (o2 oMax) (wCons (wC (.int 1)) (wCons (wCB (o2 oMin) (wCons (wLenS 0) (wCons (wC (.int 4)) (wNil)))) (wNil)))) (wNil))) (wgName 1) (wSeq (wSet 2 (wCallIo fs_law_stream 0 [] (wCons (wVar 1) (wNil)))) (wSeq (wSet 3 (wCallIo fs_law_score 2 [] (wCons (wC (.int 60)) (wCons (wC (.int 0)) (wNil))))) (wSeq (wSet 4 (wCallIo fs_law_loads 2 [] (wCons (wVar 3) (wNil)))) (wSeq (wIfS (wT (wOp oEq (wVar 1) (wC (.int 1)))) (wFor (wiS (wC (.str "abcdefghijklmnopqrstuvwxyz"))) (wgName 5) (wFor (wiS (wC (.str "abcdefgh"))) (wgName 6) (wDPut 4 (wOp oAdd (wOp oAdd (wC (.str "none")) (wVar 5)) (wVar 6)) (wCallIo fs_law_draw 2 [] (wCons (wOp oAdd (wOp (oII CPowW fun i j => i ^ j.toNat) (wC (.int 10)) (wC (.int 12))) (wC (.int 1))) (wNil)))))) (wNext)) wL4))))) (wRet (wC (.bool true)))
section
variable {l : List SC.It} {ps : List (D × D)} {s0 s1' s5 s6 s7 s8 s9 s10 s11 s12 : Sl} {d : D} {n : Nat} {Dn : VL.WD} {X : XW} {F : Int} {T : Nat} {BD : D}
theorem big1 {T : Nat} (hB : T < 2 ^ 1900) : ((T : Int) + 1).natAbs < 2 ^ 9000 := by
  have e : ((T : Int) + 1).natAbs = T + 1 := by omega
  rw [e]
  have : (2 : Nat) ^ 1900 + 1 < 2 ^ 9000 := by decide +kernel
  generalize (2 : Nat) ^ 1900 = U at *
  generalize (2 : Nat) ^ 9000 = V at *
  omega
theorem bigF {T : Nat} {F : Int} (hB : T < 2 ^ 1900) (h0 : 0 ≤ F) (h1 : F ≤ 1000000000000 * (T : Int)) : F.natAbs < 2 ^ 9000 := by
  have h1 : F.natAbs ≤ 1000000000000 * T := by omega
  have h2 : 1000000000000 * (2 : Nat) ^ 1900 < 2 ^ 9000 := by decide +kernel
  generalize (2 : Nat) ^ 1900 = U at *
  generalize (2 : Nat) ^ 9000 = V at *
  omega
theorem L8 (hs : StrOk n d) (hn : n ≤ 8002) (hF : F.natAbs < 2 ^ 9000) (back : ∀ (a : Int) {Q : VL.R → Option Sl → Prop} {X : Exn → Option Sl → Prop}, 0 ≤ a → a < F → Q (.sh (.bool true)) none → fs_law_back_right none [.list (sc l), .dict ps, .int a] Q X)
    (q : ∀ r : List Sl, r.length = 11 → Dn.nx (s0 :: s1' :: r ++ [.no])) :
    wL8 [s0, s1', .ow d, .sh (.list (sc l)), .sh (.dict ps), s5, s6, .sh (.int (T : Int)), .sh (.int F), .ow BD, s10, s11, s12, .no] Dn X := by
  simp [wL8, ev_wFor]
  by_cases hF0 : 0 < F
  · simp [hF0]
    refine loop_inv (fun j Γ => ∃ (d : D) (a11 a12 : Sl), Γ = [s0, s1', .ow d, .sh (.list (sc l)), .sh (.dict ps), s5, s6, .sh (.int (T : Int)), .sh (.int F), .ow BD, s10, a11, a12, .no] ∧ StrOk (n + 2 * j) d) ⟨d, _, _, rfl, hs⟩ ?_ ?_
    · rintro j x Γ k hx ⟨d, a11, a12, rfl, hs⟩ hk
      have hj := (List.getElem?_eq_some_iff.mp hx).1
      simp [rangeD] at hj
      simp only [rangeD, List.getElem?_map] at hx
      rw [List.getElem?_range (by simpa using hj)] at hx
      cases (Option.some.inj hx)
      simp
      refine drwW hs (by omega) hF0 hF fun r d1 r0 r1 s1 => ?_
      simp
      refine drwW s1 (by omega) hF0 hF fun r' d2 r0' r1' s2 => ?_
      simp
      refine pick (by omega) (by simp; omega) fun v hv => ?_
      obtain ⟨a, rfl, a0, a1⟩ : ∃ a : Int, v = .int a ∧ 0 ≤ a ∧ a < F := by
        simp only [List.mem_cons, List.not_mem_nil, or_false] at hv
        rcases hv with rfl | rfl | rfl | rfl
        · exact ⟨0, rfl, by omega, hF0⟩
        · exact ⟨F - 1, rfl, by omega, by omega⟩
        · exact ⟨r, rfl, r0, r1⟩
        · exact ⟨r', rfl, r0', r1'⟩
      simp
      refine back a a0 a1 ?_
      simp
      exact hk _ ⟨d2, _, _, rfl, s2.mono (by omega)⟩
    · rintro Γ ⟨d, a11, a12, rfl, _⟩
      exact q [_, _, _, _, _, _, _, _, _, _, _] rfl
  · simp [hF0, rangeD, loopW]
    exact q [_, _, _, _, _, _, _, _, _, _, _] rfl
theorem L7 (hs : StrOk n d) (hn : n ≤ 8000) (hT : ((T : Int) + 1).natAbs < 2 ^ 9000) (sums : ∀ (t : Nat) {Q : VL.R → Option Sl → Prop} {X : Exn → Option Sl → Prop}, t ≤ T → Q (.sh (.bool true)) none → fs_law_sums_right none [.list (sc l), .dict ps, .int (t : Int)] Q X)
    (q : ∀ d' s10, StrOk (n + 2) d' → wL8 [s0, s1', .ow d', .sh (.list (sc l)), .sh (.dict ps), s5, s6, .sh (.int (T : Int)), .sh (.int F), .ow BD, s10, s11, s12, .no] Dn X) :
    wL7 [s0, s1', .ow d, .sh (.list (sc l)), .sh (.dict ps), s5, s6, .sh (.int (T : Int)), .sh (.int F), .ow BD, s10, s11, s12, .no] Dn X := by
  simp [wL7, ev_wFor]
  refine drwW hs (by omega) (by omega) hT fun r d1 r0 r1 s1 => ?_
  refine ⟨True.intro, ?_⟩
  dsimp only
  simp only [↓getS_s, ↓getS_0, ↓slVar_sh, slIs_ow, true_and]
  simp only [↓ev_rd_sh]
  simp only [↓ev_oAdd_i]
  simp only [↓ev_fr_sh]
  simp only [↓getS_s, ↓getS_0, ↓slIo_ow]
  refine drwW s1 (by omega) (by omega) hT fun r' d2 r0' r1' s2 => ?_
  simp
  refine loop_mem (fun Γ => ∃ a10, Γ = [s0, s1', .ow d2, .sh (.list (sc l)), .sh (.dict ps), s5, s6, .sh (.int (T : Int)), .sh (.int F), .ow BD, a10, s11, s12, .no]) ⟨_, rfl⟩ ?_ ?_
  · rintro x Γ k hx ⟨a10, rfl⟩ hk
    obtain ⟨t, rfl, ht⟩ : ∃ t : Nat, x = .int (t : Int) ∧ t ≤ T := by
      simp only [List.mem_cons, List.not_mem_nil, or_false] at hx
      rcases hx with rfl | rfl | rfl | rfl
      · exact ⟨0, rfl, Nat.zero_le _⟩
      · exact ⟨T, rfl, Nat.le_refl _⟩
      · exact ⟨r.toNat, by rw [Int.toNat_of_nonneg r0], by omega⟩
      · exact ⟨r'.toNat, by rw [Int.toNat_of_nonneg r0'], by omega⟩
    simp
    refine sums t ht ?_
    simp
    exact hk _ ⟨_, rfl⟩
  · rintro Γ ⟨a10, rfl⟩
    exact q _ _ s2
theorem L4 (hs : StrOk n d) (hn : n ≤ 8000) (ho : ok [] l) (hl : l.length ≤ 60) (hw : SC.WD ps) (hp : ps.length ≤ 400) (q : ∀ r : List Sl, r.length = 11 → Dn.nx (s0 :: s1' :: r ++ [.no])) :
    wL4 [s0, s1', .ow d, .sh (.list (sc l)), .ow (.dict ps), s5, s6, s7, s8, s9, s10, s11, s12, .no] Dn X := by
  have hB := big_tl ho hl
  have hBl : (Bs l).length ≤ l.length := idxF_length isBarI l 0
  have hfull : SS1 (wtf ps l) l l.length ≤ 1000000000000 * ((tl l l.length : Nat) : Int) := Sf_leB (fun i => (wtf_range hw l i).2) _
  have hf0 : 0 ≤ SS1 (wtf ps l) l l.length := Sf_nonneg fun i _ => (wtf_range hw l i).1
  simp [wL4]
  refine ⟨rfl, l, rfl, ho, by omega, ?_⟩
  rw [total_tl ho]
  simp
  refine ⟨rfl, l, ps, rfl, ho, by omega, hw, by omega, ?_⟩
  simp [ev_wLc, okW, wipeE]
  refine ⟨rfl, l, rfl, by omega, ?_⟩
  simp
  refine lcm_map (Bs l) (fun b : Nat => .int (b : Int)) (fun b => .int ((((SC.TT l).count b : Nat) : Int) * wtf ps l b)) (by omega) (fun b acc k hb hz hk => ?_) ?_
  · obtain ⟨m, e⟩ := bars_mem.mp hb
    simp [lcT, wipeE]
    refine ⟨rfl, l, b, m, rfl, ho, by omega, e, ?_⟩
    simp [ix_lnE (sc_get e), It.d, gw_of hw]
    refine ⟨mul_w ho hl hw m List.count_le_length, hz, ?_⟩
    rw [wtf_get e] at hk
    exact hk
  · simp [restE]
    refine ⟨(Bs l).map fun b => (((SC.TT l).count b : Nat) : Int) * wtf ps l b, by rw [List.map_map]; rfl, ?_⟩
    rw [full_sum]
    have hT := Sb_tl (f := wtf ps l) (L := l) (n := l.length) (Nat.le_refl _)
    generalize hF : SS1 (wtf ps l) l l.length = F at *
    simp [shaped_int, eqv_int]
    refine ⟨rfl, l, ps, tl l l.length, rfl, ho, by omega, hw, by omega, Nat.le_refl _, ?_⟩
    rw [hT]
    simp [shaped_int, eqv_int]
    refine L7 hs hn (big1 hB) (fun t Q X ht q => ⟨rfl, l, ps, t, rfl, ho, hl, hw, hp, ht, q⟩) fun d' s10 hs' => ?_
    exact L8 hs' (by omega) (bigF hB hf0 hfull) (fun a Q X a0 a1 q => ⟨rfl, l, ps, a, rfl, ho, hl, hw, hp, a0, by rw [hF]; exact a1, q⟩) q
end
theorem fv_law : FnV fsLaw 14 w_law := by
  rintro io ds Q X ⟨ns, hn, rfl, rfl, q⟩
  show w_law [.op 0 (.list (ns.map .int)), .no, .no, .no, .no, .no, .no, .no, .no, .no, .no, .no, .no, .no] _ _
  simp [w_law, ev_wFor]
  obtain ⟨m, hm, m1⟩ := rounds 4 (by decide) ns.length
  rw [hm]
  refine ⟨by omega, by omega, ?_⟩
  have p1 : CPowW 10 12 := pow10 12 (by decide) (by decide)
  obtain ⟨g1, g2⟩ := sg_len
  refine loop_inv (fun i Γ => ∃ r : List Sl, r.length = 12 ∧ Γ = .op 0 (.list (ns.map .int)) :: r ++ [.no]) ⟨[_, _, _, _, _, _, _, _, _, _, _, _], rfl, rfl⟩ ?_ ?_
  · rintro i x Γ k hx ⟨r, hr, rfl⟩ hk
    have hil := (List.getElem?_eq_some_iff.mp hx).1
    simp [rangeD] at hil
    simp only [rangeD, List.getElem?_map] at hx
    rw [List.getElem?_range (by omega)] at hx
    cases (Option.some.inj hx)
    match r, hr with
    | [a1, a2, a3, a4, a5, a6, a7, a8, a9, a10, a11, a12], _ =>
      have fin : ∀ r : List Sl, r.length = 11 → k (.op 0 (.list (ns.map .int)) :: .sh (.int (0 + (i : Int))) :: r ++ [.no]) := fun r hr => hk _ ⟨_ :: r, by simp [hr], rfl⟩
      simp
      refine ⟨ns, (0 + (i : Int)), rfl, by simp, by omega, by omega, fun d hs => ?_⟩
      simp
      refine ⟨0, d, 60, rfl, hs, by omega, rfl, by decide, by decide, fun l d' ho hl hs' => ?_⟩
      simp
      refine ⟨_, d', l, rfl, hs', by omega, rfl, ho, by omega, fun ps d2 hw hps hs2 => ?_⟩
      have e1 : ((i : Int) = 1) = (i = 1) := propext (by omega)
      simp [shaped_int, eqv_int, e1]
      by_cases z : i = 1
      · rw [if_pos z]
        refine loop_inv (fun j Γ => ∃ (d : D) (qs : List (D × D)) (a5 a6 : Sl), Γ = [.op 0 (.list (ns.map .int)), .sh (.int (i : Int)), .ow d, .sh (.list (sc l)), .ow (.dict qs), a5, a6, a7, a8, a9, a10, a11, a12, .no] ∧ SC.WD qs ∧ qs.length ≤ 62 + 8 * j ∧ StrOk (5000 + 8 * j) d) ⟨d2, ps, _, _, rfl, hw, by omega, hs2⟩ ?_ ?_
        · rintro j x Γ k2 hx ⟨d, qs, b5, b6, rfl, hw, hql, hs⟩ hk2
          have hj := (List.getElem?_eq_some_iff.mp hx).1
          rw [g1] at hj
          have hx := List.mem_of_getElem? hx
          simp [ev_wFor]
          refine loop_inv (fun j2 Γ => ∃ (d : D) (qs : List (D × D)) (a6 : Sl), Γ = [.op 0 (.list (ns.map .int)), .sh (.int (i : Int)), .ow d, .sh (.list (sc l)), .ow (.dict qs), .sh x, a6, a7, a8, a9, a10, a11, a12, .no] ∧ SC.WD qs ∧ qs.length ≤ 62 + 8 * j + j2 ∧ StrOk (5000 + 8 * j + j2) d) ⟨d, qs, _, rfl, hw, by omega, hs⟩ ?_ ?_
          · rintro j2 y Γ k3 hy ⟨d, qs, b6, rfl, hw, hql, hs⟩ hk3
            have hj2 := (List.getElem?_eq_some_iff.mp hy).1
            rw [g2] at hj2
            obtain ⟨a, b, rfl, rfl, hab⟩ := nmN_at hx (List.mem_of_getElem? hy)
            simp [p1]
            refine drw hs (by omega) (by decide) (by decide) fun r d1 r0 r1 s1 => ?_
            simp
            have hlen : ((Str.ofString "none" ++ a) ++ b).length ≤ 8 := by
              have h := hab
              unfold nameB at h
              simp only [Bool.and_eq_true, decide_eq_true_eq] at h
              exact h.1.2
            rw [lenA, lenA] at hlen
            have hsz : (8 : Nat) ≤ sizeLine := by rw [sizeLine_eq]; decide
            refine ⟨by omega, by rw [lenA]; omega, small (by omega), ?_⟩
            exact hk3 _ ⟨d1, _, _, rfl, hw.put hab r0 (by omega), Nat.le_trans (dput_len _ _ _) (by omega), s1⟩
          · rintro Γ ⟨d, qs, b6, rfl, hw, hql, hs⟩
            rw [g2] at hql hs
            exact hk2 _ ⟨d, qs, _, _, rfl, hw, by omega, hs.mono (by omega)⟩
        · rintro Γ ⟨d, qs, b5, b6, rfl, hw, hql, hs⟩
          rw [g1] at hql hs
          exact L4 hs (by omega) ho (by omega) hw (by omega) fun r hr => hk _ ⟨_ :: r, by simp [hr], rfl⟩
      · rw [if_neg z]
        exact L4 hs2 (by omega) ho (by omega) hw (by omega) fun r hr => hk _ ⟨_ :: r, by simp [hr], rfl⟩
  · rintro Γ ⟨r, hr, rfl⟩
    match r, hr with
    | [a1, a2, a3, a4, a5, a6, a7, a8, a9, a10, a11, a12], _ =>
      simp
      exact q _ rfl
end K39

set_option Elab.async false
set_option linter.all false
set_option maxRecDepth 100000
set_option maxHeartbeats 1000000
/-! VRun0: what the run of the top asks; the run in three equations, each checked by itself: it wants less memory. -/
namespace VL
open PySem PySem.Spec PyProof.Rows L2
def clsBody : Stmt → List Stmt
  | .ClassDef _ _ _ b .. => b
  | _ => []
def oxB (K : PySem.W.Frag) (C : Addr) : Bool := match K.lookup C with
  | some ⟨.type "type", _, .cls cd, sl⟩ => (match cd.mro, sl.toList with
    | .ref C' :: bm, [_, _, _, _, some (.builtin n), _] => C' == C && n == "ValueError.__new__" && !cd.hasDel && cd.hasDict && PySem.HandSPX.refsVE bm
    | _, _ => false)
  | _ => false
def oiB (K : PySem.W.Frag) (nm : Str) : Bool := ((oxB K (He.ga K nm) && He.eqO (PySem.W.findIn K (.ref (He.ga K nm)) "__setattr__") (some (some (.builtin "object.__setattr__")))) && (decide (PySem.W.subIn K (.ref (He.ga K nm)) (.type "BaseException") = some true) && decide (PySem.W.typeIn K (.ref (He.ga K nm)) = some (.type "type")))) &&
  ((PySem.W.keepIn K (.ref (He.ga K nm)) && He.eqO (PySem.W.findIn K (.ref (He.ga K nm)) "index") (some none)) && (He.eqO (PySem.W.findIn K (.ref (He.ga K nm)) "__init__") (some (some (.ref (He.fAd K (nm, some "__init__"))))) && decide (PySem.W.typeIn K (.ref (He.fAd K (nm, some "__init__"))) = some (.type "function")))) &&
  ((decide (PySem.W.exmOne K (.ref (He.ga K nm)) (.ref (He.ga K nm)) = some true) && He.eqO (PySem.W.findIn K (.ref (He.ga K nm)) "__getattribute__") (some (some (.builtin "BaseException.__getattribute__")))) && (He.eqO (PySem.W.findIn K (.ref (He.ga K nm)) "__getattr__") (some none) && PySem.W.hasDictIn K (He.ga K nm)))
def excCB (K : PySem.W.Frag) (D : Addr) : Bool := (He.eqO (PySem.W.findIn K (.ref D) "__getattribute__") (some (some (.builtin "BaseException.__getattribute__"))) && He.eqO (PySem.W.findIn K (.ref D) "__getattr__") (some none)) &&
  ((decide (PySem.W.subIn K (.ref D) (.type "BaseException") = some true) && PySem.W.hasDictIn K D) && (He.eqO (PySem.W.findIn K (.ref D) "__class__") (some (some (.builtin "object.__class__"))) &&
  ((He.eqO (PySem.W.specialIn K (.builtin "object.__class__") "__get__") (some (some (.builtin "getset_descriptor.__get__"))) && decide (PySem.W.takesIn K (.builtin "object.__class__") = some true)) && decide (PySem.W.mroIn K D (.type "object") = some true))))
def exB (K : PySem.W.Frag) (xs ys : List Str) : Bool := xs.all fun x => (excCB K (He.ga K x) && decide (PySem.W.kitOne K (.ref (He.ga K x)) (.type "ValueError") = some true)) && (decide (PySem.W.exmOne K (.ref (He.ga K x)) (.ref (He.ga K "ScoreError")) = some true) &&
  ys.all fun y => decide (PySem.W.kitOne K (.ref (He.ga K x)) (.ref (He.ga K y)) = some (decide (x = y))))
def pairOf (e : DictEntry) : Option (Str × Str) := match e.key, e.val with
  | .str x _, .str y _ => some (x, y)
  | _, _ => none
def tabB (K : PySem.W.Frag) (a : Addr) (tb : List (Str × Str)) : Bool := match K.lookup a with
  | some ⟨_, _, .dict es _, _⟩ => decide (es.toList.map pairOf = tb.map some)
  | _ => false
def obsE (n : Nat) (fa : List He.Fa) (fn : List He.DefD) (ex : PySem.W.Frag → Bool) (g : Addr → Option Obj) : Bool × He.AlD := (ex (He.frG g (He.asD g n)), He.obsD fa fn (He.frG g (He.asD g n)))
def hookE (n : Nat) (fa : List He.Fa) (fn : List He.DefD) (ex : PySem.W.Frag → Bool) : PySem.W.Hook where
  α := Bool × He.AlD
  obs := fun s => obsE n fa fn ex s.heap.get?
  val := fun _ => (true, He.valD fn)
  says := fun _ h => ∃ K : PySem.W.Frag, K.In h ∧ ex K = true ∧ He.SaysD fa fn K
  of := fun _ _ e => ⟨_, He.frG_in, congrArg Prod.fst e, congrArg Prod.snd e⟩
  keeps := fun _ _ _ ⟨K, hK, c⟩ k => ⟨K, PySem.W.Frag.In.keeps hK k, c⟩
theorem obsE_eq {n : Nat} {fa : List He.Fa} {fn : List He.DefD} {ex : PySem.W.Frag → Bool} {g : Addr → Option Obj} {s : Shared} (h : ∀ a, g a = s.heap.get? a) : obsE n fa fn ex g = (hookE n fa fn ex).obs s := by
  rw [show g = s.heap.get? from funext h] <;> rfl
def obsET (n : Nat) (fa : List He.Fa) (fn : List He.DefD) (ts : List He.Tab) (ex : PySem.W.Frag → Bool) (g : Addr → Option Obj) : Bool × He.AlT := (ex (He.frG g (He.asD g n)), He.obsT fa fn ts (He.frG g (He.asD g n)))
def hookET (n : Nat) (fa : List He.Fa) (fn : List He.DefD) (ts : List He.Tab) (ex : PySem.W.Frag → Bool) : PySem.W.Hook where
  α := Bool × He.AlT
  obs := fun s => obsET n fa fn ts ex s.heap.get?
  val := fun w => (true, He.valT fn ts w)
  says := fun w h => ∃ K : PySem.W.Frag, K.In h ∧ ex K = true ∧ He.SaysT fa fn ts w K
  of := fun _ _ e => ⟨_, He.frG_in, congrArg Prod.fst e, congrArg Prod.snd e⟩
  keeps := fun _ _ _ ⟨K, hK, c⟩ k => ⟨K, PySem.W.Frag.In.keeps hK k, c⟩
theorem obsET_eq {n : Nat} {fa : List He.Fa} {fn : List He.DefD} {ts : List He.Tab} {ex : PySem.W.Frag → Bool} {g : Addr → Option Obj} {s : Shared} (h : ∀ a, g a = s.heap.get? a) : obsET n fa fn ts ex g = (hookET n fa fn ts ex).obs s := by
  rw [show g = s.heap.get? from funext h] <;> rfl
def sigTb : List (Str × Str) := [("drop", "N"), ("show", "N"), ("length", "N"), ("plays", "NI"), ("before", "NII"), ("next", "NII"), ("bar", "NI"), ("state", "NI"), ("play", "NII"), ("visits", "N"), ("normal", "N"), ("compare", "NN")]
def setF (w : World) (b : Bool) : World := { w with params := { w.params with followText := fun r => bif r == "special-get-raises" then b else w.params.followText r } }
theorem setF_eq (w : World) : setF w (w.params.followText "special-get-raises") = w := by
  obtain ⟨d, p⟩ := w
  obtain ⟨a1, a2, a3, a4, a5, ft, a7, a8, a9, a10, a11, a12, a13, a14⟩ := p
  simp only [setF, World.mk.injEq, Params.mk.injEq, and_true, true_and]
  funext r
  by_cases h : r = "special-get-raises"
  · subst h; simp
  · have : (r == "special-get-raises") = false := by simpa using h
    rw [this]; rfl
theorem setF_run {P : World → Prop} (h1 : ∀ w, P (setF w true)) (h2 : ∀ w, P (setF w false)) (w : World) : P w := by
  rw [← setF_eq w]
  cases w.params.followText "special-get-raises"
  · exact h2 w
  · exact h1 w
end VL
namespace VL
open PySem PySem.W PySem.Calls PyProof.Rows HandSHeadRun
def Run1 (r : OpenRow) (M : Nat) (w : World) : Prop := ∀ os : OsState, (endF (stepQ (denQ tabQ) r.prog w) M r.prog w os).map (fun s => looksF r.prog (boot_heap w.params) s.abs) = some true
def Run2 (r : OpenRow) (q : Program) (M : Nat) (loose : List PySem.Str) (w : World) : Prop := ∀ os : OsState, (endF (stepQ (denQ tabQ) r.prog w) M r.prog w os).map (fun s => seenQ q loose (importedModules r.prog.main.body) (fun s => xlAt q [] s && recOk r.toRowW.records s) s.abs) = some (openGood q loose)
def Run3 (r : OpenRow) (H : Hook) (ob : SharedT → H.α) (M : Nat) (w : World) : Prop := ∀ os : OsState, (endF (stepQ (denQ tabQ) r.prog w) M r.prog w os).map ob = some (H.val w)
theorem run_of {r : OpenRow} {q : Program} {H : Hook} {ob : SharedT → H.α} {M : Nat} {loose : List PySem.Str} {w : World} (h1 : Run1 r M w) (h2 : Run2 r q M loose w) (h3 : Run3 r H ob M w) : RunEq r q H ob M loose w := fun os => by
  have a1 := h1 os
  have a2 := h2 os
  have a3 := h3 os
  generalize endF (stepQ (denQ tabQ) r.prog w) M r.prog w os = o at *
  cases o with
  | none => cases a1
  | some s =>
    injection a1 with a1
    injection a2 with a2
    injection a3 with a3
    exact congrArg some (Prod.ext a1 (Prod.ext a2 a3))
end VL

set_option Elab.async false
set_option linter.all false
set_option maxRecDepth 100000
/-! VExc: raise of a class of the text that descends from ValueError without an __init__ of its own. -/
namespace VL
open PySem L2

theorem takes0N {X : Cx} : L2N.Takes X (fun _ _ _ _ => False) := fun _ _ x => by
  obtain ⟨_, _, _, _, _, _, _, _, _, _, _, _, _, _, _, _, z⟩ := x
  exact z.elim
/-- what is known of such a class, named nm -/
structure ExF (K : Fg) (mg : Str → Option Value) (ca : Str → Addr) (nm : Str) : Prop where
  g : mg nm = some (.ref (ca nm))
  e : PySem.W.excIn K (ca nm) He.veBase "ValueError.__new__" = true
  k : PySem.W.keepIn K (.ref (ca nm)) = true
  s : PySem.W.subIn K (.ref (ca nm)) (.type "BaseException") = some true
  t : PySem.W.typeIn K (.ref (ca nm)) = some (.type "type")
theorem ExF.of {K : Fg} {h : Heap} {mg : Str → Option Value} {nm : Str} (X : K.In h) (G : h.Ns mainGlobals mg) (c1 : (He.Fa.glo nm).ok K = true) (c2 : (He.Fa.exc nm).ok K = true) : ExF K mg (He.ga K) nm :=
  let ⟨a, b, c, d⟩ := He.exc_ok c2
  ⟨He.glo_ok X G c1, a, b, c, d⟩
def wRaise (nm : Str) : WS := fun Γ _ X => X ⟨nm, none⟩ Γ
section
variable {X : Cx} {G : Gb} {W : WX} {nm m : Str} {j : Nat} {p p2 pos pos' : Pos}
theorem ds_raise (hK : X.K = G.K) (hc : X.calm = true) (tk : L2N.Takes X W) (x : ExF G.K X.mg G.ca nm) (hg : Gl X nm := by rfl) (hdb : (nm == ("__debug__" : Str)) = false := by decide) :
    DS X G W (.Raise (some (.Call (.Name nm p) [.Constant (.str m) j p2] [] pos')) none pos) (fun _ σ H => W (.ref (G.ca nm)) none σ H) (wRaise nm) := by
  refine ⟨L2N.ps_raise hc tk (L2N.pmk_own PySem.F.excBase_ValueError (by rw [hK]; exact x.e) x.g (by rw [hK]; exact x.k) (raises_own (by rw [hK]; exact x.s) (by rw [hK]; exact x.t)) hg hdb), ?_⟩
  intro C Hi σ H Γ Dn Dd Xd c hw h1 h2 h3 h4 h5
  exact h5 ⟨nm, none⟩ _ none σ H Hi Γ (Ext.refl _) c ⟨rfl, rfl⟩ hw
end
end VL

set_option Elab.async false
set_option linter.all false
set_option maxRecDepth 100000
/-! VTry: try: .. except X as n: .. where the caught exception may be kept; isinstance of a kept exception. -/
namespace VL
open PySem PySem.Spec PyProof.Rows L2

/-- an object that came up after the entry, tracked from now on -/
theorem inv_track {X : Cx} {pins : List (Addr × Obj)} {σ : St} {H : Hp} {s : Shared} {a : Addr} {o : HO} (I : Inv X pins σ H s) (z : X.s_0.heap.get? a = none) (na : H a = none) (nl : a ≠ X.env.locals)
    (nc : ∀ y b, X.env.cells.lookup y = some b → b ≠ a) (np : ∀ q ∈ X.pn ++ pins, q.1 ≠ a) (new : ObjOk X.prog X.w (upd H a o) s.heap a o) : Inv X pins σ (upd H a o) s where
  ok := I.ok
  os := I.os
  bare := I.bare
  base := {
    keep := I.base.keep
    slot := I.base.slot
    free := fun b u e n hx => by
      rw [upd_ne (fun q => by rw [q, z] at e; cases e)]
      exact I.base.free b u e n hx
    there := I.base.there
    tups := fun b xs e => by
      have e1 := I.base.tups b xs e
      rw [upd_ne (ne_of_none e1 na)]; exact e1
    frzs := fun b u v e => by
      have e1 := I.base.frzs b u v e
      rw [upd_ne (ne_of_none e1 na)]; exact e1
    tbls := fun b ps e => by
      obtain ⟨m, e1⟩ := I.base.tbls b ps e
      exact ⟨m, by rw [upd_ne (ne_of_none e1 na)]; exact e1⟩ }
  loc := I.loc
  cell := I.cell
  free := by rw [upd_ne (Ne.symm nl)]; exact I.free
  freeC := fun y b e => by rw [upd_ne (nc y b e)]; exact I.freeC y b e
  pin := fun q hq => by
    obtain ⟨p1, p2, p3⟩ := I.pin q hq
    exact ⟨p1, by rw [upd_ne (np q hq)]; exact p2, p3⟩
  hok := I.hok.laidN (fun _ _ e => e) na new
  len := I.len

/-- the ends behind a suite: the slot of the exception's name is empty -/
def endsK (i : Nat) (D : Ends) : Ends where
  nx := fun σ H => D.nx (σ.set i none) H
  rt := D.rt
  bk := fun σ H => D.bk (σ.set i none) H
  ct := fun σ H => D.ct (σ.set i none) H
/-- what is wished of an exception of the body: it is caught -/
def wKp (K : Fg) (c : Value) (i : Nat) (ts : Addr → TS) (D : Ends) : WX := fun cls d σ H =>
  PySem.W.exmOne K cls c = some true ∧ ∀ a, H a = none → ts a (endsK i D) (σ.set i (some (.ref a))) (upd H a (KpD cls d a))
section
variable {X : Cx} {y n : Str} {c : Value} {i : Nat} {blk su : List Stmt} {s1 : Stmt} {q1 q2 q3 : Pos} {tb : WX → TS} {ts : Addr → TS}
theorem ps_try_keep (hst : X.stack = X.env :: X.outer) (hfr : X.env.frame = some X.env.locals) (nd : X.N.Nodup) (hn : X.N[i]? = some n) (hl : X.env.kindOf n = some .local) (hc : Names X y c) (hex : X.ex = [])
    (hb : ∀ (W : WX) (ps : List (Addr × Obj)) (xw : Value → Shared → Prop), L2N.Takes (X.tr ps xw) W → PSs (X.tr ps xw) blk (tb W))
    (hu : ∀ (a : Addr) (ps : List (Addr × Obj)), PSs (X.suite a ps) (s1 :: su) (ts a)) :
    PS X (.Try blk [.ExceptHandler (some (.Name y q1)) (some n) (s1 :: su) q2] [] [] q3) (fun D σ H => tb (wKp X.K c i ts D) D σ H) := by
  constructor
  intro pins s σ H D I h
  have okX := I.ok
  have frm : X.A.frames = some (X.env :: X.outer) := by rw [okX.frames, hst]
  refine wpAny_Try_except ?_
  let back : Value → Shared → Prop := fun e t1 => wpAny (model X.prog X.w) X.A (noteFrame e X.env) (fun _ t2 => wpAny (model X.prog X.w) X.A (setFlight e none)
    (fun _ t3 => wpAny (model X.prog X.w) X.A (handleBy e X.env [.ExceptHandler (some (.Name y q1)) (some n) (s1 :: su) q2]) (SP X pins D) X.xe t3) X.xe t2) X.xe t1
  have caught : L2N.Takes (X.tr (X.pn ++ pins) back) (wKp X.K c i ts D) := by
    rintro u t ⟨a, B, sI, pins1, σ1, H1, cls, d, rfl, J0, inB, upS, sk, na, hos, hag, hm, yes⟩
    have J : Inv X pins σ1 H1 sI := J0.ofTry okX
    have sk1 : Sky B (X.env :: X.outer) a (L2N.Zn cls d) X.env.locals t.heap := by
      rw [← hst]; exact sk
    show wpAny (model X.prog X.w) X.A (noteFrame (.ref a) X.env) _ _ _
    refine L2N.Sky.land L2N.Zn.steady frm hfr sk1 fun g3 f3 u3 => ?_
    have J3 := J.landed (s' := { t with heap := g3 }) inB f3.1 (upS.trans u3) hos hag
    obtain ⟨o3, v3, e3, z3, d3⟩ := f3.there
    -- the exception is no frame
    have out : a ∉ frs (X.env :: X.outer) := fun hm => by
      obtain ⟨_, o4, e4, no⟩ := f3.2.2.1.mem hm
      rw [e3] at e4
      cases e4
      exact no _ d3
    have nl : a ≠ X.env.locals := fun e => out (List.mem_filterMap.mpr ⟨X.env, List.mem_cons_self, by rw [hfr, e]⟩)
    have nf : a ∉ X.fs := fun hm => by
      obtain ⟨e, he, e'⟩ := List.mem_filterMap.mp hm
      exact out (List.mem_filterMap.mpr ⟨e, List.mem_cons_of_mem _ he, e'⟩)
    -- .. and came up in the body
    have newI : sI.heap.get? a = none := by
      cases e : sI.heap.get? a with
      | none => rfl
      | some o =>
        have z := inB a o e (by rw [show (X.tr (X.pn ++ pins) back).stack = X.stack from rfl, hst]; exact out)
        rw [f3.2.1] at z
        cases z
    have new0 : X.s_0.heap.get? a = none := by
      cases e : X.s_0.heap.get? a with
      | none => rfl
      | some o =>
        obtain ⟨o', z⟩ := J.base.there a o e (by rw [hex]; exact fun z => nomatch z)
        rw [newI] at z
        cases z
    have nc : ∀ w b, X.env.cells.lookup w = some b → b ≠ a := fun w b e z => by
      obtain ⟨v, o, z1, _⟩ := J.cell w b e
      rw [z, newI] at z1
      cases z1
    have np : ∀ q ∈ X.pn ++ pins, q.1 ≠ a := fun q hq z => by
      have z1 := (J.pin q hq).1
      rw [z, newI] at z1
      cases z1
    have S3 := J3.suite e3 d3 na nl nf
    refine wpAny_handleBy_cons (codeAny_handlers_test ?_) (fun q => nomatch q)
    have tyA : PySem.W.Looks (model X.prog X.w) g3 (typeOf (.ref a)) cls := fun _ _ _ _ k q => wpAny_typeOf_ref (k _ _ e3) (by rw [z3.1]; exact q)
    have fits := PySem.W.exm_one (M := model X.prog X.w) J3.kIn tyA hm
    have named : ∀ {Q E : Value → Shared → Prop}, Q c { t with heap := g3 } → wpAny (model X.prog X.w) (X.A.mark (some (.ref a))) (eval (.Name y q1) X.env) Q E { t with heap := g3 } := fun q => by
      obtain ⟨gl, nb, m | ⟨m, bb, nn⟩⟩ := hc
      · exact ld_glob (X := X.suite a ((a, o3) :: (X.pn ++ pins))) S3 gl m q nb
      · exact ld_blt (X := X.suite a ((a, o3) :: (X.pn ++ pins))) S3 gl m bb q nn nb
    refine named (fits.here (codeAny_handlers_suite_as (HandSPX.lands_againZ f3 fun g4 f4 u4 => ?_)))
    have J4 := J.landed (s' := { t with heap := g4 }) inB f4.1 ((upS.trans u3).trans u4) hos hag
    obtain ⟨o4, v4, e4, z4, d4⟩ := f4.there
    have T4 := inv_track (o := KpD cls d a) J4 new0 na nl nc np (kpD_ok e4 z4 d4)
    have S4 : Inv (X.suite a (X.pn ++ pins)) [] σ1 (upd H1 a (KpD cls d a)) { t with heap := g4 } :=
      ⟨okX.suite _ _, T4.os, T4.bare, T4.base, T4.loc, T4.cell, T4.free, T4.freeC, fun p hp => T4.pin p (by rw [List.append_nil] at hp; exact hp), T4.hok, T4.len⟩
    refine store_ok (X := X.suite a (X.pn ++ pins)) (v := .ref a) S4 nd hn (.inl hl) rfl (fun s5 S5 => ?_) (.inr hl)
    refine wpAny_mono ((hu a (X.pn ++ pins)).run [] s5 _ _ _ S5 (yes a na)) (fun f s6 r => ?_) (fun _ _ z => False.elim z)
    have gone : ∀ {σ6 : St} {H6 : Hp} {Q : Shared → Prop}, Inv (X.suite a (X.pn ++ pins)) [] σ6 H6 s6 → (∀ s7, Inv X pins (σ6.set i none) H6 s7 → Q s7) →
        wpAny (model X.prog X.w) X.A (do bindName X.env n .none; unbindBehindTheSuite X.env n q2) (fun _ s7 => Q s7) X.xe s6 := fun S6 k =>
      gone_ok ⟨okX, S6.os, S6.bare, S6.base, S6.loc, S6.cell, S6.free, S6.freeC, fun p hp => S6.pin p (List.mem_append_left _ hp), S6.hok, S6.len⟩ nd hn hl k
    cases f with
    | next => obtain ⟨_, _, S6, r⟩ := r; exact gone S6 fun _ J7 => ⟨_, _, J7, r⟩
    | brk => obtain ⟨_, _, S6, r⟩ := r; exact gone S6 fun _ J7 => ⟨_, _, J7, r⟩
    | cont => obtain ⟨_, _, S6, r⟩ := r; exact gone S6 fun _ J7 => ⟨_, _, J7, r⟩
    | ret u => obtain ⟨_, _, _, S6, rv, r⟩ := r; exact gone S6 fun _ J7 => ⟨_, _, _, J7, rv, r⟩
  refine wpAny_mono ((hb _ _ _ caught).run [] s σ H D (I.toTry _) h) (fun f s1 r => ?_) (fun _ _ z => z)
  cases f with
  | next => obtain ⟨_, _, J, r⟩ := r; exact wpAny_execs_nil ⟨_, _, J.ofTry okX, r⟩
  | brk => obtain ⟨_, _, J, r⟩ := r; exact ⟨_, _, J.ofTry okX, r⟩
  | cont => obtain ⟨_, _, J, r⟩ := r; exact ⟨_, _, J.ofTry okX, r⟩
  | ret u => obtain ⟨_, _, _, J, rv, r⟩ := r; exact ⟨_, _, _, J.ofTry okX, rv, r⟩
end
end VL

set_option Elab.async false
set_option linter.all false
set_option maxRecDepth 100000
/-! VTry2: exceptions that are kept, over data: try, isinstance, moving the name. -/
namespace VL
open PySem PySem.Spec PyProof.Rows L2

/-! ### isinstance of a kept exception -/
section
open PySem.W PySem.Calls
variable {prog : Program} {w : World} {A : Around} {E : Value → Shared → Prop} {s : Shared} {K : Fg} {x D : Addr} {ox : Obj} {od : Option Obj}
theorem cls_found {C : Addr} {nm : Str} {a g : Value} (hc : (clsIn K C).isSome = true) (ha : findIn K (.ref C) nm = some (some a)) (hg : specialIn K a "__get__" = some (some g)) (ht : takesIn K a = some true) : findObj K C od nm = some (.bind g a) := by
  cases e : clsIn K C with
  | none => rw [e] at hc; cases hc
  | some cd =>
    unfold findObj
    rw [e, Option.bind_some, ha, Option.bind_some]
    simp [hg, ht]
/-- x.__class__, x an exception that may have a dict -/
theorem cls_of_exc {Q : Option Value → Shared → Prop} (c : ExcC K D) (X : K.In s.heap) (I : InstAt s.heap x ox D od) (h : Q (some (.ref D)) { s with toks := s.toks + 1 }) : wpAny (model prog w) A (getAttr? (.ref x) "__class__") Q E s := by
  have hcl : (clsIn K D).isSome = true := by
    obtain ⟨cd, e, _⟩ := any_some c.hd
    rw [e]; rfl
  have hf := cls_found (od := od) hcl c.ha c.hn c.ht
  obtain ⟨hp, g, d, t, os⟩ := s
  have LT := I.type (M := model prog w)
  have LG := looks_findIn (M := model prog w) X c.hg
  have LK := looks_findIn (M := model prog w) X c.hk
  have LF := looks_find (M := model prog w) X I hf
  have LS : Looks (model prog w) hp (isInstance (.ref x) (.type "BaseException")) true := LT.andThen (looks_subIn X c.hs)
  have n2 : (Value.builtin "BaseException.__getattribute__" == Value.builtin "object.__getattribute__") = false := by decide +kernel
  have n1 : (onTheHeap (Value.ref D) && Value.builtin "BaseException.__getattribute__" == Value.builtin "object.__getattribute__") = false := by rw [n2]; rfl
  unfold getAttr? getAttrBy? getAttrBy
  refine wpAny_bind (wpAny_mkText (wpAny_bind (wpAny_attempt (wpAny_holding (wpAny_bind (LT.at (wpAny_bind (LG.at ?_))))))))
  show wpAny _ _ (if (onTheHeap (Value.ref D) && Value.builtin "BaseException.__getattribute__" == Value.builtin "object.__getattribute__") = true then _ else _) _ _ _
  rw [n1, if_neg Bool.false_ne_true]
  unfold getAttrByItsOwn hookBefore
  refine wpAny_bind ?_
  rw [if_pos (show onTheHeap (Value.ref D) = true from rfl)]
  refine LK.at (wpAny_bind (wpAny_attempt (wpAny_holding ?_)))
  unfold callGetattribute
  rw [show (false && onTheHeap (Value.builtin "BaseException.__getattribute__")) = false from rfl, if_neg Bool.false_ne_true]
  unfold boundAndCalled
  rw [PySem.F.excAttr_ValueError.ga.bind (.ref x)]
  refine wpAny_bind (wpAny_pure ?_)
  show wpAny _ _ (call (.builtin "BaseException.__getattribute__") [.ref x, .str "__class__" t]) _ _ _
  refine wpAny_call (codeAny_call_builtin PySem.F.excAttr_ValueError.ga.plain PySem.F.entry_bexc_ga ?_)
  refine @check_slot (model prog w) _ _ ⟨hp, g, d, t + 1, os⟩ "BaseException.__getattribute__" "BaseException" "__getattribute__" (.ref x) [.str "__class__" t] [] _ (by decide +kernel) (by decide +kernel) LS (PySem.F.args_bexc_ga (.ref x) (.str "__class__" t)) ?_
  unfold Builtin.«object.__getattribute__»
  refine wpAny_bind (wpAny_of_eq (a := ((Value.ref x : Value), [Value.str "__class__" t])) (by first | rfl | (simp only [slotArgs]; rfl)) ?_)
  refine wpAny_bind (wpAny_pure (wpAny_bind (LT.at (wpAny_bind (LF.at ?_)))))
  show wpAny _ _ (holding [Value.builtin "object.__class__"] (call (.builtin "getset_descriptor.__get__") [.builtin "object.__class__", .ref x, .ref D]) >>= ret) _ _ _
  refine wpAny_bind (wpAny_holding (wpAny_call (class_get (s := ⟨hp, g, d, t + 1, os⟩) (ox := ox) (od := od) X I c.hm ?_)))
  refine wpAny_pure ?_
  show wpAny _ _ (handedOut (.ref D)) _ _ _
  rw [handedOut_of (v := .ref D) rfl]
  first
    | exact wpAny_pure (wpAny_pure h)
    | exact wpAny_pure h
    | exact wpAny_pure (wpAny_bind (wpAny_pure (wpAny_pure h)))
theorem kit_excD (c : ExcC K D) : KitX K (.ref x) (.ref D) (fun h => InstAt h x ox D od) where
  ty := fun _ _ _ I => I.type
  it := fun _ _ X _ => by
    obtain ⟨cd, e, _⟩ := any_some c.hd
    unfold clsIn at e
    split at e
    · rename_i ho
      intro A' Q' E' s' k q
      unfold isType loadHead
      exact wpAny_bind (wpAny_loadPart (k _ _ (X _ _ ho)) (wpAny_pure q))
    · cases e
  ne := fun h tp dd its n sl X htp => by
    obtain ⟨cd, e, _⟩ := any_some c.hd
    cases z : (Value.ref D == Value.ref tp) with
    | false => rfl
    | true =>
      have e2 : D = tp := Value.ref.inj (beq_iff_eq.mp z)
      subst e2
      unfold clsIn at e
      split at e
      · rename_i ho
        have z := (X _ _ ho).symm.trans htp
        cases z
      · cases e
  ca := fun X I k => cls_of_exc c X I k
end
/-- its dict, if there is one -/
def FreeD (H : Hp) : Option Addr → Prop
  | none => True
  | some dx => ∃ v : V, H dx = some (.xd [(("index" : Str), v)])
def rIsK (K : Fg) : List V → Hp → VK → Prop := fun xs H Q => ∃ (a D : Addr) (d : Option Addr) (c : V) (cv : Value) (b : Bool), xs = [.ref a, c] ∧ H a = some (KpD (.ref D) d a) ∧ FreeD H d ∧ ExcC K D ∧ (∀ u, RelV c u → u = cv) ∧ PySem.W.kitOne K (.ref D) cv = some b ∧ Q (.bl b) H
def rIsKT (K : Fg) : List V → Hp → VK → Prop := fun xs H Q => ∃ (a D : Addr) (d : Option Addr) (tp : Addr) (cs : List Addr) (b : Bool), xs = [.ref a, .ref tp] ∧ H a = some (KpD (.ref D) d a) ∧ FreeD H d ∧ ExcC K D ∧ H tp = some (.tup (cs.map .ref)) ∧ PySem.W.kitAny K (.ref D) (cs.map .ref) = some b ∧ Q (.bl b) H
theorem kp_inst {X : Cx} {pins : List (Addr × Obj)} {σ : St} {H : Hp} {s : Shared} {a D : Addr} {d : Option Addr} (I : Inv X pins σ H s) (h : H a = some (KpD (.ref D) d a)) (hd : FreeD H d) : ∃ oe od, PySem.W.InstAt s.heap a oe D od := by
  obtain ⟨⟨oe, vs, h1, h2, h3⟩, _⟩ := (show ObjOk X.prog X.w H s.heap a (KpD (.ref D) d a) from I.hok a _ h)
  obtain ⟨oc, od, oda, osl⟩ := oe
  obtain ⟨z1, z2, _⟩ := h2
  dsimp only at z1 z2 h3
  subst z1 z2 h3
  cases od with
  | none => exact ⟨_, none, h1, rfl, rfl, trivial⟩
  | some dx =>
    obtain ⟨v, hv⟩ := hd
    obtain ⟨mA, hns, _⟩ := (show ObjOk X.prog X.w H s.heap dx (.xd [(("index" : Str), v)]) from I.hok dx _ hv)
    obtain ⟨o, ho, _⟩ := lookIn_ns hns
    exact ⟨_, some o, h1, rfl, rfl, ho⟩
theorem call_isK {X : Cx} : CallR X (.builtin "isinstance") (rIsK X.K) := by
  intro pins s σ H xs us Q I r h
  obtain ⟨a, D, d, c, cv, b, rfl, ha, hd, C, hcv, e, q⟩ := h
  obtain ⟨u1, u2, rfl, r1, r2⟩ := vals2 r
  cases (show u1 = Value.ref a from r1)
  have ec := hcv _ r2
  subst ec
  obtain ⟨oe, od, J⟩ := kp_inst I ha hd
  exact PySem.W.kia_one (kit_excD C) I.kIn J e (fun z => nomatch z) fun tk => ⟨.bl b, H, I.tok tk, rfl, q⟩
theorem vals_refs : ∀ {cs : List Addr} {us : List Value}, Vals (cs.map V.ref) us → us = cs.map Value.ref
  | [], us, h => by cases h; rfl
  | c :: cs, us, h => by
    cases h with
    | cons h1 h2 =>
      have e1 : _ = Value.ref c := h1
      rw [e1, vals_refs h2]
      rfl
theorem call_isKT {X : Cx} : CallR X (.builtin "isinstance") (rIsKT X.K) := by
  intro pins s σ H xs us Q I r h
  obtain ⟨a, D, d, tp, cs, b, rfl, ha, hd, C, hT, e, q⟩ := h
  obtain ⟨u1, u2, rfl, r1, r2⟩ := vals2 r
  cases (show u1 = Value.ref a from r1)
  cases (show u2 = Value.ref tp from r2)
  obtain ⟨oe, od, J⟩ := kp_inst I ha hd
  obtain ⟨_, its, rv, o, h1, h2, m, h3⟩ := (show ObjOk X.prog X.w H s.heap tp (.tup (cs.map .ref)) from I.hok tp _ hT)
  have e3 := vals_refs rv
  subst e3
  obtain ⟨oc, od', dt, sl⟩ := o
  simp only at h2 h3
  subst h2 h3
  exact PySem.W.kia_tup (kit_excD C) I.kIn J h1 e (fun z => nomatch z) fun tk => ⟨.bl b, H, I.tok tk, rfl, q⟩

/-! ### what is known of the classes: those of xs may be caught, those of ys are asked for -/
structure ExAll (K : Fg) (xs ys : List Str) : Prop where
  c : ∀ x ∈ xs, ExcC K (He.ga K x)
  ve : ∀ x ∈ xs, PySem.W.kitOne K (.ref (He.ga K x)) (.type "ValueError") = some true
  ct : ∀ x ∈ xs, PySem.W.exmOne K (.ref (He.ga K x)) (.ref (He.ga K "ScoreError")) = some true
  k : ∀ x ∈ xs, ∀ y ∈ ys, PySem.W.kitOne K (.ref (He.ga K x)) (.ref (He.ga K y)) = some (decide (x = y))
theorem excCB_ok {K : Fg} {D : Addr} (h : excCB K D = true) : ExcC K D := by
  unfold excCB at h
  obtain ⟨a, b⟩ := He.ba h
  obtain ⟨a1, a2⟩ := He.ba a
  obtain ⟨b1, b2⟩ := He.ba b
  obtain ⟨c1, c2⟩ := He.ba b1
  obtain ⟨d1, d2⟩ := He.ba b2
  obtain ⟨e1, e2⟩ := He.ba d2
  obtain ⟨f1, f2⟩ := He.ba e1
  exact ⟨He.eqO_ok a1, He.eqO_ok a2, of_decide_eq_true c1, c2, He.eqO_ok d1, He.eqO_ok f1, of_decide_eq_true f2, of_decide_eq_true e2⟩
theorem exB_ok {K : Fg} {xs ys : List Str} (h : exB K xs ys = true) : ExAll K xs ys := by
  have g : ∀ x ∈ xs, _ := fun x hx => He.ba (List.all_eq_true.mp h x hx)
  exact ⟨fun x hx => excCB_ok (He.ba (g x hx).1).1, fun x hx => of_decide_eq_true (He.ba (g x hx).1).2, fun x hx => of_decide_eq_true (He.ba (g x hx).2).1,
    fun x hx y hy => of_decide_eq_true (List.all_eq_true.mp (He.ba (g x hx).2).2 y hy)⟩

/-! ### over data -/
/-- its opaque things are such as OpS tells of -/
def OpLe (G : Gb) : Prop := ∀ {t : Nat} {d : D} {Hi H : Hp} {p : Addr} {fp : List Addr}, G.Op.ok t d Hi H p fp → (OpS G.K).ok t d Hi H p fp
theorem opLe_s {K : Fg} {ca : Str → Addr} : OpLe ⟨K, OpS K, ca⟩ := fun h => h

def slKp (xs : List Str) : Sl → (Str → Prop) → Prop
  | .op t (.str x), k => t % 10 = 2 ∧ x ∈ xs ∧ k x
  | .op t (.tuple [.str x, _]), k => t % 10 = 6 ∧ x ∈ xs ∧ k x
  | _, _ => False
def wKpA (xs : List Str) (i : Nat) (f : Str → Bool) : WE := fun Γ Q _ => match Γ[i]? with
  | some s => slKp xs s fun x => Q (.sh (.bool (f x))) Γ
  | none => False
section
variable {X : Cx} {G : Gb} {W : WX} {xs ys : List Str} {p p2 p3 p4 pos : Pos}
theorem kp_at (hO : OpLe G) {C : Cf} {Hi H : Hp} {σ : St} {Γ : Ev} {i : Nat} {k : Str → Prop} {s : Sl} (c : Rel G C Hi σ H Γ) (hs : Γ[i]? = some s) (hk : slKp xs s k) : ∃ x a d, x ∈ xs ∧ σ[i]? = some (some (.ref a)) ∧ H a = some (KpD (.ref (He.ga G.K x)) d a) ∧ FreeD H d ∧ k x := by
  unfold slKp at hk
  split at hk
  · rename_i t x _
    obtain ⟨ht, hx, hk⟩ := hk
    obtain ⟨fp, c0⟩ := c
    obtain ⟨v, hv, a, rfl, okk, _⟩ := c0.sl i _ hs
    replace okk := hO okk
    obtain ⟨_, nm, hd, _, ha⟩ := op_kep ht okk
    injection hd with hd
    subst hd
    exact ⟨_, a, none, hx, hv, ha, trivial, hk⟩
  · rename_i t x dv _
    obtain ⟨ht, hx, hk⟩ := hk
    obtain ⟨fp, c0⟩ := c
    obtain ⟨v, hv, a, rfl, okk, _⟩ := c0.sl i _ hs
    replace okk := hO okk
    obtain ⟨_, nm, dx, w, dv', hd, _, ha, hdx, _⟩ := op_kxi ht okk
    injection hd with hd
    injection hd with hd1 hd2
    injection hd1 with hd1
    subst hd1
    exact ⟨_, a, some dx, hx, hv, ha, ⟨w, c0.imm _ _ hdx⟩, hk⟩
  · exact hk.elim
theorem sim_isK (hO : OpLe G) (ex : ExAll G.K xs ys) (i : Nat) {y : Str} (hy : y ∈ ys) : SimE G W (tCB (rIsK G.K) (tCons (tVar i) (tCons (tC (.ref (He.ga G.K y))) tNil))) (wKpA xs i fun x => decide (x = y)) := by
  intro C Hi σ H Γ Q Qd Xd c hw hQ hX
  unfold wKpA at hw
  cases hs : Γ[i]? with
  | none => rw [hs] at hw; exact hw.elim
  | some s =>
    rw [hs] at hw
    obtain ⟨x, a, d, hx, hv, ha, hd, q⟩ := kp_at hO c hs hw
    exact ⟨_, hv, a, _, d, _, .ref (He.ga G.K y), decide (x = y), rfl, ha, hd, ex.c x hx, fun u r => r, ex.k x hx y hy, hQ _ _ H Hi Γ (Ext.refl _) (out_bl c _) q⟩
theorem sim_isKV (hO : OpLe G) (ex : ExAll G.K xs ys) (i : Nat) : SimE G W (tCB (rIsK G.K) (tCons (tVar i) (tCons (tC (.ty "ValueError")) tNil))) (wKpA xs i fun _ => true) := by
  intro C Hi σ H Γ Q Qd Xd c hw hQ hX
  unfold wKpA at hw
  cases hs : Γ[i]? with
  | none => rw [hs] at hw; exact hw.elim
  | some s =>
    rw [hs] at hw
    obtain ⟨x, a, d, hx, hv, ha, hd, q⟩ := kp_at hO c hs hw
    exact ⟨_, hv, a, _, d, _, .type "ValueError", true, rfl, ha, hd, ex.c x hx, fun u r => r, ex.ve x hx, hQ _ _ H Hi Γ (Ext.refl _) (out_bl c _) q⟩
/-- the classes of a tuple -/
def tCs (K : Fg) : List Str → TA
  | [] => tNil
  | y :: r => tCons (tC (.ref (He.ga K y))) (tCs K r)
theorem tCs_run {K : Fg} : ∀ {zs : List Str} {σ : St} {H : Hp} {Q : List V → Hp → Prop}, Q (zs.map fun y => .ref (He.ga K y)) H → tCs K zs σ H Q
  | [], _, _, _, h => h
  | _ :: zs, _, _, Q, h => tCs_run (zs := zs) h
theorem kit_all {K : Fg} {x : Str} : ∀ {zs : List Str}, (∀ y ∈ zs, PySem.W.kitOne K (.ref (He.ga K x)) (.ref (He.ga K y)) = some (decide (x = y))) → PySem.W.kitAny K (.ref (He.ga K x)) ((zs.map (He.ga K)).map .ref) = some (decide (x ∈ zs))
  | [], _ => kitAny_nil
  | y :: zs, h => by
    have h1 := h y List.mem_cons_self
    have ih := kit_all (zs := zs) fun z hz => h z (List.mem_cons_of_mem _ hz)
    refine kitAny_cons h1 (fun e => ?_) fun e => ?_
    · have e := of_decide_eq_false e
      have : decide (x ∈ y :: zs) = decide (x ∈ zs) := by
        apply decide_eq_decide.mpr
        simp [e]
      rw [this]; exact ih
    · exact decide_eq_true (by rw [of_decide_eq_true e]; exact List.mem_cons_self)
theorem sim_isKT (hO : OpLe G) (ex : ExAll G.K xs ys) (i : Nat) {zs : List Str} (hz : ∀ y ∈ zs, y ∈ ys) (hl : zs.length ≤ 1000) : SimE G W (tCB (rIsKT G.K) (tCons (tVar i) (tCons (tTup (tCs G.K zs)) tNil))) (wKpA xs i fun x => decide (x ∈ zs)) := by
  intro C Hi σ H Γ Q Qd Xd c hw hQ hX
  unfold wKpA at hw
  cases hs : Γ[i]? with
  | none => rw [hs] at hw; exact hw.elim
  | some s =>
    rw [hs] at hw
    obtain ⟨x, a, d, hx, hv, ha, hd, q⟩ := kp_at hO c hs hw
    refine ⟨_, hv, tCs_run ⟨le_line (by simpa using hl), fun tp hp => ?_⟩⟩
    refine ⟨a, _, d, tp, zs.map (He.ga G.K), decide (x ∈ zs), rfl, ?_, ?_, ex.c x hx, ?_, kit_all fun y hy => ex.k x hx y (hz y hy), ?_⟩
    · rw [upd_ne (ne_of_none ha hp)]; exact ha
    · cases d with
      | none => trivial
      | some dx =>
        obtain ⟨w, hw'⟩ := hd
        exact ⟨w, by rw [upd_ne (ne_of_none hw' hp)]; exact hw'⟩
    · rw [upd_same, List.map_map]; rfl
    · exact hQ _ _ _ Hi Γ (Ext.refl _) (out_bl (c.grow (Ext.new hp) (Ext.refl _) (c.imm.trans (Ext.new hp)) fun _ _ z => .inl z) _) q
theorem pe_cls {y : Str} (hK : X.K = G.K) (m : X.mg y = some (.ref (He.ga G.K y))) (hg : Gl X y := by rfl) (hd : (y == ("__debug__" : Str)) = false := by decide) : PE X (.Name y pos) (tC (.ref (He.ga G.K y))) := pe_glob hg m rfl hd
structure DC (X : Cx) (K : Fg) (es : List Expr) (zs : List Str) : Prop where
  pa : PA X es (tCs K zs)
theorem dc_nil : DC X G.K [] [] := ⟨pa_nil⟩
theorem dc_cons {y : Str} {es : List Expr} {zs : List Str} (hK : X.K = G.K) (m : X.mg y = some (.ref (He.ga G.K y))) (r : DC X G.K es zs) (hg : Gl X y := by rfl) (hd : (y == ("__debug__" : Str)) = false := by decide)
    (hs : starEach (.Name y pos :: es) X.env = (false, eval (.Name y pos) X.env) :: starEach es X.env := by rfl) : DC X G.K (.Name y pos :: es) (y :: zs) := ⟨pa_cons (pe_cls hK m hg hd) r.pa hs⟩
theorem de_isK (hK : X.K = G.K) (hO : OpLe G) (ex : ExAll G.K xs ys) (i : Nat) {x y : Str} (hmi : X.mg "isinstance" = none) (m : X.mg y = some (.ref (He.ga G.K y))) (hy : y ∈ ys := by decide) (hN : X.N[i]? = some x := by rfl) (hv : Vis X.env.scope x := by first | exact Or.inl rfl | exact Or.inr (Or.inl rfl) | exact Or.inr (Or.inr rfl))
    (hd : (x == ("__debug__" : Str)) = false := by decide) (hcd : (x == ("__classdict__" : Str)) = false := by decide) (hgi : Gl X "isinstance" := by rfl) (hg : Gl X y := by rfl) (hdy : (y == ("__debug__" : Str)) = false := by decide)
    (he : starEach [.Name x p2, .Name y p3] X.env = (false, eval (.Name x p2) X.env) :: starEach [.Name y p3] X.env := by rfl) (he2 : starEach [.Name y p3] X.env = (false, eval (.Name y p3) X.env) :: starEach [] X.env := by rfl) (hpl : (backTo pos (starEach [.Name y p3] X.env)).any (·.1) = false := by rfl) :
    DE X G W (.Call (.Name "isinstance" p) [.Name x p2, .Name y p3] [] pos) (tCB (rIsK G.K) (tCons (tVar i) (tCons (tC (.ref (He.ga G.K y))) tNil))) (wKpA xs i fun x => decide (x = y)) :=
  ⟨pe_callB (by rw [← hK]; exact call_isK) hgi hmi (by decide +kernel) (pa_cons (pe_var hN hv hd hcd) (pa_cons (pe_cls hK m hg hdy) pa_nil he2) he) (by decide) (by decide) he hpl, sim_isK hO ex i hy⟩
theorem de_isKV (hK : X.K = G.K) (hO : OpLe G) (ex : ExAll G.K xs ys) (i : Nat) {x : Str} (hmi : X.mg "isinstance" = none) (m : X.mg "ValueError" = none) (hN : X.N[i]? = some x := by rfl) (hv : Vis X.env.scope x := by first | exact Or.inl rfl | exact Or.inr (Or.inl rfl) | exact Or.inr (Or.inr rfl))
    (hd : (x == ("__debug__" : Str)) = false := by decide) (hcd : (x == ("__classdict__" : Str)) = false := by decide) (hgi : Gl X "isinstance" := by rfl) (hg : Gl X "ValueError" := by rfl)
    (he : starEach [.Name x p2, .Name "ValueError" p3] X.env = (false, eval (.Name x p2) X.env) :: starEach [.Name "ValueError" p3] X.env := by rfl) (he2 : starEach [.Name "ValueError" p3] X.env = (false, eval (.Name "ValueError" p3) X.env) :: starEach [] X.env := by rfl) (hpl : (backTo pos (starEach [.Name "ValueError" p3] X.env)).any (·.1) = false := by rfl) :
    DE X G W (.Call (.Name "isinstance" p) [.Name x p2, .Name "ValueError" p3] [] pos) (tCB (rIsK G.K) (tCons (tVar i) (tCons (tC (.ty "ValueError")) tNil))) (wKpA xs i fun _ => true) :=
  ⟨pe_callB (by rw [← hK]; exact call_isK) hgi hmi (by decide +kernel) (pa_cons (pe_var hN hv hd hcd) (pa_cons (pe_bltn hg m (u := .type "ValueError") (by decide +kernel) rfl) pa_nil he2) he) (by decide) (by decide) he hpl, sim_isKV hO ex i⟩
theorem de_isKT (hK : X.K = G.K) (hO : OpLe G) (ex : ExAll G.K xs ys) (i : Nat) {x : Str} {es : List Expr} {zs : List Str} {j : Nat} (hmi : X.mg "isinstance" = none) (dc : DC X G.K es zs) (hz : ∀ y ∈ zs, y ∈ ys := by decide) (hl : zs.length ≤ 1000 := by decide) (hN : X.N[i]? = some x := by rfl) (hv : Vis X.env.scope x := by first | exact Or.inl rfl | exact Or.inr (Or.inl rfl) | exact Or.inr (Or.inr rfl))
    (hd : (x == ("__debug__" : Str)) = false := by decide) (hcd : (x == ("__classdict__" : Str)) = false := by decide) (hgi : Gl X "isinstance" := by rfl)
    (he : starEach [.Name x p2, .Tuple es j p3] X.env = (false, eval (.Name x p2) X.env) :: starEach [.Tuple es j p3] X.env := by rfl) (he2 : starEach [.Tuple es j p3] X.env = (false, eval (.Tuple es j p3) X.env) :: starEach [] X.env := by rfl) (hpl : (backTo pos (starEach [.Tuple es j p3] X.env)).any (·.1) = false := by rfl) :
    DE X G W (.Call (.Name "isinstance" p) [.Name x p2, .Tuple es j p3] [] pos) (tCB (rIsKT G.K) (tCons (tVar i) (tCons (tTup (tCs G.K zs)) tNil))) (wKpA xs i fun x => decide (x ∈ zs)) :=
  ⟨pe_callB (by rw [← hK]; exact call_isKT) hgi hmi (by decide +kernel) (pa_cons (pe_var hN hv hd hcd) (pa_cons (pe_tup dc.pa) pa_nil he2) he) (by decide) (by decide) he hpl, sim_isKT hO ex i hz hl⟩

/-! ### the name of an exception, kept under another name; is it None -/
def wMov (j i : Nat) : WS := fun Γ D _ => i ≠ j ∧ i < Γ.length ∧ j < Γ.length ∧ match Γ[i]? with
  | some (.op t d) => 10 ≤ t ∧ D.nx ((Γ.set i .no).set j (.op t d))
  | _ => False
theorem Core.moveOp {C : Cf} {Hi H : Hp} {σ : St} {Γ : Ev} {fp : Nat → List Addr} {i j t : Nat} {d : D} {a : Addr} (c : Core G C Hi σ H Γ fp) (hi : Γ[i]? = some (.op t d)) (hs : σ[i]? = some (some (.ref a))) (hne : i ≠ j) (hj : j < Γ.length) :
    Rel G C Hi (σ.set j (some (.ref a))) H ((Γ.set i .no).set j (.op t d)) := by
  have hl : i < Γ.length := (List.getElem?_eq_some_iff.mp hi).1
  obtain ⟨x, hx, p, e1, ok, hm, hp⟩ := c.sl i _ hi
  rw [hs] at hx; cases hx
  cases e1
  have c1 := c.put (x := some (.ref a)) (l := []) (s := .no) hl rfl fun b hb => nomatch hb
  have e : σ.set i (some (.ref a)) = σ := by
    obtain ⟨h1, h2⟩ := List.getElem?_eq_some_iff.mp hs
    rw [← h2]; exact List.set_getElem_self h1
  rw [e] at c1
  refine ⟨_, c1.put (i := j) (x := some (.ref a)) (l := fp i) (s := .op t d) (by simpa using hj) ⟨a, rfl, ok, hm, hp⟩ fun b hb => ⟨c.av i b hl hb, fun k hk hkj hbk => ?_⟩⟩
  by_cases hki : k = i
  · rw [if_pos hki] at hbk; cases hbk
  · rw [if_neg hki] at hbk
    exact hki (c.dj k i b (by simpa using hk) hl hbk hb)
theorem sim_mov (j i : Nat) : SimS G W (tAsg (tVar i) (gName j)) (wMov j i) := by
  intro C Hi σ H Γ Dn Dd Xd c hw h1 _ _ _ h5
  obtain ⟨hne, hi, hj, hw⟩ := hw
  split at hw
  · rename_i t d e
    obtain ⟨fp, c⟩ := c
    obtain ⟨x, hx, p, e1, _⟩ := c.sl i _ e
    rw [e1] at hx
    exact ⟨_, hx, h1 _ H Hi _ (Ext.refl _) (c.moveOp e hx hne hj) hw.2⟩
  · exact hw.elim
end
end VL

set_option Elab.async false
set_option linter.all false
set_option maxRecDepth 100000
/-! VTry3: try over data; is None of a thing that may be a kept exception; what the wishes come to. -/
namespace VL
open PySem PySem.Spec PyProof.Rows L2

/-- the slot that keeps a caught exception -/
def exW (e : Exn) (k : Sl → Prop) : Prop := match e.idx with
  | none => k (.op 12 (.str e.name))
  | some .non => k (.op 16 (.tuple [.str e.name, .none]))
  | some (.int j) => k (.op 16 (.tuple [.str e.name, .int j]))
  | _ => False
def wTry (xs : List Str) (i : Nat) (wb ws : WS) : WS := fun Γ D _ => wb Γ D fun e Γ1 => e.name ∈ xs ∧ exW e fun s =>
  ws (Γ1.set i s) ⟨fun Γ2 => D.nx (Γ2.set i .no), D.rt, fun Γ2 => D.bk (Γ2.set i .no), fun Γ2 => D.ct (Γ2.set i .no)⟩ fun _ _ => False
section
variable {X : Cx} {G : Gb} {W : WX} {xs ys : List Str}
theorem Rel.kept (hO : G.Op = OpS G.K) {C : Cf} {Hi H : Hp} {σ : St} {Γ : Ev} (c : Rel G C Hi σ H Γ) (i : Nat) {a : Addr} (ha : H a = none) {cl : Value} {x : Exn} {d : Option Addr} {k : Sl → Prop} (hca : G.ca = He.ga G.K) (hx : G.xr x cl d Hi) (q : exW x k) :
    ∃ s, k s ∧ Rel G C Hi (σ.set i (some (.ref a))) (upd H a (KpD cl d a)) (Γ.set i s) := by
  obtain ⟨fp, c0⟩ := id c
  obtain ⟨z1, z2⟩ := hx
  subst z1
  have main : ∀ s, (∀ t dd, s = .op t dd → t = 12 ∨ t = 16) → (∃ t dd, s = .op t dd ∧ (OpS G.K).ok t dd Hi (upd H a (KpD (.ref (G.ca x.name)) d a)) a [a]) → Rel G C Hi (σ.set i (some (.ref a))) (upd H a (KpD (.ref (G.ca x.name)) d a)) (Γ.set i s) := fun s hs ⟨t, dd, es, ok⟩ => by
    subst es
    have ht := hs t dd rfl
    refine Rel.setOw ⟨_, c0.push (x := some (.ref a)) (l := [a]) (s := .op t dd) (Ext.new ha) ⟨a, rfl, by rw [hO]; exact ok, fun b hb => ?_, fun q hq => by omega⟩ fun b hb => ?_⟩ c.len
    · have : b = a := by simpa using hb
      rw [this]; exact .inl (c0.fresh ha).2
    · have : b = a := by simpa using hb
      rw [this]; exact ha
  unfold exW at q
  split at q
  · rename_i e
    rw [e] at z2
    have z2 : d = none := z2
    subst z2
    exact ⟨_, q, main _ (fun t dd e => by cases e; exact .inl rfl) ⟨_, _, rfl, .inr (.inr (.inl ⟨by decide, x.name, rfl, rfl, by rw [hca, upd_same]⟩))⟩⟩
  · rename_i e
    rw [e] at z2
    obtain ⟨dx, hd, hdx⟩ := z2
    subst hd
    exact ⟨_, q, main _ (fun t dd e => by cases e; exact .inr rfl) ⟨_, _, rfl, .inr (.inr (.inr (.inr (.inr (.inl ⟨by decide, x.name, dx, .non, .none, rfl, rfl, by rw [hca, upd_same], hdx, .non⟩)))))⟩⟩
  · rename_i j e
    rw [e] at z2
    obtain ⟨dx, hd, hdx⟩ := z2
    subst hd
    exact ⟨_, q, main _ (fun t dd e => by cases e; exact .inr rfl) ⟨_, _, rfl, .inr (.inr (.inr (.inr (.inr (.inl ⟨by decide, x.name, dx, .int j, .int j, rfl, rfl, by rw [hca, upd_same], hdx, .int j⟩)))))⟩⟩
  · exact q.elim
theorem sim_try {tb : WX → TS} {ts : TS} {wb wu : WS} (hK : X.K = G.K) (hO : G.Op = OpS G.K) (hca : G.ca = He.ga G.K) (ex : ExAll G.K xs ys) (i : Nat) (hb : ∀ W', SimS G W' (tb W') wb) (hu : SimS G noW ts wu) :
    SimS G W (fun D σ H => tb (wKp X.K (.ref (He.ga G.K "ScoreError")) i (fun _ => ts) D) D σ H) (wTry xs i wb wu) := by
  intro C Hi σ H Γ Dn Dd Xd c hw h1 h2 h3 h4 h5
  refine hb _ C Hi σ H Γ Dn Dd _ c hw h1 h2 h3 h4 fun x cl d σ' H' Hi' Γ' e c' hx q => ?_
  obtain ⟨q2, q3⟩ := q
  obtain ⟨z1, z2⟩ := id hx
  refine ⟨by rw [hK, z1, hca]; exact ex.ct _ q2, fun a ha => ?_⟩
  obtain ⟨s, q4, c2⟩ := c'.kept hO i ha hca hx q3
  refine hu C Hi' _ _ _ (endsK i Dn) _ _ c2 q4 (fun σ3 H3 Hi3 Γ3 e3 c3 k => h1 _ H3 Hi3 _ (e.trans e3) c3.setNo k) (fun v r σ3 H3 Hi3 Γ3 e3 o3 k => h2 v r σ3 H3 Hi3 Γ3 (e.trans e3) o3 k)
    (fun σ3 H3 Hi3 Γ3 e3 c3 k => h3 _ H3 Hi3 _ (e.trans e3) c3.setNo k) (fun σ3 H3 Hi3 Γ3 e3 c3 k => h4 _ H3 Hi3 _ (e.trans e3) c3.setNo k) fun x c d σ' H' Hi' Γ' e c' hx z => z.elim
theorem ds_try {blk su : List Stmt} {s1 : Stmt} {n : Str} {q1 q2 q3 : Pos} {tb : WX → TS} {ts : TS} {wb wu : WS} (hK : X.K = G.K) (hO : G.Op = OpS G.K) (hca : G.ca = He.ga G.K) (ex : ExAll G.K xs ys) (i : Nat) (hm : X.mg "ScoreError" = some (.ref (He.ga G.K "ScoreError"))) (nd : X.N.Nodup)
    (hb : ∀ (W' : WX) (ps : List (Addr × Obj)) (xw : Value → Shared → Prop), L2N.Takes (X.tr ps xw) W' → DB (X.tr ps xw) G W' blk (tb W') wb) (hu : ∀ (a : Addr) (ps : List (Addr × Obj)), DB (X.suite a ps) G noW (s1 :: su) ts wu)
    (hst : X.stack = X.env :: X.outer := by rfl) (hfr : X.env.frame = some X.env.locals := by rfl) (hn : X.N[i]? = some n := by rfl) (hl : X.env.kindOf n = some .local := by rfl) (hex : X.ex = [] := by rfl) (hgl : Gl X "ScoreError" := by rfl) :
    DS X G W (.Try blk [.ExceptHandler (some (.Name "ScoreError" q1)) (some n) (s1 :: su) q2] [] [] q3) (fun D σ H => tb (wKp X.K (.ref (He.ga G.K "ScoreError")) i (fun _ => ts) D) D σ H) (wTry xs i wb wu) :=
  ⟨ps_try_keep hst hfr nd hn hl ⟨hgl, by decide, .inl hm⟩ hex (fun W' ps xw tk => (hb W' ps xw tk).pe) (fun a ps => (hu a ps).pe), sim_try hK hO hca ex i (fun W' => (hb W' [] (fun _ _ => True) (fun _ _ _ => trivial)).sim) (hu 0 []).sim⟩
theorem ds_mov {x y : Str} {py px pos : Pos} (j i : Nat) (hN : X.N.Nodup) (hi : X.N[i]? = some x := by rfl) (hv : Vis X.env.scope x := by first | exact Or.inl rfl | exact Or.inr (Or.inl rfl) | exact Or.inr (Or.inr rfl)) (hd : (x == ("__debug__" : Str)) = false := by decide) (hcd : (x == ("__classdict__" : Str)) = false := by decide)
    (hj : X.N[j]? = some y := by rfl) (hx : L2.Loc X.env.scope y := by first | exact .inl rfl | exact .inr rfl) (hf : X.fn y = true ∨ X.env.scope.names.lookup y = some .local := by first | exact .inl rfl | exact .inr rfl) (hs : swapsWith (.Name x px) (some (.Name y py)) pos.line X.env = pure false := by rfl) :
    DS X G W (.Assign [.Name y py] (.Name x px) pos) (tAsg (tVar i) (gName j)) (wMov j i) :=
  ⟨ps_set (i := j) hN hj hx (pe_var hi hv hd hcd), sim_mov j i⟩
/-- x is None, x perhaps a kept exception -/
def slNone : Sl → (Bool → Prop) → Prop
  | .sh d, k => k (isNone d)
  | .op _ _, k => k false
  | _, _ => False
def wIsNV (i : Nat) : WE := fun Γ Q _ => match Γ[i]? with
  | some s => slNone s fun b => Q (.sh (.bool b)) Γ
  | none => False
theorem sim_isNV (i : Nat) : SimE G W (tOp (fun x y H Q => y = .non ∧ Q (.bl (decide (x = .non))) H) (tVar i) (tC .non)) (wIsNV i) := by
  intro C Hi σ H Γ Q Qd Xd c hw hQ hX
  unfold wIsNV at hw
  cases hs : Γ[i]? with
  | none => rw [hs] at hw; exact hw.elim
  | some s =>
    rw [hs] at hw
    cases s with
    | sh d =>
      obtain ⟨v, h1, h2⟩ := c.at_sh hs
      refine ⟨v, h1, rfl, ?_⟩
      rw [rdb_none (H := H) (.inl h2)]
      exact hQ _ _ H Hi Γ (Ext.refl _) (out_bl c _) hw
    | op t d =>
      obtain ⟨fp, c0⟩ := id c
      obtain ⟨x, hx, p, rfl, _⟩ := c0.sl i _ hs
      refine ⟨_, hx, rfl, ?_⟩
      rw [decide_eq_false (fun z => nomatch z)]
      exact hQ _ _ H Hi Γ (Ext.refl _) (out_bl c _) hw
    | no => exact hw.elim
    | ow d => exact hw.elim
    | io d => exact hw.elim
    | two _ _ => exact hw.elim
theorem dt_isNV {x : Str} {j : Nat} {p p2 pos : Pos} (i : Nat) (hN : X.N[i]? = some x := by rfl) (hv : Vis X.env.scope x := by first | exact Or.inl rfl | exact Or.inr (Or.inl rfl) | exact Or.inr (Or.inr rfl)) (hd : (x == ("__debug__" : Str)) = false := by decide) (hcd : (x == ("__classdict__" : Str)) = false := by decide) :
    DT X G W (.Compare (.Name x p) [.Is] [.Constant .none j p2] pos) (tTest (tOp (fun x y H Q => y = .non ∧ Q (.bl (decide (x = .non))) H) (tVar i) (tC .non))) (wT (wIsNV i)) :=
  ⟨pt_cmpR op_isN (pe_var hN hv hd hcd) pe_non (nobehind _ (by decide) (by decide)), sim_tTest (sim_isNV i)⟩
end
/-! ### what the wishes come to -/
@[simp ↓] theorem ev_wTry (xs : List Str) (i : Nat) (wb ws : WS) (Γ : Ev) (D : WD) (X : XW) : wTry xs i wb ws Γ D X = wb Γ D fun e Γ1 => e.name ∈ xs ∧ exW e fun s =>
  ws (Γ1.set i s) ⟨fun Γ2 => D.nx (Γ2.set i .no), D.rt, fun Γ2 => D.bk (Γ2.set i .no), fun Γ2 => D.ct (Γ2.set i .no)⟩ fun _ _ => False := rfl
@[simp ↓] theorem exW_none (nm : Str) (k : Sl → Prop) : exW ⟨nm, none⟩ k = k (.op 12 (.str nm)) := rfl
@[simp ↓] theorem exW_non (nm : Str) (k : Sl → Prop) : exW ⟨nm, some .non⟩ k = k (.op 16 (.tuple [.str nm, .none])) := rfl
@[simp ↓] theorem exW_int (nm : Str) (j : Int) (k : Sl → Prop) : exW ⟨nm, some (.int j)⟩ k = k (.op 16 (.tuple [.str nm, .int j])) := rfl
@[simp ↓] theorem ev_wRaise (nm : Str) (Γ : Ev) (D : WD) (X : XW) : wRaise nm Γ D X = X ⟨nm, none⟩ Γ := rfl
@[simp ↓] theorem ev_wKpA (xs : List Str) (i : Nat) (f : Str → Bool) (Γ : Ev) (Q : R → Ev → Prop) (X : XW) : wKpA xs i f Γ Q X = getS Γ i fun s => slKp xs s fun x => Q (.sh (.bool (f x))) Γ := by
  rw [getS_at]
  unfold wKpA
  cases Γ[i]? <;> rfl
@[simp ↓] theorem slKp_opI (xs : List Str) (t : Nat) (x : Str) (d : D) (k : Str → Prop) : slKp xs (.op t (.tuple [.str x, d])) k = (t % 10 = 6 ∧ x ∈ xs ∧ k x) := rfl
@[simp ↓] theorem slKp_op (xs : List Str) (t : Nat) (x : Str) (k : Str → Prop) : slKp xs (.op t (.str x)) k = (t % 10 = 2 ∧ x ∈ xs ∧ k x) := rfl
@[simp ↓] theorem ev_wIsNV (i : Nat) (Γ : Ev) (Q : R → Ev → Prop) (X : XW) : wIsNV i Γ Q X = getS Γ i fun s => slNone s fun b => Q (.sh (.bool b)) Γ := by
  rw [getS_at]
  unfold wIsNV
  cases Γ[i]? <;> rfl
@[simp ↓] theorem slNone_sh (d : D) (k : Bool → Prop) : slNone (.sh d) k = k (isNone d) := rfl
@[simp ↓] theorem slNone_op (t : Nat) (d : D) (k : Bool → Prop) : slNone (.op t d) k = k false := rfl
def slMov (Γ : Ev) (j i : Nat) (D : WD) : Sl → Prop
  | .op t d => 10 ≤ t ∧ D.nx ((Γ.set i .no).set j (.op t d))
  | _ => False
@[simp ↓] theorem ev_wMov (j i : Nat) (Γ : Ev) (D : WD) (X : XW) : wMov j i Γ D X = (i ≠ j ∧ i < Γ.length ∧ j < Γ.length ∧ getS Γ i fun s => slMov Γ j i D s) := by
  rw [getS_at]
  unfold wMov
  cases Γ[i]? with
  | none => rfl
  | some s => cases s <;> rfl

@[simp ↓] theorem slMov_op (Γ : Ev) (j i : Nat) (K : WD) (t : Nat) (d : PyData) : slMov Γ j i K (.op t d) = (10 ≤ t ∧ K.nx ((Γ.set i .no).set j (.op t d))) := rfl
end VL

set_option Elab.async false
set_option linter.all false
set_option maxRecDepth 100000
/-! VHook: the head's facts with one Bool more, of one's own. -/
namespace VL
open PySem PySem.Spec PyProof.Rows L2
end VL
namespace VL
open PySem L2
theorem ioAt_ca {K : Fg} {Op : OpSem} {ca ca' : Str → Addr} {Hi H : Hp} {io : Option Sl} {pre : List V} {fp : List Addr} (h : IoAt ⟨K, Op, ca⟩ Hi H io pre fp) : IoAt ⟨K, Op, ca'⟩ Hi H io pre fp := by
  cases io with
  | none => exact h
  | some s => cases s <;> exact h
theorem law_ca {K : Fg} {ca ca' : Str → Addr} {vs : List V} {H : Hp} {Q : VK} {E : XK} (h : lift ⟨K, OpS K, ca⟩ fsLaw vs H Q E) : lift ⟨K, OpS K, ca'⟩ fsLaw vs H Q E := by
  obtain ⟨io, ds, Hi, Qd, Xd, pre, post, fp, h1, h2, h3, h4, h5, h6, h7, _⟩ := h
  refine ⟨io, ds, Hi, Qd, fun _ _ => False, pre, post, fp, h1, ioAt_ca h2, h3, h4, h5, h6, fun v r H' Hi' io' fp' L ra q => h7 v r H' Hi' io' fp' ⟨L.e, L.imm, L.ov, L.keep, L.live, ioAt_ca L.at_, L.cells⟩ ?_ q, fun _ _ _ _ _ _ _ _ _ z => z.elim⟩
  cases r <;> exact ra
end VL

set_option Elab.async false
set_option linter.all false
set_option maxRecDepth 100000
/-! VFn: [f, g, ..][i](e, ..): a def out of a list of defs is called. -/
namespace VL
open PySem PySem.Spec PyProof.Rows L2

def tCallF (S : Addr → Sp → Prop) (E : St → XK) (tf : TE) (t : TA) : TE := fun σ H Q => tf σ H fun y H1 => ∃ (f : Addr) (sp : Sp), y = .ref f ∧ S f sp ∧ t σ H1 fun vs H2 => sp vs H2 Q (E σ)
def adr (mg : Str → Option Value) (x : Str) : Addr := match mg x with
  | some (.ref a) => a
  | _ => 0
def tAs (mg : Str → Option Value) : List Str → TA
  | [] => tNil
  | x :: r => tCons (tC (.ref (adr mg x))) (tAs mg r)
theorem tAs_run {mg : Str → Option Value} : ∀ {zs : List Str} {σ : St} {H : Hp} {Q : List V → Hp → Prop}, Q (zs.map fun y => .ref (adr mg y)) H → tAs mg zs σ H Q
  | [], _, _, _, h => h
  | _ :: zs, _, _, Q, h => tAs_run (zs := zs) h
section
variable {X : Cx} {G : Gb} {W : WX} {mg : Str → Option Value} {k : Nat} {fe e : Expr} {es : List Expr} {tf : TE} {t : TA} {w : WA} {p p2 pos : Pos}
theorem pe_callF {S : Addr → Sp → Prop} (hf : PE X fe tf) (A : ∀ f sp, S f sp → ∃ fd ps, FnOk X.prog X.w X.K X.mg X.base (L2N.CX X.prog X.w) k f fd ps sp ∧ PySem.W.keepIn X.K (.ref f) = true ∧ Binds X.K fd ps []) (hr : Room k X.A) (tk : L2N.Takes X W) (ha : PA X (e :: es) t)
    (ht : eval (.Call fe (e :: es) [] pos) X.env = (do callWith pos (← eval fe X.env) [] (backTo pos (starEach (e :: es) X.env)) (backToKw pos (keywordEach [] X.env))) := by rfl)
    (he : starEach (e :: es) X.env = (false, eval e X.env) :: starEach es X.env := by rfl) (hpl : (backTo pos (starEach es X.env)).any (·.1) = false := by rfl) : PE X (.Call fe (e :: es) [] pos) (tCallF S (L2.WE W) tf t) := by
  refine ⟨fun pins s σ H Q I h => ?_⟩
  refine Call_ (thn (hf.run pins s σ H _ I h) fun u s1 ⟨y, H1, I1, ry, f, sp, ey, hS, q⟩ => ?_) ht
  subst ey
  obtain rfl : u = Value.ref f := ry
  obtain ⟨fd, ps, F, hk, hb⟩ := A f sp hS
  refine PySem.W.callWith_K (h₀ := X.base) I.ok.mod.kin hk (thn (ha.run pos pins s1 σ H1 _ I1 q) fun us s2 ⟨vs, H2, I2, r, q2⟩ => ⟨I2.kIn, ?_⟩) he hpl
  exact run_fnSD F hr hb .nil (L2N.passAt tk σ) I2 r (by rw [List.append_nil]; exact q2)
/-- the defs of a list -/
structure DF (X : Cx) (G : Gb) (k : Nat) (mg : Str → Option Value) (es : List Expr) (xs : List Str) (fss : List FS) : Prop where
  pa : PA X es (tAs mg xs)
  ln : xs.length = fss.length
  ok : ∀ (j : Nat) (x : Str) (fs : FS), xs[j]? = some x → fss[j]? = some fs → ∃ fd ps, FnOk X.prog X.w X.K X.mg X.base (L2N.CX X.prog X.w) k (adr mg x) fd ps (lift G fs) ∧ PySem.W.keepIn X.K (.ref (adr mg x)) = true ∧ Binds X.K fd ps []
theorem df_nil : DF X G k mg [] [] [] := ⟨pa_nil, rfl, fun j x fs h => by simp at h⟩
theorem df_cons {x : Str} {fs : FS} {ps : List Str} {xs : List Str} {fss : List FS} (hK : X.K = G.K) (hm : X.mg = mg) (F : Gd X.prog X.w G X.mg X.base k x fs ps []) (r : DF X G k mg es xs fss) (hg : Gl X x := by rfl) (hd : (x == ("__debug__" : Str)) = false := by decide)
    (hs : starEach (.Name x pos :: es) X.env = (false, eval (.Name x pos) X.env) :: starEach es X.env := by rfl) : DF X G k mg (.Name x pos :: es) (x :: xs) (fs :: fss) := by
  obtain ⟨f, fd, h1, h2, h3, ds, h4, h5⟩ := F
  have ea : adr mg x = f := by unfold adr; rw [← hm, h1]
  cases h4
  refine ⟨pa_cons (by rw [ea]; exact pe_glob hg h1 rfl hd) r.pa hs, by simp [r.ln], fun j y gs hy hg2 => ?_⟩
  cases j with
  | zero =>
    simp at hy hg2
    subst hy hg2
    rw [ea]
    refine ⟨fd, ps, ?_, by rw [hK]; exact h2, by rw [hK]; exact h5⟩
    rw [hK]; exact h3
  | succ j => exact r.ok j y gs (by simpa using hy) (by simpa using hg2)
def wPick (i : Nat) (c : Int) (fss : List FS) (wa : WA) : WE := fun Γ Q X => match Γ[i]? with
  | some (.sh (.int n)) => 0 ≤ n - c ∧ (match fss[(n - c).toNat]? with
    | some fs => wCall fs [] wa Γ Q X
    | none => False)
  | _ => False
theorem sim_pick {xs : List Str} {fss : List FS} {c : Int} {te : TE} (i : Nat) (hl : xs.length = fss.length) (h10 : fss.length ≤ 1000) (hte : ∀ (σ : St) (H : Hp) (n : Int) (Q : VK), σ[i]? = some (some (.int n)) → Q (.int (n - c)) H → te σ H Q) (ha : SimA G W t w) :
    SimE G W (tCallF (fun a sp => ∃ (j : Nat) (x : Str) (fs : FS), xs[j]? = some x ∧ fss[j]? = some fs ∧ a = adr mg x ∧ sp = lift G fs) (L2.WE W) (tOp (rIxL G.K) (tLst (tAs mg xs)) te) t) (wPick i c fss w) := by
  intro C Hi σ H Γ Q Qd Xd c0 hw hQ hX
  unfold wPick at hw
  split at hw
  · rename_i n e
    obtain ⟨h0, hw⟩ := hw
    split at hw
    · rename_i fs ef
      obtain ⟨v, hv, rv⟩ := c0.at_sh e
      cases rv
      have hj : (n - c).toNat < xs.length := by rw [hl]; exact (List.getElem?_eq_some_iff.mp ef).1
      refine tAs_run ⟨le_line (by simpa [hl] using h10), fun p hp => hte _ _ n _ hv ?_⟩
      have ex := List.getElem?_eq_getElem hj
      refine ⟨p, xs.map fun y => .ref (adr mg y), n - c, .ref (adr mg xs[(n - c).toNat]), rfl, rfl, SqL.of upd_same, ?_, adr mg xs[(n - c).toNat], lift G fs, rfl, ⟨_, _, fs, ex, ef, rfl, rfl⟩, ?_⟩
      · unfold atI ixN
        rw [List.length_map, if_pos h0, if_pos (by omega)]
        show (xs.map fun y => V.ref (adr mg y))[(n - c).toNat]? = _
        rw [List.getElem?_map, ex]; rfl
      · have c1 := c0.grow (Ext.new hp (o := .lst (xs.map fun y => .ref (adr mg y)))) (Ext.refl _) (c0.imm.trans (Ext.new hp)) fun _ _ z => .inl z
        exact (sim_callS ha) C Hi σ _ Γ Q Qd Xd c1 hw hQ hX
    · exact hw.elim
  · exact hw.elim
theorem de_pick0 {le : List Expr} {xs : List Str} {fss : List FS} {x : Str} (hK : X.K = G.K) (i : Nat) (hr : Room k X.A) (tk : L2N.Takes X W) (df : DF X G k mg le xs fss) (ha : DA X G W (e :: es) t w) (h10 : fss.length ≤ 1000 := by decide) (hN : X.N[i]? = some x := by rfl)
    (hv : Vis X.env.scope x := by first | exact Or.inl rfl | exact Or.inr (Or.inl rfl) | exact Or.inr (Or.inr rfl)) (hd : (x == ("__debug__" : Str)) = false := by decide) (hcd : (x == ("__classdict__" : Str)) = false := by decide) (hs : PlainIx (.Name x p2) := by intro _ _; rfl)
    {q1 q2 : Pos} (ht : eval (.Call (.Subscript (.List le q1) (.Name x p2) q2) (e :: es) [] pos) X.env = (do callWith pos (← eval (.Subscript (.List le q1) (.Name x p2) q2) X.env) [] (backTo pos (starEach (e :: es) X.env)) (backToKw pos (keywordEach [] X.env))) := by rfl)
    (he : starEach (e :: es) X.env = (false, eval e X.env) :: starEach es X.env := by rfl) (hpl : (backTo pos (starEach es X.env)).any (·.1) = false := by rfl) :
    DE X G W (.Call (.Subscript (.List le q1) (.Name x p2) q2) (e :: es) [] pos) (tCallF (fun a sp => ∃ (j : Nat) (x : Str) (fs : FS), xs[j]? = some x ∧ fss[j]? = some fs ∧ a = adr mg x ∧ sp = lift G fs) (L2.WE W) (tOp (rIxL G.K) (tLst (tAs mg xs)) (tVar i)) t) (wPick i 0 fss w) :=
  ⟨pe_callF (pe_ix (by rw [← hK]; exact ix_list) (pe_lst df.pa) (pe_var hN hv hd hcd) hs) (fun f sp ⟨j, y, fs, h1, h2, h3, h4⟩ => by subst h3 h4; exact df.ok j y fs h1 h2) hr tk ha.pe ht he hpl,
    sim_pick i df.ln h10 (fun σ H n Q h q => ⟨_, h, by rw [Int.sub_zero] at q; exact q⟩) ha.sim⟩
theorem de_pick {le : List Expr} {xs : List Str} {fss : List FS} {x : Str} {c : Int} {jj : Nat} (hK : X.K = G.K) (i : Nat) (hr : Room k X.A) (tk : L2N.Takes X W) (df : DF X G k mg le xs fss) (ha : DA X G W (e :: es) t w) (h10 : fss.length ≤ 1000 := by decide) (hN : X.N[i]? = some x := by rfl)
    (hv : Vis X.env.scope x := by first | exact Or.inl rfl | exact Or.inr (Or.inl rfl) | exact Or.inr (Or.inr rfl)) (hd : (x == ("__debug__" : Str)) = false := by decide) (hcd : (x == ("__classdict__" : Str)) = false := by decide) {p3 p4 : Pos} (hs : PlainIx (.BinOp (.Name x p2) .Sub (.Constant (.int c) jj p3) p4) := by intro _ _; rfl)
    {q1 q2 : Pos} (ht : eval (.Call (.Subscript (.List le q1) (.BinOp (.Name x p2) .Sub (.Constant (.int c) jj p3) p4) q2) (e :: es) [] pos) X.env = (do callWith pos (← eval (.Subscript (.List le q1) (.BinOp (.Name x p2) .Sub (.Constant (.int c) jj p3) p4) q2) X.env) [] (backTo pos (starEach (e :: es) X.env)) (backToKw pos (keywordEach [] X.env))) := by rfl)
    (he : starEach (e :: es) X.env = (false, eval e X.env) :: starEach es X.env := by rfl) (hpl : (backTo pos (starEach es X.env)).any (·.1) = false := by rfl) :
    DE X G W (.Call (.Subscript (.List le q1) (.BinOp (.Name x p2) .Sub (.Constant (.int c) jj p3) p4) q2) (e :: es) [] pos) (tCallF (fun a sp => ∃ (j : Nat) (x : Str) (fs : FS), xs[j]? = some x ∧ fss[j]? = some fs ∧ a = adr mg x ∧ sp = lift G fs) (L2.WE W) (tOp (rIxL G.K) (tLst (tAs mg xs)) (tOp (rI0 fun i j => .int (i - j)) (tVar i) (tC (.int c)))) t) (wPick i c fss w) :=
  ⟨pe_callF (pe_ix (by rw [← hK]; exact ix_list) (pe_lst df.pa) (pe_op op_sub (pe_var hN hv hd hcd) pe_int) hs) (fun f sp ⟨j, y, fs, h1, h2, h3, h4⟩ => by subst h3 h4; exact df.ok j y fs h1 h2) hr tk ha.pe ht he hpl,
    sim_pick i df.ln h10 (fun σ H n Q h q => ⟨_, h, n, c, rfl, rfl, q⟩) ha.sim⟩
end
def slPick (c : Int) (k : Int → Prop) : Sl → Prop
  | .sh (.int n) => 0 ≤ n - c ∧ k (n - c)
  | _ => False
@[simp ↓] theorem ev_wPick (i : Nat) (c : Int) (fss : List FS) (wa : WA) (Γ : Ev) (Q : R → Ev → Prop) (X : XW) : wPick i c fss wa Γ Q X = getS Γ i fun s => slPick c (fun m => match fss[m.toNat]? with
    | some fs => wCall fs [] wa Γ Q X
    | none => False) s := by
  rw [getS_at]
  unfold wPick
  cases Γ[i]? with
  | none => rfl
  | some s =>
    cases s with
    | sh d => cases d <;> rfl
    | _ => rfl
@[simp ↓] theorem slPick_i (c n : Int) (k : Int → Prop) : slPick c k (.sh (.int n)) = (0 ≤ n - c ∧ k (n - c)) := rfl
end VL

set_option Elab.async false
set_option linter.all false
set_option maxRecDepth 100000
set_option maxHeartbeats 400000
/-! K39d: the text of law k39, each def's derivation (by gen.py). -/
namespace K39
open PySem L2 VL SC
/-! ### the text -/
def top (i : Nat) : Stmt := PySem.Challenge.pw_wornsigns_k39_whole_weights_and_counts.main.body.getD i (.Pass ⟨0, 0, 0, 0⟩)
abbrev s_mark_indices : Stmt := top 18
abbrev N_mark_indices : List Str := ["score", "index", "item"]
theorem sc_mark_indices : FnScope N_mark_indices ["score"] (defScope s_mark_indices) := ⟨rfl, rfl, rfl, by decide +kernel, rfl, by decide +kernel, by decide +kernel⟩
abbrev s_segment_starts : Stmt := top 19
abbrev N_segment_starts : List Str := ["score", "marks", "index", "item"]
theorem sc_segment_starts : FnScope N_segment_starts ["score"] (defScope s_segment_starts) := ⟨rfl, rfl, rfl, by decide +kernel, rfl, by decide +kernel, by decide +kernel⟩
abbrev s_arrival_times : Stmt := top 20
abbrev N_arrival_times : List Str := ["score", "starts", "times", "index", "item", "now"]
theorem sc_arrival_times : FnScope N_arrival_times ["score"] (defScope s_arrival_times) := ⟨rfl, rfl, rfl, by decide +kernel, rfl, by decide +kernel, by decide +kernel⟩
abbrev s_find_state : Stmt := top 24
abbrev N_find_state : List Str := ["score", "time", "starts", "times", "active", "index", "length", "counter", "number"]
theorem sc_find_state : FnScope N_find_state ["score", "time"] (defScope s_find_state) := ⟨rfl, rfl, rfl, by decide +kernel, rfl, by decide +kernel, by decide +kernel⟩
abbrev s_is_integer : Stmt := top 13
abbrev N_is_integer : List Str := ["value", "low", "high"]
theorem sc_is_integer : FnScope N_is_integer ["value", "low", "high"] (defScope s_is_integer) := ⟨rfl, rfl, rfl, by decide +kernel, rfl, by decide +kernel, by decide +kernel⟩
abbrev s_is_name : Stmt := top 14
abbrev N_is_name : List Str := ["value", "letter"]
theorem sc_is_name : FnScope N_is_name ["value"] (defScope s_is_name) := ⟨rfl, rfl, rfl, by decide +kernel, rfl, by decide +kernel, by decide +kernel⟩
abbrev s_is_item : Stmt := top 15
abbrev N_is_item : List Str := ["value", "marks"]
theorem sc_is_item : FnScope N_is_item ["value", "marks"] (defScope s_is_item) := ⟨rfl, rfl, rfl, by decide +kernel, rfl, by decide +kernel, by decide +kernel⟩
abbrev s_is_score : Stmt := top 16
abbrev N_is_score : List Str := ["value", "marks", "index", "item"]
theorem sc_is_score : FnScope N_is_score ["value"] (defScope s_is_score) := ⟨rfl, rfl, rfl, by decide +kernel, rfl, by decide +kernel, by decide +kernel⟩
abbrev s_require_score : Stmt := top 17
abbrev N_require_score : List Str := ["score"]
theorem sc_require_score : FnScope N_require_score ["score"] (defScope s_require_score) := ⟨rfl, rfl, rfl, by decide +kernel, rfl, by decide +kernel, by decide +kernel⟩
abbrev s_require_time_to : Stmt := top 22
abbrev N_require_time_to : List Str := ["time", "last"]
theorem sc_require_time_to : FnScope N_require_time_to ["time", "last"] (defScope s_require_time_to) := ⟨rfl, rfl, rfl, by decide +kernel, rfl, by decide +kernel, by decide +kernel⟩
abbrev s_bar_at : Stmt := top 25
abbrev N_bar_at : List Str := ["score", "time"]
theorem sc_bar_at : FnScope N_bar_at ["score", "time"] (defScope s_bar_at) := ⟨rfl, rfl, rfl, by decide +kernel, rfl, by decide +kernel, by decide +kernel⟩
abbrev s_item_containing : Stmt := top 32
abbrev N_item_containing : List Str := ["sums", "amount", "index"]
theorem sc_item_containing : FnScope N_item_containing ["sums", "amount"] (defScope s_item_containing) := ⟨rfl, rfl, rfl, by decide +kernel, rfl, by decide +kernel, by decide +kernel⟩
abbrev s_locate : Stmt := top 34
abbrev N_locate : List Str := ["score", "sums", "amount", "times", "starts", "time", "remaining", "index", "start", "copies"]
theorem sc_locate : FnScope N_locate ["score", "sums", "amount"] (defScope s_locate) := ⟨rfl, rfl, rfl, by decide +kernel, rfl, by decide +kernel, by decide +kernel⟩
abbrev s_require_weights : Stmt := top 38
abbrev N_require_weights : List Str := ["weights", "name"]
theorem sc_require_weights : FnScope N_require_weights ["weights"] (defScope s_require_weights) := ⟨rfl, rfl, rfl, by decide +kernel, rfl, by decide +kernel, by decide +kernel⟩
abbrev s_accumulate : Stmt := top 30
abbrev N_accumulate : List Str := ["score", "values", "sums", "starts", "index", "item", "added"]
theorem sc_accumulate : FnScope N_accumulate ["score", "values"] (defScope s_accumulate) := ⟨rfl, rfl, rfl, by decide +kernel, rfl, by decide +kernel, by decide +kernel⟩
abbrev s_weight_sums : Stmt := top 39
abbrev N_weight_sums : List Str := ["score", "weights", "item"]
theorem sc_weight_sums : FnScope N_weight_sums ["score", "weights"] (defScope s_weight_sums) := ⟨rfl, rfl, rfl, by decide +kernel, rfl, by decide +kernel, by decide +kernel⟩
abbrev s_locate_weight : Stmt := top 42
abbrev N_locate_weight : List Str := ["score", "weights", "weight", "sums"]
theorem sc_locate_weight : FnScope N_locate_weight ["score", "weights", "weight"] (defScope s_locate_weight) := ⟨rfl, rfl, rfl, by decide +kernel, rfl, by decide +kernel, by decide +kernel⟩
abbrev s_require_time : Stmt := top 23
abbrev N_require_time : List Str := ["score", "time"]
theorem sc_require_time : FnScope N_require_time ["score", "time"] (defScope s_require_time) := ⟨rfl, rfl, rfl, by decide +kernel, rfl, by decide +kernel, by decide +kernel⟩
abbrev s_sum_before : Stmt := top 33
abbrev N_sum_before : List Str := ["score", "sums", "time", "times", "starts", "total", "remaining", "index", "start", "copies", "rest"]
theorem sc_sum_before : FnScope N_sum_before ["score", "sums", "time"] (defScope s_sum_before) := ⟨rfl, rfl, rfl, by decide +kernel, rfl, by decide +kernel, by decide +kernel⟩
abbrev s_weight_before : Stmt := top 41
abbrev N_weight_before : List Str := ["score", "weights", "time"]
theorem sc_weight_before : FnScope N_weight_before ["score", "weights", "time"] (defScope s_weight_before) := ⟨rfl, rfl, rfl, by decide +kernel, rfl, by decide +kernel, by decide +kernel⟩
abbrev s_law_back_right : Stmt := top 54
abbrev N_law_back_right : List Str := ["_law_items", "_law_loads_here", "_law_amount", "_law_at", "_law_rest"]
theorem sc_law_back_right : FnScope N_law_back_right ["_law_items", "_law_loads_here", "_law_amount"] (defScope s_law_back_right) := ⟨rfl, rfl, rfl, by decide +kernel, rfl, by decide +kernel, by decide +kernel⟩
abbrev s_law_bars : Stmt := top 51
abbrev N_law_bars : List Str := ["_law_items", "_law_index", "_law_item"]
theorem sc_law_bars : FnScope N_law_bars ["_law_items"] (defScope s_law_bars) := ⟨rfl, rfl, rfl, by decide +kernel, rfl, by decide +kernel, by decide +kernel⟩
abbrev s_law_draw : Stmt := top 48
abbrev N_law_draw : List Str := ["_law_stream_here", "_law_limit", "_law_found", "_law_mixed"]
theorem sc_law_draw : FnScope N_law_draw ["_law_stream_here", "_law_limit"] (defScope s_law_draw) := ⟨rfl, rfl, rfl, by decide +kernel, rfl, by decide +kernel, by decide +kernel⟩
abbrev s_law_loads : Stmt := top 52
abbrev N_law_loads : List Str := ["_law_stream_here", "_law_items", "_law_found", "_law_item"]
theorem sc_law_loads : FnScope N_law_loads ["_law_stream_here", "_law_items"] (defScope s_law_loads) := ⟨rfl, rfl, rfl, by decide +kernel, rfl, by decide +kernel, by decide +kernel⟩
abbrev s_law_name : Stmt := top 49
abbrev N_law_name : List Str := ["_law_stream_here", "_law_few", "_law_letters", "_law_letter"]
theorem sc_law_name : FnScope N_law_name ["_law_stream_here", "_law_few"] (defScope s_law_name) := ⟨rfl, rfl, rfl, by decide +kernel, rfl, by decide +kernel, by decide +kernel⟩
abbrev s_law_score : Stmt := top 50
abbrev N_law_score : List Str := ["_law_stream_here", "_law_most", "_law_cap", "_law_items", "_law_marked", "_law_length", "_law_empty", "_law_few", "_law_turn", "_law_way", "_law_name_here", "_law_jumps", "_law_known", "_law_own", "_law_added"]
theorem sc_law_score : FnScope N_law_score ["_law_stream_here", "_law_most", "_law_cap"] (defScope s_law_score) := ⟨rfl, rfl, rfl, by decide +kernel, rfl, by decide +kernel, by decide +kernel⟩
abbrev s_law_stream : Stmt := top 47
abbrev N_law_stream : List Str := ["_law_script", "_law_k", "_law_cell"]
theorem sc_law_stream : FnScope N_law_stream ["_law_script", "_law_k"] (defScope s_law_stream) := ⟨rfl, rfl, rfl, by decide +kernel, rfl, by decide +kernel, by decide +kernel⟩
abbrev s_indicator : Stmt := top 31
abbrev N_indicator : List Str := ["score", "bar", "index"]
theorem sc_indicator : FnScope N_indicator ["score", "bar"] (defScope s_indicator) := ⟨rfl, rfl, rfl, by decide +kernel, rfl, by decide +kernel, by decide +kernel⟩
abbrev s_require_bar : Stmt := top 28
abbrev N_require_bar : List Str := ["score", "bar"]
theorem sc_require_bar : FnScope N_require_bar ["score", "bar"] (defScope s_require_bar) := ⟨rfl, rfl, rfl, by decide +kernel, rfl, by decide +kernel, by decide +kernel⟩
abbrev s_plays_before : Stmt := top 35
abbrev N_plays_before : List Str := ["score", "bar", "time"]
theorem sc_plays_before : FnScope N_plays_before ["score", "bar", "time"] (defScope s_plays_before) := ⟨rfl, rfl, rfl, by decide +kernel, rfl, by decide +kernel, by decide +kernel⟩
abbrev s_law_sums_right : Stmt := top 53
abbrev N_law_sums_right : List Str := ["_law_items", "_law_loads_here", "_law_at", "_law_bars_here", "_law_due", "_law_ones", "_law_more", "_law_index", "_law_name_here"]
theorem sc_law_sums_right : FnScope N_law_sums_right ["_law_items", "_law_loads_here", "_law_at"] (defScope s_law_sums_right) := ⟨rfl, rfl, rfl, by decide +kernel, rfl, by decide +kernel, by decide +kernel⟩
abbrev s_count_visits : Stmt := top 27
abbrev N_count_visits : List Str := ["score", "counts", "deductions", "item", "count"]
theorem sc_count_visits : FnScope N_count_visits ["score"] (defScope s_count_visits) := ⟨rfl, rfl, rfl, by decide +kernel, rfl, by decide +kernel, by decide +kernel⟩
abbrev s_play_count : Stmt := top 29
abbrev N_play_count : List Str := ["score", "bar"]
theorem sc_play_count : FnScope N_play_count ["score", "bar"] (defScope s_play_count) := ⟨rfl, rfl, rfl, by decide +kernel, rfl, by decide +kernel, by decide +kernel⟩
abbrev s_length_of : Stmt := top 44
abbrev N_length_of : List Str := ["score"]
theorem sc_length_of : FnScope N_length_of ["score"] (defScope s_length_of) := ⟨rfl, rfl, rfl, by decide +kernel, rfl, by decide +kernel, by decide +kernel⟩
abbrev s_total_length : Stmt := top 45
abbrev N_total_length : List Str := ["score"]
theorem sc_total_length : FnScope N_total_length ["score"] (defScope s_total_length) := ⟨rfl, rfl, rfl, by decide +kernel, rfl, by decide +kernel, by decide +kernel⟩
abbrev s_total_weight : Stmt := top 40
abbrev N_total_weight : List Str := ["score", "weights"]
theorem sc_total_weight : FnScope N_total_weight ["score", "weights"] (defScope s_total_weight) := ⟨rfl, rfl, rfl, by decide +kernel, rfl, by decide +kernel, by decide +kernel⟩
abbrev s_law : Stmt := top 55
abbrev N_law : List Str := ["_law_script", "_law_k", "_law_stream_here", "_law_items", "_law_loads_here", "_law_letter", "_law_other", "_law_full", "_law_heavy", "_law_due", "_law_at", "_law_turn", "_law_amount", "_law_index"]
theorem sc_law : FnScope N_law ["_law_script"] (defScope s_law) := ⟨rfl, rfl, rfl, by decide +kernel, rfl, by decide +kernel, by decide +kernel⟩
/-- what the text finds in its module -/
structure Ms (mg : Str → Option Value) : Prop where
  f_all : mg "all" = none
  f_bool : mg "bool" = none
  f_dict : mg "dict" = none
  f_divmod : mg "divmod" = none
  f_enumerate : mg "enumerate" = none
  f_int : mg "int" = none
  f_isinstance : mg "isinstance" = none
  f_len : mg "len" = none
  f_list : mg "list" = none
  f_max : mg "max" = none
  f_min : mg "min" = none
  f_range : mg "range" = none
  f_reversed : mg "reversed" = none
  f_sorted : mg "sorted" = none
  f_str : mg "str" = none
  f_sum : mg "sum" = none
  f_tuple : mg "tuple" = none
  c_BAR : ∃ t, mg "BAR" = some (.str "bar" t)
  c_LETTERS : ∃ t, mg "LETTERS" = some (.str "abcdefghijklmnopqrstuvwxyz" t)
  c_MARK : ∃ t, mg "MARK" = some (.str "mark" t)
  c_MAX_NAME_LENGTH : ∃ t, mg "MAX_NAME_LENGTH" = some (.int 8 t)
  c_MAX_WEIGHT : ∃ t, mg "MAX_WEIGHT" = some (.int 1000000000000 t)
  c_REPEAT : ∃ t, mg "REPEAT" = some (.str "repeat" t)
theorem d_mark_indices {P : Program} {w : World} {K : Fg} {mg : Str → Option Value} {base : Heap} {ca : Str → Addr} {f : Addr} (M : Ms mg)  (cdv : Value) (A : Around) (outer : List Env) (s : Shared) (H : Hp) (E : XK)
    (hr : Room 0 (A.deeper (PyProof.Rows.envOfC "mark_indices" (defScope s_mark_indices) s.heap.objs.size f cdv))) : ∃ t, PSs (cxOf (L2N.CX P w) P w K mg base N_mark_indices "mark_indices" (defScope s_mark_indices) f cdv A outer s H E) (defBody s_mark_indices) t ∧ SimS ⟨K, OpS K, ca⟩ (fun c d _ H => E c d H) t w_mark_indices := by
  have hu := hu65 hr
  have tk : L2N.Takes (cxOf (L2N.CX P w) P w K mg base N_mark_indices "mark_indices" (defScope s_mark_indices) f cdv A outer s H E) (fun c d _ H => E c d H) := L2N.takes_of rfl rfl rfl rfl
  suffices h : ∃ t, DB (cxOf (L2N.CX P w) P w K mg base N_mark_indices "mark_indices" (defScope s_mark_indices) f cdv A outer s H E) ⟨K, OpS K, ca⟩ (fun c d _ H => E c d H) (defBody s_mark_indices) t w_mark_indices from let ⟨t, h⟩ := h; ⟨t, h.pe, h.sim⟩
  exact ⟨_, (db_one (ds_ret (de_dc (own := [("index", 1), ("item", 2)]) rfl sc_mark_indices.nd (di_enum rfl M.f_enumerate (da_cons (dv 0) da_nil)) (blkOk_by (N := N_mark_indices) (sc := defScope s_mark_indices) (by decide +kernel)) (by decide) (fun _ _ _ _ _ => (dgw_tup (n := 2) rfl rfl (dgsw_cons (dgw_name 1 sc_mark_indices.nd) (dgsw_cons (dgw_name 2 sc_mark_indices.nd) dgsw_nil)))) (fun _ _ _ _ _ => (dts_one (dt_cmp (c_eq rfl hu) (de_ix rfl hu (dv 2) de_int) (de_gstr M.c_MARK)))) (fun _ _ _ _ _ => (de_ix rfl hu (dv 2) de_int)) (fun _ _ _ _ _ => (dv 1)))))⟩
theorem d_segment_starts {P : Program} {w : World} {K : Fg} {mg : Str → Option Value} {base : Heap} {ca : Str → Addr} {f : Addr} (M : Ms mg) (g_mark_indices : Gd P w ⟨K, OpS K, ca⟩ mg base 1 "mark_indices" fs_mark_indices ["score"] []) (cdv : Value) (A : Around) (outer : List Env) (s : Shared) (H : Hp) (E : XK)
    (hr : Room 1 (A.deeper (PyProof.Rows.envOfC "segment_starts" (defScope s_segment_starts) s.heap.objs.size f cdv))) : ∃ t, PSs (cxOf (L2N.CX P w) P w K mg base N_segment_starts "segment_starts" (defScope s_segment_starts) f cdv A outer s H E) (defBody s_segment_starts) t ∧ SimS ⟨K, OpS K, ca⟩ (fun c d _ H => E c d H) t w_segment_starts := by
  have hu := hu65 hr
  have tk : L2N.Takes (cxOf (L2N.CX P w) P w K mg base N_segment_starts "segment_starts" (defScope s_segment_starts) f cdv A outer s H E) (fun c d _ H => E c d H) := L2N.takes_of rfl rfl rfl rfl
  suffices h : ∃ t, DB (cxOf (L2N.CX P w) P w K mg base N_segment_starts "segment_starts" (defScope s_segment_starts) f cdv A outer s H E) ⟨K, OpS K, ca⟩ (fun c d _ H => E c d H) (defBody s_segment_starts) t w_segment_starts from let ⟨t, h⟩ := h; ⟨t, h.pe, h.sim⟩
  exact ⟨_, (db_cons (ds_set 1 sc_segment_starts.nd (de_call rfl g_mark_indices hr tk (da_cons (dv 0) da_nil)))
      (db_one (ds_ret (de_dc (own := [("index", 2), ("item", 3)]) rfl sc_segment_starts.nd (di_enum rfl M.f_enumerate (da_cons (dv 0) da_nil)) (blkOk_by (N := N_segment_starts) (sc := defScope s_segment_starts) (by decide +kernel)) (by decide) (fun _ _ _ _ _ => (dgw_tup (n := 2) rfl rfl (dgsw_cons (dgw_name 2 sc_segment_starts.nd) (dgsw_cons (dgw_name 3 sc_segment_starts.nd) dgsw_nil)))) (fun _ _ _ _ _ => (dts_one (dt_cmp (c_eq rfl hu) (de_ix rfl hu (dv 3) de_int) (de_gstr M.c_REPEAT)))) (fun _ _ _ _ _ => (dv 2)) (fun _ _ _ _ _ => (de_add rfl (de_ix rfl hu (dv 1) (de_ix rfl hu (dv 3) de_int)) de_int))))))⟩
theorem d_arrival_times {P : Program} {w : World} {K : Fg} {mg : Str → Option Value} {base : Heap} {ca : Str → Addr} {f : Addr} (M : Ms mg) (g_segment_starts : Gd P w ⟨K, OpS K, ca⟩ mg base 2 "segment_starts" fs_segment_starts ["score"] []) (cdv : Value) (A : Around) (outer : List Env) (s : Shared) (H : Hp) (E : XK)
    (hr : Room 2 (A.deeper (PyProof.Rows.envOfC "arrival_times" (defScope s_arrival_times) s.heap.objs.size f cdv))) : ∃ t, PSs (cxOf (L2N.CX P w) P w K mg base N_arrival_times "arrival_times" (defScope s_arrival_times) f cdv A outer s H E) (defBody s_arrival_times) t ∧ SimS ⟨K, OpS K, ca⟩ (fun c d _ H => E c d H) t w_arrival_times := by
  have hu := hu65 hr
  have tk : L2N.Takes (cxOf (L2N.CX P w) P w K mg base N_arrival_times "arrival_times" (defScope s_arrival_times) f cdv A outer s H E) (fun c d _ H => E c d H) := L2N.takes_of rfl rfl rfl rfl
  suffices h : ∃ t, DB (cxOf (L2N.CX P w) P w K mg base N_arrival_times "arrival_times" (defScope s_arrival_times) f cdv A outer s H E) ⟨K, OpS K, ca⟩ (fun c d _ H => E c d H) (defBody s_arrival_times) t w_arrival_times from let ⟨t, h⟩ := h; ⟨t, h.pe, h.sim⟩
  exact ⟨_, (db_cons (ds_set 1 sc_arrival_times.nd (de_call rfl g_segment_starts hr tk (da_cons (dv 0) da_nil)))
      (db_cons (ds_set 2 sc_arrival_times.nd (de_lst (da_cons de_int da_nil)))
      (db_cons (ds_for .leaving rfl (di_enum rfl M.f_enumerate (da_cons (dv 0) da_nil)) (dg_tup (n := 2) rfl rfl (dgs_cons (dg_name 3 sc_arrival_times.nd) (dgs_cons (dg_name 4 sc_arrival_times.nd) dgs_nil))) (db_cons (ds_set 5 sc_arrival_times.nd (de_ix rfl hu (dv 2) (de_neg de_int)))
      (db_one (ds_if (dt_cmp (c_eq rfl hu) (de_ix rfl hu (dv 4) de_int) (de_gstr M.c_REPEAT)) (db_one (ds_expr (de_append rfl 2 (de_add rfl (dv 5) (de_mul (de_ix rfl hu (dv 4) de_int) (de_sub (dv 5) (de_ix rfl hu (dv 2) (de_ix rfl hu (dv 1) (dv 3))))))))) (db_one (ds_expr (de_append rfl 2 (de_add rfl (dv 5) (de_t (t_int) M.f_int (da_cons (de_cmp (c_eq rfl hu) (de_ix rfl hu (dv 4) de_int) (de_gstr M.c_BAR)) da_nil))))))))))
      (db_one (ds_ret (dv 2))))))⟩
theorem d_find_state {P : Program} {w : World} {K : Fg} {mg : Str → Option Value} {base : Heap} {ca : Str → Addr} {f : Addr} (M : Ms mg) (g_arrival_times : Gd P w ⟨K, OpS K, ca⟩ mg base 3 "arrival_times" fs_arrival_times ["score"] []) (g_segment_starts : Gd P w ⟨K, OpS K, ca⟩ mg base 3 "segment_starts" fs_segment_starts ["score"] []) (cdv : Value) (A : Around) (outer : List Env) (s : Shared) (H : Hp) (E : XK)
    (hr : Room 3 (A.deeper (PyProof.Rows.envOfC "find_state" (defScope s_find_state) s.heap.objs.size f cdv))) : ∃ t, PSs (cxOf (L2N.CX P w) P w K mg base N_find_state "find_state" (defScope s_find_state) f cdv A outer s H E) (defBody s_find_state) t ∧ SimS ⟨K, OpS K, ca⟩ (fun c d _ H => E c d H) t w_find_state := by
  have hu := hu65 hr
  have tk : L2N.Takes (cxOf (L2N.CX P w) P w K mg base N_find_state "find_state" (defScope s_find_state) f cdv A outer s H E) (fun c d _ H => E c d H) := L2N.takes_of rfl rfl rfl rfl
  suffices h : ∃ t, DB (cxOf (L2N.CX P w) P w K mg base N_find_state "find_state" (defScope s_find_state) f cdv A outer s H E) ⟨K, OpS K, ca⟩ (fun c d _ H => E c d H) (defBody s_find_state) t w_find_state from let ⟨t, h⟩ := h; ⟨t, h.pe, h.sim⟩
  exact ⟨_, (db_cons (pg_names (is := [2, 3]) rfl rfl (dl_cons (de_call rfl g_segment_starts hr tk (da_cons (dv 0) da_nil)) (dl_cons (de_call rfl g_arrival_times hr tk (da_cons (dv 0) da_nil)) dl_nil)) (pgs_cons (pg_name (i := 2) sc_find_state.nd rfl (by first | exact .inl rfl | exact .inr rfl)) (pgs_cons (pg_name (i := 3) sc_find_state.nd rfl (by first | exact .inl rfl | exact .inr rfl)) pgs_nil)) rfl (by decide))
      (db_cons (ds_if (dt_cmp (c_eq rfl hu) (dv 1) (de_ix rfl hu (dv 3) (de_neg de_int))) (db_one (ds_ret (de_tup (da_cons (de_b (b_len rfl) M.f_len (da_cons (dv 0) da_nil)) (da_cons (de_lst da_nil) da_nil))))) db_nil)
      (db_cons (ds_set 4 sc_find_state.nd (de_lst da_nil))
      (db_one (ds_while .leaving (dt_val de_bl) (db_cons (ds_set 5 sc_find_state.nd (de_ix rfl hu (de_lc (own := [("number", 8)]) rfl sc_find_state.nd (di_range1 M.f_range (da_cons (de_b (b_len rfl) M.f_len (da_cons (dv 0) da_nil)) da_nil)) (blkOk_by (N := N_find_state) (sc := defScope s_find_state) (by decide +kernel)) (by decide) (fun _ _ _ _ _ => (dgw_name 8 sc_find_state.nd)) (fun _ _ _ _ _ => (dts_one (dt_cmp c_gt (de_ix rfl hu (dv 3) (de_add rfl (dv 8) de_int)) (dv 1)))) (fun _ _ _ _ _ => (dv 8))) de_int))
      (db_cons (ds_if (dt_cmp (c_eq rfl hu) (de_ix rfl hu (de_ix rfl hu (dv 0) (dv 5)) de_int) (de_gstr M.c_BAR)) (db_one (ds_ret (de_tup (da_cons (dv 5) (da_cons (de_revL rfl (dv 4)) da_nil))))) db_nil)
      (db_cons (ds_set 6 sc_find_state.nd (de_sub (de_ix rfl hu (dv 3) (dv 5)) (de_ix rfl hu (dv 3) (de_ix rfl hu (dv 2) (dv 5)))))
      (db_cons (ds_set 7 sc_find_state.nd (de_add rfl (de_fdiv (de_sub (dv 1) (de_ix rfl hu (dv 3) (dv 5))) (dv 6)) de_int))
      (db_cons (ds_expr (de_append rfl 4 (de_tup (da_cons (dv 5) (da_cons (dv 7) da_nil)))))
      (db_one (ds_augS 1 sc_find_state.nd (de_mul (dv 7) (dv 6))))))))))))))⟩
theorem d_is_integer {P : Program} {w : World} {K : Fg} {mg : Str → Option Value} {base : Heap} {ca : Str → Addr} {f : Addr} (M : Ms mg)  (cdv : Value) (A : Around) (outer : List Env) (s : Shared) (H : Hp) (E : XK)
    (hr : Room 0 (A.deeper (PyProof.Rows.envOfC "is_integer" (defScope s_is_integer) s.heap.objs.size f cdv))) : ∃ t, PSs (cxOf (L2N.CX P w) P w K mg base N_is_integer "is_integer" (defScope s_is_integer) f cdv A outer s H E) (defBody s_is_integer) t ∧ SimS ⟨K, OpS K, ca⟩ (fun c d _ H => E c d H) t w_is_integer := by
  have hu := hu65 hr
  have tk : L2N.Takes (cxOf (L2N.CX P w) P w K mg base N_is_integer "is_integer" (defScope s_is_integer) f cdv A outer s H E) (fun c d _ H => E c d H) := L2N.takes_of rfl rfl rfl rfl
  suffices h : ∃ t, DB (cxOf (L2N.CX P w) P w K mg base N_is_integer "is_integer" (defScope s_is_integer) f cdv A outer s H E) ⟨K, OpS K, ca⟩ (fun c d _ H => E c d H) (defBody s_is_integer) t w_is_integer from let ⟨t, h⟩ := h; ⟨t, h.pe, h.sim⟩
  exact ⟨_, (db_cons (ds_if (dt_chn (dw_or (dt_not (dt_val (de_isi rfl kit_int M.f_isinstance M.f_int (dv 0)))) (dw_or (dt_val (de_isi rfl kit_bool M.f_isinstance M.f_bool (dv 0))) (dw_or1 (dt_cmp c_lt (dv 0) (dv 1)))))) (db_one (ds_ret de_bl)) db_nil)
      (db_one (ds_ret (de_or (de_cmp c_isN (dv 2) de_non) (de_one (de_cmp c_le (dv 0) (dv 2)))))))⟩
theorem d_is_name {P : Program} {w : World} {K : Fg} {mg : Str → Option Value} {base : Heap} {ca : Str → Addr} {f : Addr} (M : Ms mg)  (cdv : Value) (A : Around) (outer : List Env) (s : Shared) (H : Hp) (E : XK)
    (hr : Room 0 (A.deeper (PyProof.Rows.envOfC "is_name" (defScope s_is_name) s.heap.objs.size f cdv))) : ∃ t, PSs (cxOf (L2N.CX P w) P w K mg base N_is_name "is_name" (defScope s_is_name) f cdv A outer s H E) (defBody s_is_name) t ∧ SimS ⟨K, OpS K, ca⟩ (fun c d _ H => E c d H) t w_is_name := by
  have hu := hu65 hr
  have tk : L2N.Takes (cxOf (L2N.CX P w) P w K mg base N_is_name "is_name" (defScope s_is_name) f cdv A outer s H E) (fun c d _ H => E c d H) := L2N.takes_of rfl rfl rfl rfl
  suffices h : ∃ t, DB (cxOf (L2N.CX P w) P w K mg base N_is_name "is_name" (defScope s_is_name) f cdv A outer s H E) ⟨K, OpS K, ca⟩ (fun c d _ H => E c d H) (defBody s_is_name) t w_is_name from let ⟨t, h⟩ := h; ⟨t, h.pe, h.sim⟩
  exact ⟨_, (db_cons (ds_if (dt_chn (dw_or (dt_not (dt_val (de_isi rfl kit_str M.f_isinstance M.f_str (dv 0)))) (dw_or1 (dt_not (dt_chain c_le c_le de_int (de_b (b_len rfl) M.f_len (da_cons (dv 0) da_nil)) (de_gint M.c_MAX_NAME_LENGTH)))))) (db_one (ds_ret de_bl)) db_nil)
      (db_one (ds_ret (de_b (b_all rfl rfl) M.f_all (da_cons (de_lc (own := [("letter", 1)]) rfl sc_is_name.nd (di_str (dv 0)) (blkOk_by (N := N_is_name) (sc := defScope s_is_name) (by decide +kernel)) (by decide) (fun _ _ _ _ _ => (dgw_name 1 sc_is_name.nd)) (fun _ _ _ _ _ => dts_nil) (fun _ _ _ _ _ => (de_cmp (c_in rfl hu) (dv 1) (de_gstr M.c_LETTERS)))) da_nil)))))⟩
theorem d_is_item {P : Program} {w : World} {K : Fg} {mg : Str → Option Value} {base : Heap} {ca : Str → Addr} {f : Addr} (M : Ms mg) (g_is_integer_0 : Gd P w ⟨K, OpS K, ca⟩ mg base 1 "is_integer" fs_is_integer ["value", "low", "high"] []) (g_is_integer_1 : Gd P w ⟨K, OpS K, ca⟩ mg base 1 "is_integer" fs_is_integer ["value", "low", "high"] [.non]) (g_is_name : Gd P w ⟨K, OpS K, ca⟩ mg base 1 "is_name" fs_is_name ["value"] []) (cdv : Value) (A : Around) (outer : List Env) (s : Shared) (H : Hp) (E : XK)
    (hr : Room 1 (A.deeper (PyProof.Rows.envOfC "is_item" (defScope s_is_item) s.heap.objs.size f cdv))) : ∃ t, PSs (cxOf (L2N.CX P w) P w K mg base N_is_item "is_item" (defScope s_is_item) f cdv A outer s H E) (defBody s_is_item) t ∧ SimS ⟨K, OpS K, ca⟩ (fun c d _ H => E c d H) t w_is_item := by
  have hu := hu65 hr
  have tk : L2N.Takes (cxOf (L2N.CX P w) P w K mg base N_is_item "is_item" (defScope s_is_item) f cdv A outer s H E) (fun c d _ H => E c d H) := L2N.takes_of rfl rfl rfl rfl
  suffices h : ∃ t, DB (cxOf (L2N.CX P w) P w K mg base N_is_item "is_item" (defScope s_is_item) f cdv A outer s H E) ⟨K, OpS K, ca⟩ (fun c d _ H => E c d H) (defBody s_is_item) t w_is_item from let ⟨t, h⟩ := h; ⟨t, h.pe, h.sim⟩
  exact ⟨_, (db_cons (ds_if (dt_chn (dw_or (dt_not (dt_val (de_isi rfl kit_tuple M.f_isinstance M.f_tuple (dv 0)))) (dw_or (dt_cmp (c_notin rfl hu) (de_b (b_len rfl) M.f_len (da_cons (dv 0) da_nil)) (de_tup (da_cons de_int (da_cons de_int da_nil)))) (dw_or1 (dt_not (dt_val (de_call rfl g_is_name hr tk (da_cons (de_ix rfl hu (dv 0) de_int) da_nil)))))))) (db_one (ds_ret de_bl)) db_nil)
      (db_cons (ds_if (dt_cmp (c_eq rfl hu) (de_b (b_len rfl) M.f_len (da_cons (dv 0) da_nil)) de_int) (db_one (ds_ret (de_and (de_cmp (c_eq rfl hu) (de_ix rfl hu (dv 0) de_int) (de_gstr M.c_REPEAT)) (de_and (de_cmp (c_in rfl hu) (de_ix rfl hu (dv 0) de_int) (dv 1)) (de_one (de_callD rfl g_is_integer_1 hr tk (fun _ => .cons .non (.nil)) (da_cons (de_ix rfl hu (dv 0) de_int) (da_cons de_int da_nil)))))))) db_nil)
      (db_one (ds_ret (de_or (de_cmp (c_eq rfl hu) (de_ix rfl hu (dv 0) de_int) (de_gstr M.c_BAR)) (de_one (de_and (de_cmp (c_eq rfl hu) (de_ix rfl hu (dv 0) de_int) (de_gstr M.c_MARK)) (de_one (de_cmp (c_notin rfl hu) (de_ix rfl hu (dv 0) de_int) (dv 1))))))))))⟩
theorem d_is_score {P : Program} {w : World} {K : Fg} {mg : Str → Option Value} {base : Heap} {ca : Str → Addr} {f : Addr} (M : Ms mg) (g_is_item : Gd P w ⟨K, OpS K, ca⟩ mg base 2 "is_item" fs_is_item ["value", "marks"] []) (cdv : Value) (A : Around) (outer : List Env) (s : Shared) (H : Hp) (E : XK)
    (hr : Room 2 (A.deeper (PyProof.Rows.envOfC "is_score" (defScope s_is_score) s.heap.objs.size f cdv))) : ∃ t, PSs (cxOf (L2N.CX P w) P w K mg base N_is_score "is_score" (defScope s_is_score) f cdv A outer s H E) (defBody s_is_score) t ∧ SimS ⟨K, OpS K, ca⟩ (fun c d _ H => E c d H) t w_is_score := by
  have hu := hu65 hr
  have tk : L2N.Takes (cxOf (L2N.CX P w) P w K mg base N_is_score "is_score" (defScope s_is_score) f cdv A outer s H E) (fun c d _ H => E c d H) := L2N.takes_of rfl rfl rfl rfl
  suffices h : ∃ t, DB (cxOf (L2N.CX P w) P w K mg base N_is_score "is_score" (defScope s_is_score) f cdv A outer s H E) ⟨K, OpS K, ca⟩ (fun c d _ H => E c d H) (defBody s_is_score) t w_is_score from let ⟨t, h⟩ := h; ⟨t, h.pe, h.sim⟩
  exact ⟨_, (db_cons (ds_if (dt_not (dt_val (de_isi rfl kit_list M.f_isinstance M.f_list (dv 0)))) (db_one (ds_ret de_bl)) db_nil)
      (db_cons (ds_set 1 sc_is_score.nd de_dict0)
      (db_cons (ds_for .leaving rfl (di_enum rfl M.f_enumerate (da_cons (dv 0) da_nil)) (dg_tup (n := 2) rfl rfl (dgs_cons (dg_name 2 sc_is_score.nd) (dgs_cons (dg_name 3 sc_is_score.nd) dgs_nil))) (db_cons (ds_if (dt_not (dt_val (de_callB rfl g_is_item hr tk (da_cons (dv 3) (da_cons (dv 1) da_nil))))) (db_one (ds_ret de_bl)) db_nil)
      (db_one (ds_if (dt_cmp (c_eq rfl hu) (de_ix rfl hu (dv 3) de_int) (de_gstr M.c_MARK)) (db_one (ds_dput hu 1 (de_ix rfl hu (dv 3) de_int) (dv 2))) db_nil))))
      (db_one (ds_ret de_bl)))))⟩
theorem d_require_score {P : Program} {w : World} {K : Fg} {mg : Str → Option Value} {base : Heap} {ca : Str → Addr} {f : Addr} (M : Ms mg) (g_is_score : Gd P w ⟨K, OpS K, ca⟩ mg base 3 "is_score" fs_is_score ["value"] []) (cdv : Value) (A : Around) (outer : List Env) (s : Shared) (H : Hp) (E : XK)
    (hr : Room 3 (A.deeper (PyProof.Rows.envOfC "require_score" (defScope s_require_score) s.heap.objs.size f cdv))) : ∃ t, PSs (cxOf (L2N.CX P w) P w K mg base N_require_score "require_score" (defScope s_require_score) f cdv A outer s H E) (defBody s_require_score) t ∧ SimS ⟨K, OpS K, ca⟩ (fun c d _ H => E c d H) t w_require_score := by
  have hu := hu65 hr
  have tk : L2N.Takes (cxOf (L2N.CX P w) P w K mg base N_require_score "require_score" (defScope s_require_score) f cdv A outer s H E) (fun c d _ H => E c d H) := L2N.takes_of rfl rfl rfl rfl
  suffices h : ∃ t, DB (cxOf (L2N.CX P w) P w K mg base N_require_score "require_score" (defScope s_require_score) f cdv A outer s H E) ⟨K, OpS K, ca⟩ (fun c d _ H => E c d H) (defBody s_require_score) t w_require_score from let ⟨t, h⟩ := h; ⟨t, h.pe, h.sim⟩
  exact ⟨_, (db_one (ds_if (dt_not (dt_val (de_call rfl g_is_score hr tk (da_cons (dv 0) da_nil)))) (db_one ds_never) db_nil))⟩
theorem d_require_time_to {P : Program} {w : World} {K : Fg} {mg : Str → Option Value} {base : Heap} {ca : Str → Addr} {f : Addr} (M : Ms mg) (g_is_integer_0 : Gd P w ⟨K, OpS K, ca⟩ mg base 1 "is_integer" fs_is_integer ["value", "low", "high"] []) (g_is_integer_1 : Gd P w ⟨K, OpS K, ca⟩ mg base 1 "is_integer" fs_is_integer ["value", "low", "high"] [.non]) (cdv : Value) (A : Around) (outer : List Env) (s : Shared) (H : Hp) (E : XK)
    (hr : Room 1 (A.deeper (PyProof.Rows.envOfC "require_time_to" (defScope s_require_time_to) s.heap.objs.size f cdv))) : ∃ t, PSs (cxOf (L2N.CX P w) P w K mg base N_require_time_to "require_time_to" (defScope s_require_time_to) f cdv A outer s H E) (defBody s_require_time_to) t ∧ SimS ⟨K, OpS K, ca⟩ (fun c d _ H => E c d H) t w_require_time_to := by
  have hu := hu65 hr
  have tk : L2N.Takes (cxOf (L2N.CX P w) P w K mg base N_require_time_to "require_time_to" (defScope s_require_time_to) f cdv A outer s H E) (fun c d _ H => E c d H) := L2N.takes_of rfl rfl rfl rfl
  suffices h : ∃ t, DB (cxOf (L2N.CX P w) P w K mg base N_require_time_to "require_time_to" (defScope s_require_time_to) f cdv A outer s H E) ⟨K, OpS K, ca⟩ (fun c d _ H => E c d H) (defBody s_require_time_to) t w_require_time_to from let ⟨t, h⟩ := h; ⟨t, h.pe, h.sim⟩
  exact ⟨_, (db_one (ds_if (dt_not (dt_val (de_call rfl g_is_integer_0 hr tk (da_cons (dv 0) (da_cons de_int (da_cons (dv 1) da_nil)))))) (db_one ds_never) db_nil))⟩
theorem d_bar_at {P : Program} {w : World} {K : Fg} {mg : Str → Option Value} {base : Heap} {ca : Str → Addr} {f : Addr} (M : Ms mg) (g_arrival_times : Gd P w ⟨K, OpS K, ca⟩ mg base 4 "arrival_times" fs_arrival_times ["score"] []) (g_find_state : Gd P w ⟨K, OpS K, ca⟩ mg base 4 "find_state" fs_find_state ["score", "time"] []) (g_require_score : Gd P w ⟨K, OpS K, ca⟩ mg base 4 "require_score" fs_require_score ["score"] []) (g_require_time_to : Gd P w ⟨K, OpS K, ca⟩ mg base 4 "require_time_to" fs_require_time_to ["time", "last"] []) (cdv : Value) (A : Around) (outer : List Env) (s : Shared) (H : Hp) (E : XK)
    (hr : Room 4 (A.deeper (PyProof.Rows.envOfC "bar_at" (defScope s_bar_at) s.heap.objs.size f cdv))) : ∃ t, PSs (cxOf (L2N.CX P w) P w K mg base N_bar_at "bar_at" (defScope s_bar_at) f cdv A outer s H E) (defBody s_bar_at) t ∧ SimS ⟨K, OpS K, ca⟩ (fun c d _ H => E c d H) t w_bar_at := by
  have hu := hu65 hr
  have tk : L2N.Takes (cxOf (L2N.CX P w) P w K mg base N_bar_at "bar_at" (defScope s_bar_at) f cdv A outer s H E) (fun c d _ H => E c d H) := L2N.takes_of rfl rfl rfl rfl
  suffices h : ∃ t, DB (cxOf (L2N.CX P w) P w K mg base N_bar_at "bar_at" (defScope s_bar_at) f cdv A outer s H E) ⟨K, OpS K, ca⟩ (fun c d _ H => E c d H) (defBody s_bar_at) t w_bar_at from let ⟨t, h⟩ := h; ⟨t, h.pe, h.sim⟩
  exact ⟨_, (db_cons (ds_expr (de_call rfl g_require_score hr tk (da_cons (dv 0) da_nil)))
      (db_cons (ds_expr (de_call rfl g_require_time_to hr tk (da_cons (dv 1) (da_cons (de_sub (de_ix rfl hu (de_call rfl g_arrival_times hr tk (da_cons (dv 0) da_nil)) (de_neg de_int)) de_int) da_nil))))
      (db_one (ds_ret (de_ix rfl hu (de_ix rfl hu (dv 0) (de_ix rfl hu (de_call rfl g_find_state hr tk (da_cons (dv 0) (da_cons (dv 1) da_nil))) de_int)) de_int)))))⟩
theorem d_item_containing {P : Program} {w : World} {K : Fg} {mg : Str → Option Value} {base : Heap} {ca : Str → Addr} {f : Addr} (M : Ms mg)  (cdv : Value) (A : Around) (outer : List Env) (s : Shared) (H : Hp) (E : XK)
    (hr : Room 0 (A.deeper (PyProof.Rows.envOfC "item_containing" (defScope s_item_containing) s.heap.objs.size f cdv))) : ∃ t, PSs (cxOf (L2N.CX P w) P w K mg base N_item_containing "item_containing" (defScope s_item_containing) f cdv A outer s H E) (defBody s_item_containing) t ∧ SimS ⟨K, OpS K, ca⟩ (fun c d _ H => E c d H) t w_item_containing := by
  have hu := hu65 hr
  have tk : L2N.Takes (cxOf (L2N.CX P w) P w K mg base N_item_containing "item_containing" (defScope s_item_containing) f cdv A outer s H E) (fun c d _ H => E c d H) := L2N.takes_of rfl rfl rfl rfl
  suffices h : ∃ t, DB (cxOf (L2N.CX P w) P w K mg base N_item_containing "item_containing" (defScope s_item_containing) f cdv A outer s H E) ⟨K, OpS K, ca⟩ (fun c d _ H => E c d H) (defBody s_item_containing) t w_item_containing from let ⟨t, h⟩ := h; ⟨t, h.pe, h.sim⟩
  exact ⟨_, (db_cons (ds_set 2 sc_item_containing.nd (de_sub (de_b (b_len rfl) M.f_len (da_cons (dv 0) da_nil)) de_int))
      (db_cons (ds_while .leaving (dt_cmp c_gt (de_ix rfl hu (dv 0) (dv 2)) (dv 1)) (db_one (ds_augS 2 sc_item_containing.nd de_int)))
      (db_one (ds_ret (dv 2)))))⟩
theorem d_locate {P : Program} {w : World} {K : Fg} {mg : Str → Option Value} {base : Heap} {ca : Str → Addr} {f : Addr} (M : Ms mg) (g_arrival_times : Gd P w ⟨K, OpS K, ca⟩ mg base 3 "arrival_times" fs_arrival_times ["score"] []) (g_item_containing : Gd P w ⟨K, OpS K, ca⟩ mg base 3 "item_containing" fs_item_containing ["sums", "amount"] []) (g_segment_starts : Gd P w ⟨K, OpS K, ca⟩ mg base 3 "segment_starts" fs_segment_starts ["score"] []) (cdv : Value) (A : Around) (outer : List Env) (s : Shared) (H : Hp) (E : XK)
    (hr : Room 3 (A.deeper (PyProof.Rows.envOfC "locate" (defScope s_locate) s.heap.objs.size f cdv))) : ∃ t, PSs (cxOf (L2N.CX P w) P w K mg base N_locate "locate" (defScope s_locate) f cdv A outer s H E) (defBody s_locate) t ∧ SimS ⟨K, OpS K, ca⟩ (fun c d _ H => E c d H) t w_locate := by
  have hu := hu65 hr
  have tk : L2N.Takes (cxOf (L2N.CX P w) P w K mg base N_locate "locate" (defScope s_locate) f cdv A outer s H E) (fun c d _ H => E c d H) := L2N.takes_of rfl rfl rfl rfl
  suffices h : ∃ t, DB (cxOf (L2N.CX P w) P w K mg base N_locate "locate" (defScope s_locate) f cdv A outer s H E) ⟨K, OpS K, ca⟩ (fun c d _ H => E c d H) (defBody s_locate) t w_locate from let ⟨t, h⟩ := h; ⟨t, h.pe, h.sim⟩
  exact ⟨_, (db_cons (ds_par 3 4 rfl sc_locate.nd (dl_cons (de_call rfl g_arrival_times hr tk (da_cons (dv 0) da_nil)) (dl_cons (de_call rfl g_segment_starts hr tk (da_cons (dv 0) da_nil)) dl_nil)))
      (db_cons (ds_set 5 sc_locate.nd de_int)
      (db_cons (ds_set 6 sc_locate.nd (dv 2))
      (db_one (ds_while .leaving (dt_val de_bl) (db_cons (ds_set 7 sc_locate.nd (de_call rfl g_item_containing hr tk (da_cons (dv 1) (da_cons (dv 6) da_nil))))
      (db_cons (ds_augA 5 sc_locate.nd (de_ix rfl hu (dv 3) (dv 7)))
      (db_cons (ds_augS 6 sc_locate.nd (de_ix rfl hu (dv 1) (dv 7)))
      (db_cons (ds_if (dt_cmp (c_eq rfl hu) (de_ix rfl hu (de_ix rfl hu (dv 0) (dv 7)) de_int) (de_gstr M.c_BAR)) (db_one (ds_ret (de_tup (da_cons (dv 5) (da_cons (dv 6) da_nil))))) db_nil)
      (db_cons (ds_set 8 sc_locate.nd (de_ix rfl hu (dv 4) (dv 7)))
      (db_cons (ds_asg (de_b (b_divm) M.f_divmod (da_cons (dv 6) (da_cons (de_sub (de_ix rfl hu (dv 1) (dv 7)) (de_ix rfl hu (dv 1) (dv 8))) da_nil))) (dg_tup (n := 2) rfl rfl (dgs_cons (dg_name 9 sc_locate.nd) (dgs_cons (dg_name 6 sc_locate.nd) dgs_nil))))
      (db_cons (ds_augA 5 sc_locate.nd (de_sub (de_mul (dv 9) (de_sub (de_ix rfl hu (dv 3) (dv 7)) (de_ix rfl hu (dv 3) (dv 8)))) (de_ix rfl hu (dv 3) (dv 8))))
      (db_one (ds_augA 6 sc_locate.nd (de_ix rfl hu (dv 1) (dv 8))))))))))))))))⟩
theorem d_require_weights {P : Program} {w : World} {K : Fg} {mg : Str → Option Value} {base : Heap} {ca : Str → Addr} {f : Addr} (M : Ms mg) (g_is_integer_0 : Gd P w ⟨K, OpS K, ca⟩ mg base 1 "is_integer" fs_is_integer ["value", "low", "high"] []) (g_is_integer_1 : Gd P w ⟨K, OpS K, ca⟩ mg base 1 "is_integer" fs_is_integer ["value", "low", "high"] [.non]) (g_is_name : Gd P w ⟨K, OpS K, ca⟩ mg base 1 "is_name" fs_is_name ["value"] []) (cdv : Value) (A : Around) (outer : List Env) (s : Shared) (H : Hp) (E : XK)
    (hr : Room 1 (A.deeper (PyProof.Rows.envOfC "require_weights" (defScope s_require_weights) s.heap.objs.size f cdv))) : ∃ t, PSs (cxOf (L2N.CX P w) P w K mg base N_require_weights "require_weights" (defScope s_require_weights) f cdv A outer s H E) (defBody s_require_weights) t ∧ SimS ⟨K, OpS K, ca⟩ (fun c d _ H => E c d H) t w_require_weights := by
  have hu := hu65 hr
  have tk : L2N.Takes (cxOf (L2N.CX P w) P w K mg base N_require_weights "require_weights" (defScope s_require_weights) f cdv A outer s H E) (fun c d _ H => E c d H) := L2N.takes_of rfl rfl rfl rfl
  suffices h : ∃ t, DB (cxOf (L2N.CX P w) P w K mg base N_require_weights "require_weights" (defScope s_require_weights) f cdv A outer s H E) ⟨K, OpS K, ca⟩ (fun c d _ H => E c d H) (defBody s_require_weights) t w_require_weights from let ⟨t, h⟩ := h; ⟨t, h.pe, h.sim⟩
  exact ⟨_, (db_cons (ds_if (dt_not (dt_val (de_isi rfl kit_dict M.f_isinstance M.f_dict (dv 0)))) (db_one ds_never) db_nil)
      (db_one (ds_if (dt_not (dt_val (de_b (b_all rfl rfl) M.f_all (da_cons (de_lcK 0 (own := [("name", 1)]) rfl sc_require_weights.nd  (blkOk_by (N := N_require_weights) (sc := defScope s_require_weights) (by decide +kernel)) (by decide) (fun _ _ _ _ _ => (dgw_name 1 sc_require_weights.nd)) (fun _ _ _ _ _ => dts_nil) (fun _ _ _ _ _ => (de_and (de_call rfl g_is_name hr takes0N (da_cons (dv 1) da_nil)) (de_one (de_call rfl g_is_integer_0 hr takes0N (da_cons (de_ix rfl hu (dv 0) (dv 1)) (da_cons de_int (da_cons (de_gint M.c_MAX_WEIGHT) da_nil)))))))) da_nil)))) (db_one ds_never) db_nil)))⟩
theorem d_accumulate {P : Program} {w : World} {K : Fg} {mg : Str → Option Value} {base : Heap} {ca : Str → Addr} {f : Addr} (M : Ms mg) (g_segment_starts : Gd P w ⟨K, OpS K, ca⟩ mg base 2 "segment_starts" fs_segment_starts ["score"] []) (cdv : Value) (A : Around) (outer : List Env) (s : Shared) (H : Hp) (E : XK)
    (hr : Room 2 (A.deeper (PyProof.Rows.envOfC "accumulate" (defScope s_accumulate) s.heap.objs.size f cdv))) : ∃ t, PSs (cxOf (L2N.CX P w) P w K mg base N_accumulate "accumulate" (defScope s_accumulate) f cdv A outer s H E) (defBody s_accumulate) t ∧ SimS ⟨K, OpS K, ca⟩ (fun c d _ H => E c d H) t w_accumulate := by
  have hu := hu65 hr
  have tk : L2N.Takes (cxOf (L2N.CX P w) P w K mg base N_accumulate "accumulate" (defScope s_accumulate) f cdv A outer s H E) (fun c d _ H => E c d H) := L2N.takes_of rfl rfl rfl rfl
  suffices h : ∃ t, DB (cxOf (L2N.CX P w) P w K mg base N_accumulate "accumulate" (defScope s_accumulate) f cdv A outer s H E) ⟨K, OpS K, ca⟩ (fun c d _ H => E c d H) (defBody s_accumulate) t w_accumulate from let ⟨t, h⟩ := h; ⟨t, h.pe, h.sim⟩
  exact ⟨_, (db_cons (ds_set 2 sc_accumulate.nd (de_lst (da_cons de_int da_nil)))
      (db_cons (ds_set 3 sc_accumulate.nd (de_call rfl g_segment_starts hr tk (da_cons (dv 0) da_nil)))
      (db_cons (ds_for .leaving rfl (di_enum rfl M.f_enumerate (da_cons (dv 0) da_nil)) (dg_tup (n := 2) rfl rfl (dgs_cons (dg_name 4 sc_accumulate.nd) (dgs_cons (dg_name 5 sc_accumulate.nd) dgs_nil))) (db_cons (ds_set 6 sc_accumulate.nd (de_ix rfl hu (dv 1) (dv 4)))
      (db_cons (ds_if (dt_cmp (c_eq rfl hu) (de_ix rfl hu (dv 5) de_int) (de_gstr M.c_REPEAT)) (db_one (ds_set 6 sc_accumulate.nd (de_mul (de_ix rfl hu (dv 5) de_int) (de_sub (de_ix rfl hu (dv 2) (dv 4)) (de_ix rfl hu (dv 2) (de_ix rfl hu (dv 3) (dv 4))))))) db_nil)
      (db_one (ds_expr (de_append rfl 2 (de_add rfl (de_ix rfl hu (dv 2) (dv 4)) (dv 6))))))))
      (db_one (ds_ret (dv 2))))))⟩
theorem d_weight_sums {P : Program} {w : World} {K : Fg} {mg : Str → Option Value} {base : Heap} {ca : Str → Addr} {f : Addr} (M : Ms mg) (g_accumulate : Gd P w ⟨K, OpS K, ca⟩ mg base 3 "accumulate" fs_accumulate ["score", "values"] []) (cdv : Value) (A : Around) (outer : List Env) (s : Shared) (H : Hp) (E : XK)
    (hr : Room 3 (A.deeper (PyProof.Rows.envOfC "weight_sums" (defScope s_weight_sums) s.heap.objs.size f cdv))) : ∃ t, PSs (cxOf (L2N.CX P w) P w K mg base N_weight_sums "weight_sums" (defScope s_weight_sums) f cdv A outer s H E) (defBody s_weight_sums) t ∧ SimS ⟨K, OpS K, ca⟩ (fun c d _ H => E c d H) t w_weight_sums := by
  have hu := hu65 hr
  have tk : L2N.Takes (cxOf (L2N.CX P w) P w K mg base N_weight_sums "weight_sums" (defScope s_weight_sums) f cdv A outer s H E) (fun c d _ H => E c d H) := L2N.takes_of rfl rfl rfl rfl
  suffices h : ∃ t, DB (cxOf (L2N.CX P w) P w K mg base N_weight_sums "weight_sums" (defScope s_weight_sums) f cdv A outer s H E) ⟨K, OpS K, ca⟩ (fun c d _ H => E c d H) (defBody s_weight_sums) t w_weight_sums from let ⟨t, h⟩ := h; ⟨t, h.pe, h.sim⟩
  exact ⟨_, (db_one (ds_ret (de_call rfl g_accumulate hr tk (da_cons (dv 0) (da_cons (de_lc (own := [("item", 2)]) rfl sc_weight_sums.nd (di_list rfl (dv 0)) (blkOk_by (N := N_weight_sums) (sc := defScope s_weight_sums) (by decide +kernel)) (by decide) (fun _ _ _ _ _ => (dgw_name 2 sc_weight_sums.nd)) (fun _ _ _ _ _ => dts_nil) (fun _ _ _ _ _ => (de_if (dt_cmp (c_eq rfl hu) (de_ix rfl hu (dv 2) de_int) (de_gstr M.c_BAR)) (de_get2 hu (dv 1) (de_ix rfl hu (dv 2) de_int) de_int) de_int))) da_nil)))))⟩
theorem d_locate_weight {P : Program} {w : World} {K : Fg} {mg : Str → Option Value} {base : Heap} {ca : Str → Addr} {f : Addr} (M : Ms mg) (g_is_integer_0 : Gd P w ⟨K, OpS K, ca⟩ mg base 4 "is_integer" fs_is_integer ["value", "low", "high"] []) (g_is_integer_1 : Gd P w ⟨K, OpS K, ca⟩ mg base 4 "is_integer" fs_is_integer ["value", "low", "high"] [.non]) (g_locate : Gd P w ⟨K, OpS K, ca⟩ mg base 4 "locate" fs_locate ["score", "sums", "amount"] []) (g_require_score : Gd P w ⟨K, OpS K, ca⟩ mg base 4 "require_score" fs_require_score ["score"] []) (g_require_weights : Gd P w ⟨K, OpS K, ca⟩ mg base 4 "require_weights" fs_require_weights ["weights"] []) (g_weight_sums : Gd P w ⟨K, OpS K, ca⟩ mg base 4 "weight_sums" fs_weight_sums ["score", "weights"] []) (cdv : Value) (A : Around) (outer : List Env) (s : Shared) (H : Hp) (E : XK)
    (hr : Room 4 (A.deeper (PyProof.Rows.envOfC "locate_weight" (defScope s_locate_weight) s.heap.objs.size f cdv))) : ∃ t, PSs (cxOf (L2N.CX P w) P w K mg base N_locate_weight "locate_weight" (defScope s_locate_weight) f cdv A outer s H E) (defBody s_locate_weight) t ∧ SimS ⟨K, OpS K, ca⟩ (fun c d _ H => E c d H) t w_locate_weight := by
  have hu := hu65 hr
  have tk : L2N.Takes (cxOf (L2N.CX P w) P w K mg base N_locate_weight "locate_weight" (defScope s_locate_weight) f cdv A outer s H E) (fun c d _ H => E c d H) := L2N.takes_of rfl rfl rfl rfl
  suffices h : ∃ t, DB (cxOf (L2N.CX P w) P w K mg base N_locate_weight "locate_weight" (defScope s_locate_weight) f cdv A outer s H E) ⟨K, OpS K, ca⟩ (fun c d _ H => E c d H) (defBody s_locate_weight) t w_locate_weight from let ⟨t, h⟩ := h; ⟨t, h.pe, h.sim⟩
  exact ⟨_, (db_cons (ds_expr (de_call rfl g_require_score hr tk (da_cons (dv 0) da_nil)))
      (db_cons (ds_expr (de_call rfl g_require_weights hr tk (da_cons (dv 1) da_nil)))
      (db_cons (ds_set 3 sc_locate_weight.nd (de_call rfl g_weight_sums hr tk (da_cons (dv 0) (da_cons (dv 1) da_nil))))
      (db_cons (ds_if (dt_not (dt_val (de_call rfl g_is_integer_0 hr tk (da_cons (dv 2) (da_cons de_int (da_cons (de_sub (de_ix rfl hu (dv 3) (de_neg de_int)) de_int) da_nil)))))) (db_one ds_never) db_nil)
      (db_one (ds_ret (de_call rfl g_locate hr tk (da_cons (dv 0) (da_cons (dv 3) (da_cons (dv 2) da_nil))))))))))⟩
theorem d_require_time {P : Program} {w : World} {K : Fg} {mg : Str → Option Value} {base : Heap} {ca : Str → Addr} {f : Addr} (M : Ms mg) (g_arrival_times : Gd P w ⟨K, OpS K, ca⟩ mg base 3 "arrival_times" fs_arrival_times ["score"] []) (g_require_time_to : Gd P w ⟨K, OpS K, ca⟩ mg base 3 "require_time_to" fs_require_time_to ["time", "last"] []) (cdv : Value) (A : Around) (outer : List Env) (s : Shared) (H : Hp) (E : XK)
    (hr : Room 3 (A.deeper (PyProof.Rows.envOfC "require_time" (defScope s_require_time) s.heap.objs.size f cdv))) : ∃ t, PSs (cxOf (L2N.CX P w) P w K mg base N_require_time "require_time" (defScope s_require_time) f cdv A outer s H E) (defBody s_require_time) t ∧ SimS ⟨K, OpS K, ca⟩ (fun c d _ H => E c d H) t w_require_time := by
  have hu := hu65 hr
  have tk : L2N.Takes (cxOf (L2N.CX P w) P w K mg base N_require_time "require_time" (defScope s_require_time) f cdv A outer s H E) (fun c d _ H => E c d H) := L2N.takes_of rfl rfl rfl rfl
  suffices h : ∃ t, DB (cxOf (L2N.CX P w) P w K mg base N_require_time "require_time" (defScope s_require_time) f cdv A outer s H E) ⟨K, OpS K, ca⟩ (fun c d _ H => E c d H) (defBody s_require_time) t w_require_time from let ⟨t, h⟩ := h; ⟨t, h.pe, h.sim⟩
  exact ⟨_, (db_one (ds_expr (de_call rfl g_require_time_to hr tk (da_cons (dv 1) (da_cons (de_ix rfl hu (de_call rfl g_arrival_times hr tk (da_cons (dv 0) da_nil)) (de_neg de_int)) da_nil)))))⟩
theorem d_sum_before {P : Program} {w : World} {K : Fg} {mg : Str → Option Value} {base : Heap} {ca : Str → Addr} {f : Addr} (M : Ms mg) (g_arrival_times : Gd P w ⟨K, OpS K, ca⟩ mg base 3 "arrival_times" fs_arrival_times ["score"] []) (g_item_containing : Gd P w ⟨K, OpS K, ca⟩ mg base 3 "item_containing" fs_item_containing ["sums", "amount"] []) (g_segment_starts : Gd P w ⟨K, OpS K, ca⟩ mg base 3 "segment_starts" fs_segment_starts ["score"] []) (cdv : Value) (A : Around) (outer : List Env) (s : Shared) (H : Hp) (E : XK)
    (hr : Room 3 (A.deeper (PyProof.Rows.envOfC "sum_before" (defScope s_sum_before) s.heap.objs.size f cdv))) : ∃ t, PSs (cxOf (L2N.CX P w) P w K mg base N_sum_before "sum_before" (defScope s_sum_before) f cdv A outer s H E) (defBody s_sum_before) t ∧ SimS ⟨K, OpS K, ca⟩ (fun c d _ H => E c d H) t w_sum_before := by
  have hu := hu65 hr
  have tk : L2N.Takes (cxOf (L2N.CX P w) P w K mg base N_sum_before "sum_before" (defScope s_sum_before) f cdv A outer s H E) (fun c d _ H => E c d H) := L2N.takes_of rfl rfl rfl rfl
  suffices h : ∃ t, DB (cxOf (L2N.CX P w) P w K mg base N_sum_before "sum_before" (defScope s_sum_before) f cdv A outer s H E) ⟨K, OpS K, ca⟩ (fun c d _ H => E c d H) (defBody s_sum_before) t w_sum_before from let ⟨t, h⟩ := h; ⟨t, h.pe, h.sim⟩
  exact ⟨_, (db_cons (ds_par 3 4 rfl sc_sum_before.nd (dl_cons (de_call rfl g_arrival_times hr tk (da_cons (dv 0) da_nil)) (dl_cons (de_call rfl g_segment_starts hr tk (da_cons (dv 0) da_nil)) dl_nil)))
      (db_cons (ds_set 5 sc_sum_before.nd de_int)
      (db_cons (ds_set 6 sc_sum_before.nd (dv 2))
      (db_cons (ds_while .leaving (dt_cmp c_gt (dv 6) de_int) (db_cons (ds_set 7 sc_sum_before.nd (de_call rfl g_item_containing hr tk (da_cons (dv 3) (da_cons (de_sub (dv 6) de_int) da_nil))))
      (db_cons (ds_augA 5 sc_sum_before.nd (de_ix rfl hu (dv 1) (dv 7)))
      (db_cons (ds_if (dt_cmp (c_eq rfl hu) (de_ix rfl hu (de_ix rfl hu (dv 0) (dv 7)) de_int) (de_gstr M.c_BAR)) (db_one (ds_ret (de_sub (de_add rfl (dv 5) (de_ix rfl hu (dv 1) (de_add rfl (dv 7) de_int))) (de_ix rfl hu (dv 1) (dv 7))))) db_nil)
      (db_cons (ds_set 8 sc_sum_before.nd (de_ix rfl hu (dv 4) (dv 7)))
      (db_cons (ds_asg (de_b (b_divm) M.f_divmod (da_cons (de_sub (dv 6) (de_ix rfl hu (dv 3) (dv 7))) (da_cons (de_sub (de_ix rfl hu (dv 3) (dv 7)) (de_ix rfl hu (dv 3) (dv 8))) da_nil))) (dg_tup (n := 2) rfl rfl (dgs_cons (dg_name 9 sc_sum_before.nd) (dgs_cons (dg_name 10 sc_sum_before.nd) dgs_nil))))
      (db_cons (ds_augA 5 sc_sum_before.nd (de_sub (de_mul (dv 9) (de_sub (de_ix rfl hu (dv 1) (dv 7)) (de_ix rfl hu (dv 1) (dv 8)))) (de_ix rfl hu (dv 1) (dv 8))))
      (db_one (ds_set 6 sc_sum_before.nd (de_add rfl (de_ix rfl hu (dv 3) (dv 8)) (dv 10)))))))))))
      (db_one (ds_ret (dv 5)))))))⟩
theorem d_weight_before {P : Program} {w : World} {K : Fg} {mg : Str → Option Value} {base : Heap} {ca : Str → Addr} {f : Addr} (M : Ms mg) (g_require_score : Gd P w ⟨K, OpS K, ca⟩ mg base 4 "require_score" fs_require_score ["score"] []) (g_require_time : Gd P w ⟨K, OpS K, ca⟩ mg base 4 "require_time" fs_require_time ["score", "time"] []) (g_require_weights : Gd P w ⟨K, OpS K, ca⟩ mg base 4 "require_weights" fs_require_weights ["weights"] []) (g_sum_before : Gd P w ⟨K, OpS K, ca⟩ mg base 4 "sum_before" fs_sum_before ["score", "sums", "time"] []) (g_weight_sums : Gd P w ⟨K, OpS K, ca⟩ mg base 4 "weight_sums" fs_weight_sums ["score", "weights"] []) (cdv : Value) (A : Around) (outer : List Env) (s : Shared) (H : Hp) (E : XK)
    (hr : Room 4 (A.deeper (PyProof.Rows.envOfC "weight_before" (defScope s_weight_before) s.heap.objs.size f cdv))) : ∃ t, PSs (cxOf (L2N.CX P w) P w K mg base N_weight_before "weight_before" (defScope s_weight_before) f cdv A outer s H E) (defBody s_weight_before) t ∧ SimS ⟨K, OpS K, ca⟩ (fun c d _ H => E c d H) t w_weight_before := by
  have hu := hu65 hr
  have tk : L2N.Takes (cxOf (L2N.CX P w) P w K mg base N_weight_before "weight_before" (defScope s_weight_before) f cdv A outer s H E) (fun c d _ H => E c d H) := L2N.takes_of rfl rfl rfl rfl
  suffices h : ∃ t, DB (cxOf (L2N.CX P w) P w K mg base N_weight_before "weight_before" (defScope s_weight_before) f cdv A outer s H E) ⟨K, OpS K, ca⟩ (fun c d _ H => E c d H) (defBody s_weight_before) t w_weight_before from let ⟨t, h⟩ := h; ⟨t, h.pe, h.sim⟩
  exact ⟨_, (db_cons (ds_expr (de_call rfl g_require_score hr tk (da_cons (dv 0) da_nil)))
      (db_cons (ds_expr (de_call rfl g_require_weights hr tk (da_cons (dv 1) da_nil)))
      (db_cons (ds_expr (de_call rfl g_require_time hr tk (da_cons (dv 0) (da_cons (dv 2) da_nil))))
      (db_one (ds_ret (de_call rfl g_sum_before hr tk (da_cons (dv 0) (da_cons (de_call rfl g_weight_sums hr tk (da_cons (dv 0) (da_cons (dv 1) da_nil))) (da_cons (dv 2) da_nil)))))))))⟩
theorem d_law_back_right {P : Program} {w : World} {K : Fg} {mg : Str → Option Value} {base : Heap} {ca : Str → Addr} {f : Addr} (M : Ms mg) (g_bar_at : Gd P w ⟨K, OpS K, ca⟩ mg base 5 "bar_at" fs_bar_at ["score", "time"] []) (g_locate_weight : Gd P w ⟨K, OpS K, ca⟩ mg base 5 "locate_weight" fs_locate_weight ["score", "weights", "weight"] []) (g_weight_before : Gd P w ⟨K, OpS K, ca⟩ mg base 5 "weight_before" fs_weight_before ["score", "weights", "time"] []) (cdv : Value) (A : Around) (outer : List Env) (s : Shared) (H : Hp) (E : XK)
    (hr : Room 5 (A.deeper (PyProof.Rows.envOfC "_law_back_right" (defScope s_law_back_right) s.heap.objs.size f cdv))) : ∃ t, PSs (cxOf (L2N.CX P w) P w K mg base N_law_back_right "_law_back_right" (defScope s_law_back_right) f cdv A outer s H E) (defBody s_law_back_right) t ∧ SimS ⟨K, OpS K, ca⟩ (fun c d _ H => E c d H) t w_law_back_right := by
  have hu := hu65 hr
  have tk : L2N.Takes (cxOf (L2N.CX P w) P w K mg base N_law_back_right "_law_back_right" (defScope s_law_back_right) f cdv A outer s H E) (fun c d _ H => E c d H) := L2N.takes_of rfl rfl rfl rfl
  suffices h : ∃ t, DB (cxOf (L2N.CX P w) P w K mg base N_law_back_right "_law_back_right" (defScope s_law_back_right) f cdv A outer s H E) ⟨K, OpS K, ca⟩ (fun c d _ H => E c d H) (defBody s_law_back_right) t w_law_back_right from let ⟨t, h⟩ := h; ⟨t, h.pe, h.sim⟩
  exact ⟨_, (db_cons (ds_asg (de_call rfl g_locate_weight hr tk (da_cons (dv 0) (da_cons (dv 1) (da_cons (dv 2) da_nil)))) (dg_tup (n := 2) rfl rfl (dgs_cons (dg_name 3 sc_law_back_right.nd) (dgs_cons (dg_name 4 sc_law_back_right.nd) dgs_nil))))
      (db_cons (ds_if (dt_chn (dw_or (dt_cmp (c_ne rfl hu) (de_add rfl (de_call rfl g_weight_before hr tk (da_cons (dv 0) (da_cons (dv 1) (da_cons (dv 3) da_nil)))) (dv 4)) (dv 2)) (dw_or1 (dt_not (dt_chain c_le c_lt de_int (dv 4) (de_get2 hu (dv 1) (de_call rfl g_bar_at hr tk (da_cons (dv 0) (da_cons (dv 3) da_nil))) de_int)))))) (db_one (ds_ret de_bl)) db_nil)
      (db_one (ds_ret (de_cmp (c_eq rfl hu) (de_call rfl g_locate_weight hr tk (da_cons (dv 0) (da_cons (dv 1) (da_cons (de_sub (dv 2) (dv 4)) da_nil)))) (de_tup (da_cons (dv 3) (da_cons de_int da_nil))))))))⟩
theorem d_law_bars {P : Program} {w : World} {K : Fg} {mg : Str → Option Value} {base : Heap} {ca : Str → Addr} {f : Addr} (M : Ms mg)  (cdv : Value) (A : Around) (outer : List Env) (s : Shared) (H : Hp) (E : XK)
    (hr : Room 0 (A.deeper (PyProof.Rows.envOfC "_law_bars" (defScope s_law_bars) s.heap.objs.size f cdv))) : ∃ t, PSs (cxOf (L2N.CX P w) P w K mg base N_law_bars "_law_bars" (defScope s_law_bars) f cdv A outer s H E) (defBody s_law_bars) t ∧ SimS ⟨K, OpS K, ca⟩ (fun c d _ H => E c d H) t w_law_bars := by
  have hu := hu65 hr
  have tk : L2N.Takes (cxOf (L2N.CX P w) P w K mg base N_law_bars "_law_bars" (defScope s_law_bars) f cdv A outer s H E) (fun c d _ H => E c d H) := L2N.takes_of rfl rfl rfl rfl
  suffices h : ∃ t, DB (cxOf (L2N.CX P w) P w K mg base N_law_bars "_law_bars" (defScope s_law_bars) f cdv A outer s H E) ⟨K, OpS K, ca⟩ (fun c d _ H => E c d H) (defBody s_law_bars) t w_law_bars from let ⟨t, h⟩ := h; ⟨t, h.pe, h.sim⟩
  exact ⟨_, (db_one (ds_ret (de_lc (own := [("_law_index", 1), ("_law_item", 2)]) rfl sc_law_bars.nd (di_enum rfl M.f_enumerate (da_cons (dv 0) da_nil)) (blkOk_by (N := N_law_bars) (sc := defScope s_law_bars) (by decide +kernel)) (by decide) (fun _ _ _ _ _ => (dgw_tup (n := 2) rfl rfl (dgsw_cons (dgw_name 1 sc_law_bars.nd) (dgsw_cons (dgw_name 2 sc_law_bars.nd) dgsw_nil)))) (fun _ _ _ _ _ => (dts_one (dt_cmp (c_eq rfl hu) (de_ix rfl hu (dv 2) de_int) de_str))) (fun _ _ _ _ _ => (dv 1)))))⟩
theorem d_law_draw {P : Program} {w : World} {K : Fg} {mg : Str → Option Value} {base : Heap} {ca : Str → Addr} {f : Addr} (M : Ms mg)  (cdv : Value) (A : Around) (outer : List Env) (s : Shared) (H : Hp) (E : XK)
    (hr : Room 0 (A.deeper (PyProof.Rows.envOfC "_law_draw" (defScope s_law_draw) s.heap.objs.size f cdv))) : ∃ t, PSs (cxOf (L2N.CX P w) P w K mg base N_law_draw "_law_draw" (defScope s_law_draw) f cdv A outer s H E) (defBody s_law_draw) t ∧ SimS ⟨K, OpS K, ca⟩ (fun c d _ H => E c d H) t w_law_draw := by
  have hu := hu65 hr
  have tk : L2N.Takes (cxOf (L2N.CX P w) P w K mg base N_law_draw "_law_draw" (defScope s_law_draw) f cdv A outer s H E) (fun c d _ H => E c d H) := L2N.takes_of rfl rfl rfl rfl
  suffices h : ∃ t, DB (cxOf (L2N.CX P w) P w K mg base N_law_draw "_law_draw" (defScope s_law_draw) f cdv A outer s H E) ⟨K, OpS K, ca⟩ (fun c d _ H => E c d H) (defBody s_law_draw) t w_law_draw from let ⟨t, h⟩ := h; ⟨t, h.pe, h.sim⟩
  exact ⟨_, (db_cons (ds_if (dt_cmp c_gt (de_ix rfl hu (dv 0) de_int) de_int) (db_cons (ds_set 2 sc_law_draw.nd (de_mod (de_ix rfl hu (dv 0) de_int) (dv 1)))
      (db_cons (ds_lput 0 de_int (de_fdiv (de_ix rfl hu (dv 0) de_int) (dv 1)))
      (db_one (ds_ret (dv 2))))) db_nil)
      (db_cons (ds_lput 0 de_int (de_add rfl (de_ix rfl hu (dv 0) de_int) de_int))
      (db_cons (ds_set 3 sc_law_draw.nd (de_mod (de_pow (de_add rfl (de_ix rfl hu (dv 0) de_int) (de_mul de_int (de_ix rfl hu (dv 0) de_int))) de_int) (de_add rfl (de_pow de_int de_int) de_int)))
      (db_cons (ds_set 3 sc_law_draw.nd (de_mod (de_pow (de_add rfl (de_mul (dv 3) (de_add rfl (de_ix rfl hu (dv 0) de_int) de_int)) de_int) de_int) (de_add rfl (de_pow de_int de_int) de_int)))
      (db_one (ds_ret (de_mod (de_fdiv (dv 3) de_int) (dv 1))))))))⟩
theorem d_law_loads {P : Program} {w : World} {K : Fg} {mg : Str → Option Value} {base : Heap} {ca : Str → Addr} {f : Addr} (M : Ms mg) (g_law_draw : Gd P w ⟨K, OpS K, ca⟩ mg base 1 "_law_draw" fs_law_draw ["_law_stream_here", "_law_limit"] []) (cdv : Value) (A : Around) (outer : List Env) (s : Shared) (H : Hp) (E : XK)
    (hr : Room 1 (A.deeper (PyProof.Rows.envOfC "_law_loads" (defScope s_law_loads) s.heap.objs.size f cdv))) : ∃ t, PSs (cxOf (L2N.CX P w) P w K mg base N_law_loads "_law_loads" (defScope s_law_loads) f cdv A outer s H E) (defBody s_law_loads) t ∧ SimS ⟨K, OpS K, ca⟩ (fun c d _ H => E c d H) t w_law_loads := by
  have hu := hu65 hr
  have tk : L2N.Takes (cxOf (L2N.CX P w) P w K mg base N_law_loads "_law_loads" (defScope s_law_loads) f cdv A outer s H E) (fun c d _ H => E c d H) := L2N.takes_of rfl rfl rfl rfl
  suffices h : ∃ t, DB (cxOf (L2N.CX P w) P w K mg base N_law_loads "_law_loads" (defScope s_law_loads) f cdv A outer s H E) ⟨K, OpS K, ca⟩ (fun c d _ H => E c d H) (defBody s_law_loads) t w_law_loads from let ⟨t, h⟩ := h; ⟨t, h.pe, h.sim⟩
  exact ⟨_, (db_cons (ds_set 2 sc_law_loads.nd de_dict0)
      (db_cons (ds_for .leaving rfl (di_list rfl (de_add rfl (dv 1) (de_lst (da_cons (de_tup (da_cons de_str (da_cons de_str da_nil))) (da_cons (de_tup (da_cons de_str (da_cons de_str da_nil))) da_nil))))) (dg_name 3 sc_law_loads.nd) (db_one (ds_if (dt_cmp c_gt (de_callIo rfl 0 g_law_draw hr tk (da_cons de_int da_nil)) de_int) (db_one (ds_dput hu 2 (de_ix rfl hu (dv 3) de_int) (de_ix rfl hu (de_lst (da_cons de_int (da_cons de_int (da_cons (de_callIo rfl 0 g_law_draw hr tk (da_cons de_int da_nil)) (da_cons (de_callIo rfl 0 g_law_draw hr tk (da_cons (de_add rfl (de_pow de_int de_int) de_int) da_nil)) da_nil))))) (de_callIo rfl 0 g_law_draw hr tk (da_cons de_int da_nil))))) db_nil)))
      (db_one (ds_ret (dv 2)))))⟩
theorem d_law_name {P : Program} {w : World} {K : Fg} {mg : Str → Option Value} {base : Heap} {ca : Str → Addr} {f : Addr} (M : Ms mg) (g_law_draw : Gd P w ⟨K, OpS K, ca⟩ mg base 1 "_law_draw" fs_law_draw ["_law_stream_here", "_law_limit"] []) (cdv : Value) (A : Around) (outer : List Env) (s : Shared) (H : Hp) (E : XK)
    (hr : Room 1 (A.deeper (PyProof.Rows.envOfC "_law_name" (defScope s_law_name) s.heap.objs.size f cdv))) : ∃ t, PSs (cxOf (L2N.CX P w) P w K mg base N_law_name "_law_name" (defScope s_law_name) f cdv A outer s H E) (defBody s_law_name) t ∧ SimS ⟨K, OpS K, ca⟩ (fun c d _ H => E c d H) t w_law_name := by
  have hu := hu65 hr
  have tk : L2N.Takes (cxOf (L2N.CX P w) P w K mg base N_law_name "_law_name" (defScope s_law_name) f cdv A outer s H E) (fun c d _ H => E c d H) := L2N.takes_of rfl rfl rfl rfl
  suffices h : ∃ t, DB (cxOf (L2N.CX P w) P w K mg base N_law_name "_law_name" (defScope s_law_name) f cdv A outer s H E) ⟨K, OpS K, ca⟩ (fun c d _ H => E c d H) (defBody s_law_name) t w_law_name from let ⟨t, h⟩ := h; ⟨t, h.pe, h.sim⟩
  exact ⟨_, (db_cons (ds_set 2 sc_law_name.nd de_str)
      (db_cons (ds_set 3 sc_law_name.nd (de_ix rfl hu (dv 2) (de_callIo rfl 0 g_law_draw hr tk (da_cons (de_ix rfl hu (de_lst (da_cons (dv 1) (da_cons de_int da_nil))) (de_callIo rfl 0 g_law_draw hr tk (da_cons de_int da_nil))) da_nil))))
      (db_one (ds_ret (de_ix rfl hu (de_lst (da_cons (dv 3) (da_cons (dv 3) (da_cons (de_add rfl (dv 3) (dv 3)) (da_cons (de_add rfl de_str (dv 3)) da_nil))))) (de_callIo rfl 0 g_law_draw hr tk (da_cons de_int da_nil)))))))⟩
theorem d_law_score {P : Program} {w : World} {K : Fg} {mg : Str → Option Value} {base : Heap} {ca : Str → Addr} {f : Addr} (M : Ms mg) (g_law_draw : Gd P w ⟨K, OpS K, ca⟩ mg base 2 "_law_draw" fs_law_draw ["_law_stream_here", "_law_limit"] []) (g_law_name : Gd P w ⟨K, OpS K, ca⟩ mg base 2 "_law_name" fs_law_name ["_law_stream_here", "_law_few"] []) (cdv : Value) (A : Around) (outer : List Env) (s : Shared) (H : Hp) (E : XK)
    (hr : Room 2 (A.deeper (PyProof.Rows.envOfC "_law_score" (defScope s_law_score) s.heap.objs.size f cdv))) : ∃ t, PSs (cxOf (L2N.CX P w) P w K mg base N_law_score "_law_score" (defScope s_law_score) f cdv A outer s H E) (defBody s_law_score) t ∧ SimS ⟨K, OpS K, ca⟩ (fun c d _ H => E c d H) t w_law_score := by
  have hu := hu65 hr
  have tk : L2N.Takes (cxOf (L2N.CX P w) P w K mg base N_law_score "_law_score" (defScope s_law_score) f cdv A outer s H E) (fun c d _ H => E c d H) := L2N.takes_of rfl rfl rfl rfl
  suffices h : ∃ t, DB (cxOf (L2N.CX P w) P w K mg base N_law_score "_law_score" (defScope s_law_score) f cdv A outer s H E) ⟨K, OpS K, ca⟩ (fun c d _ H => E c d H) (defBody s_law_score) t w_law_score from let ⟨t, h⟩ := h; ⟨t, h.pe, h.sim⟩
  exact ⟨_, (db_cons (pg_names (is := [3, 4, 5, 6]) rfl rfl (dl_cons (de_lst da_nil) (dl_cons de_dict0 (dl_cons de_int (dl_cons de_int dl_nil)))) (pgs_cons (pg_name (i := 3) sc_law_score.nd rfl (by first | exact .inl rfl | exact .inr rfl)) (pgs_cons (pg_name (i := 4) sc_law_score.nd rfl (by first | exact .inl rfl | exact .inr rfl)) (pgs_cons (pg_name (i := 5) sc_law_score.nd rfl (by first | exact .inl rfl | exact .inr rfl)) (pgs_cons (pg_name (i := 6) sc_law_score.nd rfl (by first | exact .inl rfl | exact .inr rfl)) pgs_nil)))) rfl (by decide))
      (db_cons (ds_set 7 sc_law_score.nd (de_add rfl de_int (de_callIo rfl 0 g_law_draw hr tk (da_cons de_int da_nil))))
      (db_cons (ds_for .leaving rfl (di_range1 M.f_range (da_cons (de_callIo rfl 0 g_law_draw hr tk (da_cons (de_add rfl (dv 1) de_int) da_nil)) da_nil)) (dg_name 8 sc_law_score.nd) (db_cons (ds_set 9 sc_law_score.nd (de_callIo rfl 0 g_law_draw hr tk (da_cons de_int da_nil)))
      (db_cons (ds_set 10 sc_law_score.nd (de_callIo rfl 0 g_law_name hr tk (da_cons (dv 7) da_nil)))
      (db_cons (ds_set 11 sc_law_score.nd (de_ix rfl hu (de_lst (da_cons de_int (da_cons de_int (da_cons (de_add rfl de_int (de_callIo rfl 0 g_law_draw hr tk (da_cons de_int da_nil))) (da_cons (de_add rfl de_int (de_callIo rfl 0 g_law_draw hr tk (da_cons (de_sub (de_pow de_int de_int) de_int) da_nil))) da_nil))))) (de_callIo rfl 0 g_law_draw hr tk (da_cons de_int da_nil))))
      (db_cons (ds_set 12 sc_law_score.nd (de_b (b_sortDL rfl) M.f_sorted (da_cons (dv 4) da_nil)))
      (db_cons (ds_set 13 sc_law_score.nd (de_if (dt_cmp (c_ne rfl hu) (dv 12) (de_lst da_nil)) (de_ix rfl hu (dv 12) (de_callIo rfl 0 g_law_draw hr tk (da_cons (de_b (b_len rfl) M.f_len (da_cons (dv 12) da_nil)) da_nil))) de_str))
      (db_cons (ds_set 14 sc_law_score.nd (de_sub (dv 5) (de_get2 hu (dv 4) (dv 13) de_int)))
      (db_cons (ds_if (dt_chn (dw_and (dt_cmp c_gt (dv 2) de_int) (dw_and1 (dt_cmp c_gt (dv 14) de_int)))) (db_one (ds_set 11 sc_law_score.nd (de_b (b_min rfl) M.f_min (da_cons (dv 11) (da_cons (de_fdiv (de_sub (dv 2) (dv 5)) (dv 14)) da_nil))))) db_nil)
      (db_cons (ds_set 6 sc_law_score.nd (de_add rfl (dv 6) (de_t (t_int) M.f_int (da_cons (de_and (de_cmp c_gt (dv 9) de_int) (de_and (de_cmp (c_ne rfl hu) (dv 13) de_str) (de_one (de_cmp (c_eq rfl hu) (dv 14) de_int)))) da_nil))))
      (db_one (ds_if (dt_chn (dw_and (dt_cmp (c_eq rfl hu) (dv 9) de_int) (dw_and1 (dt_cmp (c_notin rfl hu) (dv 10) (dv 4))))) (db_cons (ds_expr (de_append rfl 3 (de_tup (da_cons de_str (da_cons (dv 10) da_nil)))))
      (db_one (ds_dput hu 4 (dv 10) (dv 5)))) (db_one (ds_if (dt_chn (dw_and (dt_cmp c_gt (dv 9) de_int) (dw_and (dt_cmp (c_ne rfl hu) (dv 13) de_str) (dw_and (dt_cmp c_gt (dv 11) de_int) (dw_and1 (dt_chn (dw_or (dt_cmp c_gt (dv 14) de_int) (dw_or (dt_cmp (c_eq rfl hu) (dv 2) de_int) (dw_or1 (dt_cmp c_lt (dv 6) de_int)))))))))) (db_cons (ds_expr (de_append rfl 3 (de_tup (da_cons de_str (da_cons (dv 13) (da_cons (de_if (dt_chn (dw_or (dt_cmp c_gt (dv 14) de_int) (dw_or1 (dt_cmp (c_eq rfl hu) (dv 2) de_int)))) (dv 11) de_int) da_nil))))))
      (db_one (ds_set 5 sc_law_score.nd (de_add rfl (dv 5) (de_mul (dv 11) (dv 14)))))) (db_one (ds_if (dt_chn (dw_or (dt_cmp (c_eq rfl hu) (dv 2) de_int) (dw_or1 (dt_cmp c_lt (dv 5) (dv 2))))) (db_cons (ds_expr (de_append rfl 3 (de_tup (da_cons de_str (da_cons (dv 10) da_nil)))))
      (db_one (ds_set 5 sc_law_score.nd (de_add rfl (dv 5) de_int)))) db_nil)))))))))))))))
      (db_one (ds_ret (dv 3))))))⟩
theorem d_law_stream {P : Program} {w : World} {K : Fg} {mg : Str → Option Value} {base : Heap} {ca : Str → Addr} {f : Addr} (M : Ms mg)  (cdv : Value) (A : Around) (outer : List Env) (s : Shared) (H : Hp) (E : XK)
    (hr : Room 0 (A.deeper (PyProof.Rows.envOfC "_law_stream" (defScope s_law_stream) s.heap.objs.size f cdv))) : ∃ t, PSs (cxOf (L2N.CX P w) P w K mg base N_law_stream "_law_stream" (defScope s_law_stream) f cdv A outer s H E) (defBody s_law_stream) t ∧ SimS ⟨K, OpS K, ca⟩ (fun c d _ H => E c d H) t w_law_stream := by
  have hu := hu65 hr
  have tk : L2N.Takes (cxOf (L2N.CX P w) P w K mg base N_law_stream "_law_stream" (defScope s_law_stream) f cdv A outer s H E) (fun c d _ H => E c d H) := L2N.takes_of rfl rfl rfl rfl
  suffices h : ∃ t, DB (cxOf (L2N.CX P w) P w K mg base N_law_stream "_law_stream" (defScope s_law_stream) f cdv A outer s H E) ⟨K, OpS K, ca⟩ (fun c d _ H => E c d H) (defBody s_law_stream) t w_law_stream from let ⟨t, h⟩ := h; ⟨t, h.pe, h.sim⟩
  exact ⟨_, (db_cons (ds_set 2 sc_law_stream.nd de_int)
      (db_cons (ds_if (dt_cmp c_lt (dv 1) (de_lenS rfl rfl 0 M.f_len)) (db_one (ds_set 2 sc_law_stream.nd (de_ixS rfl rfl hu 0 (dv 1)))) db_nil)
      (db_one (ds_ret (de_lst (da_cons (de_b (b_max rfl) M.f_max (da_cons de_int (da_cons (de_sub (dv 2) (de_pow de_int de_int)) da_nil))) (da_cons (de_add rfl (de_add rfl (de_mul (de_mod (dv 2) (de_add rfl (de_pow de_int de_int) de_int)) de_int) (dv 1)) de_int) (da_cons de_int da_nil))))))))⟩
theorem d_indicator {P : Program} {w : World} {K : Fg} {mg : Str → Option Value} {base : Heap} {ca : Str → Addr} {f : Addr} (M : Ms mg)  (cdv : Value) (A : Around) (outer : List Env) (s : Shared) (H : Hp) (E : XK)
    (hr : Room 0 (A.deeper (PyProof.Rows.envOfC "indicator" (defScope s_indicator) s.heap.objs.size f cdv))) : ∃ t, PSs (cxOf (L2N.CX P w) P w K mg base N_indicator "indicator" (defScope s_indicator) f cdv A outer s H E) (defBody s_indicator) t ∧ SimS ⟨K, OpS K, ca⟩ (fun c d _ H => E c d H) t w_indicator := by
  have hu := hu65 hr
  have tk : L2N.Takes (cxOf (L2N.CX P w) P w K mg base N_indicator "indicator" (defScope s_indicator) f cdv A outer s H E) (fun c d _ H => E c d H) := L2N.takes_of rfl rfl rfl rfl
  suffices h : ∃ t, DB (cxOf (L2N.CX P w) P w K mg base N_indicator "indicator" (defScope s_indicator) f cdv A outer s H E) ⟨K, OpS K, ca⟩ (fun c d _ H => E c d H) (defBody s_indicator) t w_indicator from let ⟨t, h⟩ := h; ⟨t, h.pe, h.sim⟩
  exact ⟨_, (db_one (ds_ret (de_lc (own := [("index", 2)]) rfl sc_indicator.nd (di_range1 M.f_range (da_cons (de_b (b_len rfl) M.f_len (da_cons (dv 0) da_nil)) da_nil)) (blkOk_by (N := N_indicator) (sc := defScope s_indicator) (by decide +kernel)) (by decide) (fun _ _ _ _ _ => (dgw_name 2 sc_indicator.nd)) (fun _ _ _ _ _ => dts_nil) (fun _ _ _ _ _ => (de_t (t_int) M.f_int (da_cons (de_cmp (c_eq rfl hu) (dv 2) (dv 1)) da_nil))))))⟩
theorem d_require_bar {P : Program} {w : World} {K : Fg} {mg : Str → Option Value} {base : Heap} {ca : Str → Addr} {f : Addr} (M : Ms mg) (g_is_integer_0 : Gd P w ⟨K, OpS K, ca⟩ mg base 1 "is_integer" fs_is_integer ["value", "low", "high"] []) (g_is_integer_1 : Gd P w ⟨K, OpS K, ca⟩ mg base 1 "is_integer" fs_is_integer ["value", "low", "high"] [.non]) (cdv : Value) (A : Around) (outer : List Env) (s : Shared) (H : Hp) (E : XK)
    (hr : Room 1 (A.deeper (PyProof.Rows.envOfC "require_bar" (defScope s_require_bar) s.heap.objs.size f cdv))) : ∃ t, PSs (cxOf (L2N.CX P w) P w K mg base N_require_bar "require_bar" (defScope s_require_bar) f cdv A outer s H E) (defBody s_require_bar) t ∧ SimS ⟨K, OpS K, ca⟩ (fun c d _ H => E c d H) t w_require_bar := by
  have hu := hu65 hr
  have tk : L2N.Takes (cxOf (L2N.CX P w) P w K mg base N_require_bar "require_bar" (defScope s_require_bar) f cdv A outer s H E) (fun c d _ H => E c d H) := L2N.takes_of rfl rfl rfl rfl
  suffices h : ∃ t, DB (cxOf (L2N.CX P w) P w K mg base N_require_bar "require_bar" (defScope s_require_bar) f cdv A outer s H E) ⟨K, OpS K, ca⟩ (fun c d _ H => E c d H) (defBody s_require_bar) t w_require_bar from let ⟨t, h⟩ := h; ⟨t, h.pe, h.sim⟩
  exact ⟨_, (db_one (ds_if (dt_chn (dw_or (dt_not (dt_val (de_call rfl g_is_integer_0 hr tk (da_cons (dv 1) (da_cons de_int (da_cons (de_sub (de_b (b_len rfl) M.f_len (da_cons (dv 0) da_nil)) de_int) da_nil)))))) (dw_or1 (dt_cmp (c_ne rfl hu) (de_ix rfl hu (de_ix rfl hu (dv 0) (dv 1)) de_int) (de_gstr M.c_BAR))))) (db_one ds_never) db_nil))⟩
theorem d_plays_before {P : Program} {w : World} {K : Fg} {mg : Str → Option Value} {base : Heap} {ca : Str → Addr} {f : Addr} (M : Ms mg) (g_accumulate : Gd P w ⟨K, OpS K, ca⟩ mg base 4 "accumulate" fs_accumulate ["score", "values"] []) (g_indicator : Gd P w ⟨K, OpS K, ca⟩ mg base 4 "indicator" fs_indicator ["score", "bar"] []) (g_require_bar : Gd P w ⟨K, OpS K, ca⟩ mg base 4 "require_bar" fs_require_bar ["score", "bar"] []) (g_require_score : Gd P w ⟨K, OpS K, ca⟩ mg base 4 "require_score" fs_require_score ["score"] []) (g_require_time : Gd P w ⟨K, OpS K, ca⟩ mg base 4 "require_time" fs_require_time ["score", "time"] []) (g_sum_before : Gd P w ⟨K, OpS K, ca⟩ mg base 4 "sum_before" fs_sum_before ["score", "sums", "time"] []) (cdv : Value) (A : Around) (outer : List Env) (s : Shared) (H : Hp) (E : XK)
    (hr : Room 4 (A.deeper (PyProof.Rows.envOfC "plays_before" (defScope s_plays_before) s.heap.objs.size f cdv))) : ∃ t, PSs (cxOf (L2N.CX P w) P w K mg base N_plays_before "plays_before" (defScope s_plays_before) f cdv A outer s H E) (defBody s_plays_before) t ∧ SimS ⟨K, OpS K, ca⟩ (fun c d _ H => E c d H) t w_plays_before := by
  have hu := hu65 hr
  have tk : L2N.Takes (cxOf (L2N.CX P w) P w K mg base N_plays_before "plays_before" (defScope s_plays_before) f cdv A outer s H E) (fun c d _ H => E c d H) := L2N.takes_of rfl rfl rfl rfl
  suffices h : ∃ t, DB (cxOf (L2N.CX P w) P w K mg base N_plays_before "plays_before" (defScope s_plays_before) f cdv A outer s H E) ⟨K, OpS K, ca⟩ (fun c d _ H => E c d H) (defBody s_plays_before) t w_plays_before from let ⟨t, h⟩ := h; ⟨t, h.pe, h.sim⟩
  exact ⟨_, (db_cons (ds_expr (de_call rfl g_require_score hr tk (da_cons (dv 0) da_nil)))
      (db_cons (ds_expr (de_call rfl g_require_bar hr tk (da_cons (dv 0) (da_cons (dv 1) da_nil))))
      (db_cons (ds_expr (de_call rfl g_require_time hr tk (da_cons (dv 0) (da_cons (dv 2) da_nil))))
      (db_one (ds_ret (de_call rfl g_sum_before hr tk (da_cons (dv 0) (da_cons (de_call rfl g_accumulate hr tk (da_cons (dv 0) (da_cons (de_call rfl g_indicator hr tk (da_cons (dv 0) (da_cons (dv 1) da_nil))) da_nil))) (da_cons (dv 2) da_nil)))))))))⟩
theorem d_law_sums_right {P : Program} {w : World} {K : Fg} {mg : Str → Option Value} {base : Heap} {ca : Str → Addr} {f : Addr} (M : Ms mg) (g_law_bars : Gd P w ⟨K, OpS K, ca⟩ mg base 5 "_law_bars" fs_law_bars ["_law_items"] []) (g_plays_before : Gd P w ⟨K, OpS K, ca⟩ mg base 5 "plays_before" fs_plays_before ["score", "bar", "time"] []) (g_weight_before : Gd P w ⟨K, OpS K, ca⟩ mg base 5 "weight_before" fs_weight_before ["score", "weights", "time"] []) (cdv : Value) (A : Around) (outer : List Env) (s : Shared) (H : Hp) (E : XK)
    (hr : Room 5 (A.deeper (PyProof.Rows.envOfC "_law_sums_right" (defScope s_law_sums_right) s.heap.objs.size f cdv))) : ∃ t, PSs (cxOf (L2N.CX P w) P w K mg base N_law_sums_right "_law_sums_right" (defScope s_law_sums_right) f cdv A outer s H E) (defBody s_law_sums_right) t ∧ SimS ⟨K, OpS K, ca⟩ (fun c d _ H => E c d H) t w_law_sums_right := by
  have hu := hu65 hr
  have tk : L2N.Takes (cxOf (L2N.CX P w) P w K mg base N_law_sums_right "_law_sums_right" (defScope s_law_sums_right) f cdv A outer s H E) (fun c d _ H => E c d H) := L2N.takes_of rfl rfl rfl rfl
  suffices h : ∃ t, DB (cxOf (L2N.CX P w) P w K mg base N_law_sums_right "_law_sums_right" (defScope s_law_sums_right) f cdv A outer s H E) ⟨K, OpS K, ca⟩ (fun c d _ H => E c d H) (defBody s_law_sums_right) t w_law_sums_right from let ⟨t, h⟩ := h; ⟨t, h.pe, h.sim⟩
  exact ⟨_, (db_cons (ds_set 3 sc_law_sums_right.nd (de_call rfl g_law_bars hr tk (da_cons (dv 0) da_nil)))
      (db_cons (ds_set 4 sc_law_sums_right.nd (de_b (b_sum rfl rfl) M.f_sum (da_cons (de_lc (own := [("_law_index", 7)]) rfl sc_law_sums_right.nd (di_list rfl (dv 3)) (blkOk_by (N := N_law_sums_right) (sc := defScope s_law_sums_right) (by decide +kernel)) (by decide) (fun _ _ _ _ _ => (dgw_name 7 sc_law_sums_right.nd)) (fun _ _ _ _ _ => dts_nil) (fun _ _ _ _ _ => (de_mul (de_call rfl g_plays_before hr takes0N (da_cons (dv 0) (da_cons (dv 7) (da_cons (dv 2) da_nil)))) (de_get2 hu (dv 1) (de_ix rfl hu (de_ix rfl hu (dv 0) (dv 7)) de_int) de_int)))) da_nil)))
      (db_cons (ds_set 5 sc_law_sums_right.nd (de_t (t_dictP rfl rfl) M.f_dict (da_cons (de_lc (own := [("_law_index", 7)]) rfl sc_law_sums_right.nd (di_list rfl (dv 3)) (blkOk_by (N := N_law_sums_right) (sc := defScope s_law_sums_right) (by decide +kernel)) (by decide) (fun _ _ _ _ _ => (dgw_name 7 sc_law_sums_right.nd)) (fun _ _ _ _ _ => dts_nil) (fun _ _ _ _ _ => (de_tup (da_cons (de_ix rfl hu (de_ix rfl hu (dv 0) (dv 7)) de_int) (da_cons de_int da_nil))))) da_nil)))
      (db_cons (ds_set 6 sc_law_sums_right.nd (de_t (t_dictP rfl rfl) M.f_dict (da_cons (de_lcD 5 (own := [("_law_name_here", 8)]) rfl sc_law_sums_right.nd  (blkOk_by (N := N_law_sums_right) (sc := defScope s_law_sums_right) (by decide +kernel)) (by decide) (fun _ _ _ _ _ => (dgw_name 8 sc_law_sums_right.nd)) (fun _ _ _ _ _ => (dts_one (dt_cmp c_lt (de_get2 hu (dv 1) (dv 8) de_int) (de_pow de_int de_int)))) (fun _ _ _ _ _ => (de_tup (da_cons (dv 8) (da_cons (de_add rfl (de_get2 hu (dv 1) (dv 8) de_int) de_int) da_nil))))) da_nil)))
      (db_cons (ds_if (dt_chn (dw_or (dt_cmp (c_ne rfl hu) (de_call rfl g_weight_before hr tk (da_cons (dv 0) (da_cons (dv 1) (da_cons (dv 2) da_nil)))) (dv 4)) (dw_or1 (dt_cmp (c_ne rfl hu) (de_call rfl g_weight_before hr tk (da_cons (dv 0) (da_cons (dv 5) (da_cons (dv 2) da_nil)))) (dv 2))))) (db_one (ds_ret de_bl)) db_nil)
      (db_one (ds_ret (de_or (de_cmp c_lt (de_b (b_len rfl) M.f_len (da_cons (dv 6) da_nil)) (de_b (b_len rfl) M.f_len (da_cons (dv 5) da_nil))) (de_one (de_cmp (c_eq rfl hu) (de_call rfl g_weight_before hr tk (da_cons (dv 0) (da_cons (dv 6) (da_cons (dv 2) da_nil)))) (de_add rfl (dv 4) (dv 2))))))))))))⟩
theorem d_count_visits {P : Program} {w : World} {K : Fg} {mg : Str → Option Value} {base : Heap} {ca : Str → Addr} {f : Addr} (M : Ms mg)  (cdv : Value) (A : Around) (outer : List Env) (s : Shared) (H : Hp) (E : XK)
    (hr : Room 0 (A.deeper (PyProof.Rows.envOfC "count_visits" (defScope s_count_visits) s.heap.objs.size f cdv))) : ∃ t, PSs (cxOf (L2N.CX P w) P w K mg base N_count_visits "count_visits" (defScope s_count_visits) f cdv A outer s H E) (defBody s_count_visits) t ∧ SimS ⟨K, OpS K, ca⟩ (fun c d _ H => E c d H) t w_count_visits := by
  have hu := hu65 hr
  have tk : L2N.Takes (cxOf (L2N.CX P w) P w K mg base N_count_visits "count_visits" (defScope s_count_visits) f cdv A outer s H E) (fun c d _ H => E c d H) := L2N.takes_of rfl rfl rfl rfl
  suffices h : ∃ t, DB (cxOf (L2N.CX P w) P w K mg base N_count_visits "count_visits" (defScope s_count_visits) f cdv A outer s H E) ⟨K, OpS K, ca⟩ (fun c d _ H => E c d H) (defBody s_count_visits) t w_count_visits from let ⟨t, h⟩ := h; ⟨t, h.pe, h.sim⟩
  exact ⟨_, (db_cons (ds_set 1 sc_count_visits.nd (de_lst (da_cons de_int da_nil)))
      (db_cons (ds_set 2 sc_count_visits.nd de_dict0)
      (db_cons (ds_for .leaving rfl (di_rev rfl M.f_reversed (da_cons (dv 0) da_nil)) (dg_name 3 sc_count_visits.nd) (db_cons (ds_set 4 sc_count_visits.nd (de_ix rfl hu (dv 1) (de_neg de_int)))
      (db_cons (ds_if (dt_cmp (c_eq rfl hu) (de_ix rfl hu (dv 3) de_int) (de_gstr M.c_REPEAT)) (db_cons (ds_dput hu 2 (de_ix rfl hu (dv 3) de_int) (de_add rfl (de_get2 hu (dv 2) (de_ix rfl hu (dv 3) de_int) de_int) (de_mul (de_ix rfl hu (dv 3) de_int) (dv 4))))
      (db_one (ds_augM 4 sc_count_visits.nd (de_add rfl (de_ix rfl hu (dv 3) de_int) de_int)))) (db_one (ds_if (dt_cmp (c_eq rfl hu) (de_ix rfl hu (dv 3) de_int) (de_gstr M.c_MARK)) (db_one (ds_augS 4 sc_count_visits.nd (de_get2 hu (dv 2) (de_ix rfl hu (dv 3) de_int) de_int))) db_nil)))
      (db_one (ds_expr (de_append rfl 1 (dv 4)))))))
      (db_one (ds_ret (de_revL rfl (dv 1)))))))⟩
theorem d_play_count {P : Program} {w : World} {K : Fg} {mg : Str → Option Value} {base : Heap} {ca : Str → Addr} {f : Addr} (M : Ms mg) (g_count_visits : Gd P w ⟨K, OpS K, ca⟩ mg base 4 "count_visits" fs_count_visits ["score"] []) (g_require_bar : Gd P w ⟨K, OpS K, ca⟩ mg base 4 "require_bar" fs_require_bar ["score", "bar"] []) (g_require_score : Gd P w ⟨K, OpS K, ca⟩ mg base 4 "require_score" fs_require_score ["score"] []) (cdv : Value) (A : Around) (outer : List Env) (s : Shared) (H : Hp) (E : XK)
    (hr : Room 4 (A.deeper (PyProof.Rows.envOfC "play_count" (defScope s_play_count) s.heap.objs.size f cdv))) : ∃ t, PSs (cxOf (L2N.CX P w) P w K mg base N_play_count "play_count" (defScope s_play_count) f cdv A outer s H E) (defBody s_play_count) t ∧ SimS ⟨K, OpS K, ca⟩ (fun c d _ H => E c d H) t w_play_count := by
  have hu := hu65 hr
  have tk : L2N.Takes (cxOf (L2N.CX P w) P w K mg base N_play_count "play_count" (defScope s_play_count) f cdv A outer s H E) (fun c d _ H => E c d H) := L2N.takes_of rfl rfl rfl rfl
  suffices h : ∃ t, DB (cxOf (L2N.CX P w) P w K mg base N_play_count "play_count" (defScope s_play_count) f cdv A outer s H E) ⟨K, OpS K, ca⟩ (fun c d _ H => E c d H) (defBody s_play_count) t w_play_count from let ⟨t, h⟩ := h; ⟨t, h.pe, h.sim⟩
  exact ⟨_, (db_cons (ds_expr (de_call rfl g_require_score hr tk (da_cons (dv 0) da_nil)))
      (db_cons (ds_expr (de_call rfl g_require_bar hr tk (da_cons (dv 0) (da_cons (dv 1) da_nil))))
      (db_one (ds_ret (de_ix rfl hu (de_call rfl g_count_visits hr tk (da_cons (dv 0) da_nil)) (dv 1))))))⟩
theorem d_length_of {P : Program} {w : World} {K : Fg} {mg : Str → Option Value} {base : Heap} {ca : Str → Addr} {f : Addr} (M : Ms mg) (g_arrival_times : Gd P w ⟨K, OpS K, ca⟩ mg base 3 "arrival_times" fs_arrival_times ["score"] []) (cdv : Value) (A : Around) (outer : List Env) (s : Shared) (H : Hp) (E : XK)
    (hr : Room 3 (A.deeper (PyProof.Rows.envOfC "length_of" (defScope s_length_of) s.heap.objs.size f cdv))) : ∃ t, PSs (cxOf (L2N.CX P w) P w K mg base N_length_of "length_of" (defScope s_length_of) f cdv A outer s H E) (defBody s_length_of) t ∧ SimS ⟨K, OpS K, ca⟩ (fun c d _ H => E c d H) t w_length_of := by
  have hu := hu65 hr
  have tk : L2N.Takes (cxOf (L2N.CX P w) P w K mg base N_length_of "length_of" (defScope s_length_of) f cdv A outer s H E) (fun c d _ H => E c d H) := L2N.takes_of rfl rfl rfl rfl
  suffices h : ∃ t, DB (cxOf (L2N.CX P w) P w K mg base N_length_of "length_of" (defScope s_length_of) f cdv A outer s H E) ⟨K, OpS K, ca⟩ (fun c d _ H => E c d H) (defBody s_length_of) t w_length_of from let ⟨t, h⟩ := h; ⟨t, h.pe, h.sim⟩
  exact ⟨_, (db_one (ds_ret (de_ix rfl hu (de_call rfl g_arrival_times hr tk (da_cons (dv 0) da_nil)) (de_neg de_int))))⟩
theorem d_total_length {P : Program} {w : World} {K : Fg} {mg : Str → Option Value} {base : Heap} {ca : Str → Addr} {f : Addr} (M : Ms mg) (g_length_of : Gd P w ⟨K, OpS K, ca⟩ mg base 4 "length_of" fs_length_of ["score"] []) (g_require_score : Gd P w ⟨K, OpS K, ca⟩ mg base 4 "require_score" fs_require_score ["score"] []) (cdv : Value) (A : Around) (outer : List Env) (s : Shared) (H : Hp) (E : XK)
    (hr : Room 4 (A.deeper (PyProof.Rows.envOfC "total_length" (defScope s_total_length) s.heap.objs.size f cdv))) : ∃ t, PSs (cxOf (L2N.CX P w) P w K mg base N_total_length "total_length" (defScope s_total_length) f cdv A outer s H E) (defBody s_total_length) t ∧ SimS ⟨K, OpS K, ca⟩ (fun c d _ H => E c d H) t w_total_length := by
  have hu := hu65 hr
  have tk : L2N.Takes (cxOf (L2N.CX P w) P w K mg base N_total_length "total_length" (defScope s_total_length) f cdv A outer s H E) (fun c d _ H => E c d H) := L2N.takes_of rfl rfl rfl rfl
  suffices h : ∃ t, DB (cxOf (L2N.CX P w) P w K mg base N_total_length "total_length" (defScope s_total_length) f cdv A outer s H E) ⟨K, OpS K, ca⟩ (fun c d _ H => E c d H) (defBody s_total_length) t w_total_length from let ⟨t, h⟩ := h; ⟨t, h.pe, h.sim⟩
  exact ⟨_, (db_cons (ds_expr (de_call rfl g_require_score hr tk (da_cons (dv 0) da_nil)))
      (db_one (ds_ret (de_call rfl g_length_of hr tk (da_cons (dv 0) da_nil)))))⟩
theorem d_total_weight {P : Program} {w : World} {K : Fg} {mg : Str → Option Value} {base : Heap} {ca : Str → Addr} {f : Addr} (M : Ms mg) (g_require_score : Gd P w ⟨K, OpS K, ca⟩ mg base 4 "require_score" fs_require_score ["score"] []) (g_require_weights : Gd P w ⟨K, OpS K, ca⟩ mg base 4 "require_weights" fs_require_weights ["weights"] []) (g_weight_sums : Gd P w ⟨K, OpS K, ca⟩ mg base 4 "weight_sums" fs_weight_sums ["score", "weights"] []) (cdv : Value) (A : Around) (outer : List Env) (s : Shared) (H : Hp) (E : XK)
    (hr : Room 4 (A.deeper (PyProof.Rows.envOfC "total_weight" (defScope s_total_weight) s.heap.objs.size f cdv))) : ∃ t, PSs (cxOf (L2N.CX P w) P w K mg base N_total_weight "total_weight" (defScope s_total_weight) f cdv A outer s H E) (defBody s_total_weight) t ∧ SimS ⟨K, OpS K, ca⟩ (fun c d _ H => E c d H) t w_total_weight := by
  have hu := hu65 hr
  have tk : L2N.Takes (cxOf (L2N.CX P w) P w K mg base N_total_weight "total_weight" (defScope s_total_weight) f cdv A outer s H E) (fun c d _ H => E c d H) := L2N.takes_of rfl rfl rfl rfl
  suffices h : ∃ t, DB (cxOf (L2N.CX P w) P w K mg base N_total_weight "total_weight" (defScope s_total_weight) f cdv A outer s H E) ⟨K, OpS K, ca⟩ (fun c d _ H => E c d H) (defBody s_total_weight) t w_total_weight from let ⟨t, h⟩ := h; ⟨t, h.pe, h.sim⟩
  exact ⟨_, (db_cons (ds_expr (de_call rfl g_require_score hr tk (da_cons (dv 0) da_nil)))
      (db_cons (ds_expr (de_call rfl g_require_weights hr tk (da_cons (dv 1) da_nil)))
      (db_one (ds_ret (de_ix rfl hu (de_call rfl g_weight_sums hr tk (da_cons (dv 0) (da_cons (dv 1) da_nil))) (de_neg de_int))))))⟩
theorem d_law {P : Program} {w : World} {K : Fg} {mg : Str → Option Value} {base : Heap} {ca : Str → Addr} {f : Addr} (M : Ms mg) (g_law_back_right : Gd P w ⟨K, OpS K, ca⟩ mg base 6 "_law_back_right" fs_law_back_right ["_law_items", "_law_loads_here", "_law_amount"] []) (g_law_bars : Gd P w ⟨K, OpS K, ca⟩ mg base 6 "_law_bars" fs_law_bars ["_law_items"] []) (g_law_draw : Gd P w ⟨K, OpS K, ca⟩ mg base 6 "_law_draw" fs_law_draw ["_law_stream_here", "_law_limit"] []) (g_law_loads : Gd P w ⟨K, OpS K, ca⟩ mg base 6 "_law_loads" fs_law_loads ["_law_stream_here", "_law_items"] []) (g_law_score : Gd P w ⟨K, OpS K, ca⟩ mg base 6 "_law_score" fs_law_score ["_law_stream_here", "_law_most", "_law_cap"] []) (g_law_stream : Gd P w ⟨K, OpS K, ca⟩ mg base 6 "_law_stream" fs_law_stream ["_law_script", "_law_k"] []) (g_law_sums_right : Gd P w ⟨K, OpS K, ca⟩ mg base 6 "_law_sums_right" fs_law_sums_right ["_law_items", "_law_loads_here", "_law_at"] []) (g_play_count : Gd P w ⟨K, OpS K, ca⟩ mg base 6 "play_count" fs_play_count ["score", "bar"] []) (g_total_length : Gd P w ⟨K, OpS K, ca⟩ mg base 6 "total_length" fs_total_length ["score"] []) (g_total_weight : Gd P w ⟨K, OpS K, ca⟩ mg base 6 "total_weight" fs_total_weight ["score", "weights"] []) (g_weight_before : Gd P w ⟨K, OpS K, ca⟩ mg base 6 "weight_before" fs_weight_before ["score", "weights", "time"] []) (cdv : Value) (s : Shared) (H : Hp) (E : XK)
    (hr : Room 6 (callerA.deeper (PyProof.Rows.envOfC "law" (defScope s_law) s.heap.objs.size f cdv))) : ∃ t, PSs (cxOf (L2N.CX P w) P w K mg base N_law "law" (defScope s_law) f cdv callerA [] s H E) (defBody s_law) t ∧ SimS ⟨K, OpS K, ca⟩ (fun c d _ H => E c d H) t w_law := by
  have hu := hu65 hr
  have hgd : (cxOf (L2N.CX P w) P w K mg base N_law "law" (defScope s_law) f cdv callerA [] s H E).A.guards = some [] := rfl
  have tk : L2N.Takes (cxOf (L2N.CX P w) P w K mg base N_law "law" (defScope s_law) f cdv callerA [] s H E) (fun c d _ H => E c d H) := L2N.takes_of rfl rfl rfl rfl
  suffices h : ∃ t, DB (cxOf (L2N.CX P w) P w K mg base N_law "law" (defScope s_law) f cdv callerA [] s H E) ⟨K, OpS K, ca⟩ (fun c d _ H => E c d H) (defBody s_law) t w_law from let ⟨t, h⟩ := h; ⟨t, h.pe, h.sim⟩
  exact ⟨_, (db_cons (ds_for .leaving rfl (di_range1 M.f_range (da_cons (de_b (b_max rfl) M.f_max (da_cons de_int (da_cons (de_b (b_min rfl) M.f_min (da_cons (de_lenS rfl rfl 0 M.f_len) (da_cons de_int da_nil))) da_nil))) da_nil)) (dg_name 1 sc_law.nd) (db_cons (ds_set 2 sc_law.nd (de_callIo rfl 0 g_law_stream hr tk (da_cons (dv 1) da_nil)))
      (db_cons (ds_set 3 sc_law.nd (de_callIo rfl 2 g_law_score hr tk (da_cons de_int (da_cons de_int da_nil))))
      (db_cons (ds_set 4 sc_law.nd (de_callIo rfl 2 g_law_loads hr tk (da_cons (dv 3) da_nil)))
      (db_cons (ds_if (dt_cmp (c_eq rfl hu) (dv 1) de_int) (db_one (ds_for .leaving rfl (di_str de_str) (dg_name 5 sc_law.nd) (db_one (ds_for .leaving rfl (di_str de_str) (dg_name 6 sc_law.nd) (db_one (ds_dput hu 4 (de_add rfl (de_add rfl de_str (dv 5)) (dv 6)) (de_callIo rfl 2 g_law_draw hr tk (da_cons (de_add rfl (de_pow de_int de_int) de_int) da_nil)))))))) db_nil)
      (db_cons (ds_par 7 8 rfl sc_law.nd (dl_cons (de_call rfl g_total_length hr tk (da_cons (dv 3) da_nil)) (dl_cons (de_call rfl g_total_weight hr tk (da_cons (dv 3) (da_cons (dv 4) da_nil))) dl_nil)))
      (db_cons (ds_setLc 9 (own := [("_law_index", 13)]) rfl sc_law.nd (di_list rfl (de_call rfl g_law_bars hr tk (da_cons (dv 3) da_nil))) (blkOk_by (N := N_law) (sc := defScope s_law) (by decide +kernel)) (by decide) (fun _ _ _ _ _ => (dgw_name 13 sc_law.nd)) (fun _ _ _ _ _ => dts_nil) (fun _ _ _ _ _ => (de_mul (de_call rfl g_play_count hr takes0N (da_cons (dv 3) (da_cons (dv 13) da_nil))) (de_get2 hu (dv 4) (de_ix rfl hu (de_ix rfl hu (dv 3) (dv 13)) de_int) de_int))) (sw_true rfl rfl rfl (by decide +kernel)))
      (db_cons (ds_if (dt_chn (dw_or (dt_cmp (c_ne rfl hu) (dv 8) (de_b (b_sum rfl rfl) M.f_sum (da_cons (dv 9) da_nil))) (dw_or1 (dt_cmp (c_ne rfl hu) (de_call rfl g_weight_before hr tk (da_cons (dv 3) (da_cons (dv 4) (da_cons (dv 7) da_nil)))) (dv 8))))) (db_one (ds_ret de_bl)) db_nil)
      (db_cons (ds_for .leaving rfl (di_list rfl (de_lst (da_cons de_int (da_cons (dv 7) (da_cons (de_callIo rfl 2 g_law_draw hr tk (da_cons (de_add rfl (dv 7) de_int) da_nil)) (da_cons (de_callIo rfl 2 g_law_draw hr tk (da_cons (de_add rfl (dv 7) de_int) da_nil)) da_nil)))))) (dg_name 10 sc_law.nd) (db_one (ds_if (dt_not (dt_val (de_call rfl g_law_sums_right hr tk (da_cons (dv 3) (da_cons (dv 4) (da_cons (dv 10) da_nil)))))) (db_one (ds_ret de_bl)) db_nil)))
      (db_one (ds_for .leaving rfl (di_range1 M.f_range (da_cons (de_if (dt_cmp c_gt (dv 8) de_int) de_int de_int) da_nil)) (dg_name 11 sc_law.nd) (db_cons (ds_set 12 sc_law.nd (de_ix rfl hu (de_lst (da_cons de_int (da_cons (de_sub (dv 8) de_int) (da_cons (de_callIo rfl 2 g_law_draw hr tk (da_cons (dv 8) da_nil)) (da_cons (de_callIo rfl 2 g_law_draw hr tk (da_cons (dv 8) da_nil)) da_nil))))) (dv 11)))
      (db_one (ds_if (dt_not (dt_val (de_call rfl g_law_back_right hr tk (da_cons (dv 3) (da_cons (dv 4) (da_cons (dv 12) da_nil)))))) (db_one (ds_ret de_bl)) db_nil))))))))))))))
      (db_one (ds_ret de_bl)))⟩
end K39

set_option Elab.async false
set_option linter.all false
set_option maxRecDepth 100000
set_option maxHeartbeats 2000000
/-! VLawB: as VLaw, where the base tells that no limit of digits was set. -/
namespace VL
open PySem L2 PyProof.Rows
section
variable {P : Program} {w : World} {K : Fg} {mg mb : Str → Option Value}
theorem law_endsB {k : Nat} {fa a : Addr} {fd : FuncData} {y : Str} {s₁ : Shared} {vs : List Value} {ns : List Int}
    (KX : K.In s₁.heap) (hns : s₁.heap.Ns mainGlobals mg) (hb : s₁.heap.Ns builtinsNs mb) (hbb : ∀ x : Str, x ≠ "__name__" → mb x = bootBuiltins x) (hlim : s₁.heap.NoLimit) (hdig : s₁.heap.NoDigits) (hg : s₁.gens = #[])
    (ha : s₁.heap.get? a = some { cls := .type "list", data := .seq vs.toArray }) (hi : IntsAre vs ns) (hl : ns.length ≤ 63) (hr : Room k callerA)
    (F : ∀ base : Heap, K.In base → base.Ns mainGlobals mg → base.NoDigits → LawRuns P w K mg base k fa fd y) (hbind : ∀ (s : Shared) (u : Value), BindsTo s fd ⟨[u], []⟩ [(y, u)]) :
    codeAny (model P w) callerA (.call (.ref fa) ⟨[.ref a], []⟩) (fun r s' => r = .ok (.ret (.bool true)) ∧ OldK s₁.heap s'.heap ∧ s'.os = s₁.os ∧ AllBare s'.gens) s₁ := by
  have hlz : ns.length ≤ sizeLine := by rw [sizeLine_eq]; omega
  -- one road for both abstract heaps: H tracks the script, frozen, or nothing
  have road : ∀ H : Hp, (∀ b u, H b = some u → b = a ∧ K.lookup a = none ∧ u = .frz { cls := .type "list", data := .seq vs.toArray } (.lst (ns.map V.int))) → SqL K H a (ns.map V.int) →
      codeAny (model P w) callerA (.call (.ref fa) ⟨[.ref a], []⟩) (fun r s' => r = .ok (.ret (.bool true)) ∧ OldK s₁.heap s'.heap ∧ s'.os = s₁.os ∧ AllBare s'.gens) s₁ := by
    intro H hH hS
    have free : ∀ {b : Addr}, b ≠ a → H b = none := fun {b} hb => by
      cases q : H b with
      | none => rfl
      | some u => exact absurd (hH b u q).1 hb
    have hok : HOk P w H s₁.heap := fun b u q => by
      obtain ⟨rfl, _, rfl⟩ := hH b u q
      exact ⟨ha, by rw [List.length_map]; exact hlz, vs, _, vals_ints hi, ha⟩
    have nsK : ∀ {b : Addr} {m : Str → Option Value}, s₁.heap.Ns b m → (hidT s₁.heap H).Ns b m := fun {b m} ⟨o, es, ep, e, d, r⟩ =>
      ⟨o, es, ep, hidT_get e (free fun z => by
        rw [z, ha] at e
        cases e
        have d' : Data.seq vs.toArray _ = Data.dict es ep := d
        cases d'), d, r⟩
    have hKb : K.In (hidT s₁.heap H) := fun b o e => hidT_get (KX b o e) (by
      cases q : H b with
      | none => rfl
      | some u =>
        obtain ⟨rfl, hk, _⟩ := hH b u q
        rw [hk] at e; cases e)
    obtain ⟨mc, l1, l2⟩ := hlim
    obtain ⟨md, l3, l4⟩ := hdig
    have e0 : Env0 P w K mg (hidT s₁.heap H) callerA [] s₁ H :=
      ⟨rfl, ⟨hKb, nsK hns, ⟨mb, nsK hb, hbb⟩, ⟨mc, nsK l1, l2⟩⟩, fun b o e => of_hidT e, Nat.le_of_eq (hidT_size _ _), trivial, fun b hb => absurd (show b ∈ ([] : List Addr) from hb) (by simp), hok, .of_eq hg⟩
    refine codeAny_mono (F _ hKb (nsK hns) ⟨md, nsK l3, l4⟩ s₁ H ⟨[.ref a], []⟩ [.ref a] [.ref a] _ _ hr e0 (hbind s₁ (.ref a)) (.cons rfl .nil) (law_sp hl hS)) fun r s' h => ?_
    cases r with
    | error e =>
      obtain ⟨_, _, _, _, _, _, _, _, _, _, _, _, z⟩ := h
      exact z.elim
    | ok fl =>
      cases fl with
      | next => exact False.elim h
      | brk => exact False.elim h
      | cont => exact False.elim h
      | ret u =>
        obtain ⟨v, H', os, bare, un, hok', rv, q⟩ := h
        cases (show v = .bl true from q)
        cases (show u = Value.bool true from rv)
        refine ⟨rfl, OldK.of_keep fun b o e => ?_, os, bare⟩
        cases qb : H b with
        | none => exact un.keep b o e qb (by intro z; exact absurd (show b ∈ ([] : List Addr) from z) (by simp)) (by simp)
        | some u =>
          obtain ⟨rfl, _, rfl⟩ := hH b u qb
          obtain ⟨e1, _⟩ := hok b _ qb
          obtain ⟨e2, _⟩ := hok' b _ (un.frzs b _ _ qb)
          rw [e1] at e; cases e
          exact e2
  cases hk : K.lookup a with
  | some o =>
    have e := KX a o hk
    rw [ha] at e
    cases e
    exact road (fun _ => none) (fun b u z => by cases (show (none : Option HO) = some u from z)) (.inr ⟨_, vs.toArray, _, hk, rfl, rfl, rfl, by rw [List.size_toArray, hi.length]; exact hlz, by simpa using vals_ints hi⟩)
  | none =>
    refine road (fun b => if b = a then some (.frz { cls := .type "list", data := .seq vs.toArray } (.lst (ns.map V.int))) else none) (fun b u z => ?_) (.inl (.inr ⟨_, if_pos rfl⟩))
    by_cases hb : b = a
    · rw [if_pos hb] at z
      exact ⟨hb, hk, (Option.some.inj z).symm⟩
    · rw [if_neg hb] at z; cases z
end
/-- the goal that the head leaves -/
theorem walk_lawB {l : PySem.W.OpenLaw} {k : Nat} {q : Program} {loose : List Str} {XP : (Str → Option Value) → Heap → Prop} {YP : World → Heap → Prop} {d : DefRec} {y : Str}
    (hn : l.most = some 63) (hdf : d.params.defaults = []) (hr : Room k callerA)
    (F : ∀ (w : World) (mg : Str → Option Value) (fa : Addr) (h : Heap), YP w h → h.Ns mainGlobals mg → mg d.name = some (.ref fa) →
      ∃ (K : Fg) (fd : FuncData), K.In h ∧ (∀ (s : Shared) (u : Value), BindsTo s fd ⟨[u], []⟩ [(y, u)]) ∧ ∀ base : Heap, K.In base → base.Ns mainGlobals mg → base.NoDigits → LawRuns l.prog w K mg base k fa fd y) :
    PySem.W.WalkO q loose XP YP l.row.toRowW d [] (fun f vs => PySem.call f vs) := by
  refine Att.attach_call hn hdf fun w s₀ s₁ mg mb fa o pm cd doc a vs ns G Y ho hd hcd hmg hobj hints hlen hg => ?_
  obtain ⟨K, fd, KX, hb, hF⟩ := F w mg fa _ Y G.T.g hmg
  exact law_endsB KX G.T.g G.T.b G.T.builtins G.T.nolimit G.T.nodigits hg hobj hints hlen hr hF hb
end VL

set_option Elab.async false
set_option linter.all false
set_option maxRecDepth 100000
set_option maxHeartbeats 0
/-! VAsm: what the assembly of a law needs. -/
namespace L2
open PySem PySem.Spec PyProof.Rows
theorem FunD.bindsKw {K : PySem.W.Frag} {x qual : Str} {params : Arguments} {body : List Stmt} {scope : Scope} {kws : List (Str × V)} {f : Addr} {fd : FuncData} {ps ks : List Str} {is : List Nat} (F : FunD K x qual params body scope [] kws f fd)
    (h : ∀ (kV doc pm : Value) (an : Option Addr) (cdv ct : Value) (ws : List Value), ws.length = ks.length → bindArgs (PySem.W.fnOf x qual params body scope .none kV doc pm an cdv ct) ⟨[], ks.zip ws⟩ = pure (ps.zip (VL.reord is ws))) (s : Shared) (ws : List Value) (hl : ws.length = ks.length) : BindsTo s fd ⟨[], ks.zip ws⟩ (ps.zip (VL.reord is ws)) := by
  obtain ⟨oc, od, dV, kV, doc, pm, an, cdv, ct, osl, rfl, lk, hcd, hD, hK⟩ := F.ex
  rcases hD with ⟨_, rfl⟩ | ⟨e, _⟩
  · exact .of_eq (h kV doc pm an cdv ct ws hl)
  · exact absurd rfl e
end L2

set_option Elab.async false
set_option linter.all false
set_option maxRecDepth 100000
set_option maxHeartbeats 400000
set_option maxHeartbeats 0
/-! K39f: law k39, put together. -/
namespace K39
open PySem L2 VL SC
theorem l_mark_indices : FnL fs_mark_indices 1 := by
  intro io ds Q X h
  repeat (first | (obtain ⟨rfl, h⟩ := h) | (obtain ⟨_, h⟩ := h))
  all_goals first | rfl | (rename_i h; (repeat (first | (obtain ⟨rfl, h⟩ := h) | (obtain ⟨_, h⟩ := h))); all_goals rfl)
theorem l_segment_starts : FnL fs_segment_starts 1 := by
  intro io ds Q X h
  repeat (first | (obtain ⟨rfl, h⟩ := h) | (obtain ⟨_, h⟩ := h))
  all_goals first | rfl | (rename_i h; (repeat (first | (obtain ⟨rfl, h⟩ := h) | (obtain ⟨_, h⟩ := h))); all_goals rfl)
theorem l_arrival_times : FnL fs_arrival_times 1 := by
  intro io ds Q X h
  repeat (first | (obtain ⟨rfl, h⟩ := h) | (obtain ⟨_, h⟩ := h))
  all_goals first | rfl | (rename_i h; (repeat (first | (obtain ⟨rfl, h⟩ := h) | (obtain ⟨_, h⟩ := h))); all_goals rfl)
theorem l_find_state : FnL fs_find_state 2 := by
  intro io ds Q X h
  repeat (first | (obtain ⟨rfl, h⟩ := h) | (obtain ⟨_, h⟩ := h))
  all_goals first | rfl | (rename_i h; (repeat (first | (obtain ⟨rfl, h⟩ := h) | (obtain ⟨_, h⟩ := h))); all_goals rfl)
theorem l_is_integer : FnL fs_is_integer 3 := by
  intro io ds Q X h
  repeat (first | (obtain ⟨rfl, h⟩ := h) | (obtain ⟨_, h⟩ := h))
  all_goals first | rfl | (rename_i h; (repeat (first | (obtain ⟨rfl, h⟩ := h) | (obtain ⟨_, h⟩ := h))); all_goals rfl)
theorem l_is_name : FnL fs_is_name 1 := by
  intro io ds Q X h
  repeat (first | (obtain ⟨rfl, h⟩ := h) | (obtain ⟨_, h⟩ := h))
  all_goals first | rfl | (rename_i h; (repeat (first | (obtain ⟨rfl, h⟩ := h) | (obtain ⟨_, h⟩ := h))); all_goals rfl)
theorem l_is_item : FnL fs_is_item 2 := by
  intro io ds Q X h
  repeat (first | (obtain ⟨rfl, h⟩ := h) | (obtain ⟨_, h⟩ := h))
  all_goals first | rfl | (rename_i h; (repeat (first | (obtain ⟨rfl, h⟩ := h) | (obtain ⟨_, h⟩ := h))); all_goals rfl)
theorem l_is_score : FnL fs_is_score 1 := by
  intro io ds Q X h
  repeat (first | (obtain ⟨rfl, h⟩ := h) | (obtain ⟨_, h⟩ := h))
  all_goals first | rfl | (rename_i h; (repeat (first | (obtain ⟨rfl, h⟩ := h) | (obtain ⟨_, h⟩ := h))); all_goals rfl)
theorem l_require_score : FnL fs_require_score 1 := by
  intro io ds Q X h
  repeat (first | (obtain ⟨rfl, h⟩ := h) | (obtain ⟨_, h⟩ := h))
  all_goals first | rfl | (rename_i h; (repeat (first | (obtain ⟨rfl, h⟩ := h) | (obtain ⟨_, h⟩ := h))); all_goals rfl)
theorem l_require_time_to : FnL fs_require_time_to 2 := by
  intro io ds Q X h
  repeat (first | (obtain ⟨rfl, h⟩ := h) | (obtain ⟨_, h⟩ := h))
  all_goals first | rfl | (rename_i h; (repeat (first | (obtain ⟨rfl, h⟩ := h) | (obtain ⟨_, h⟩ := h))); all_goals rfl)
theorem l_bar_at : FnL fs_bar_at 2 := by
  intro io ds Q X h
  repeat (first | (obtain ⟨rfl, h⟩ := h) | (obtain ⟨_, h⟩ := h))
  all_goals first | rfl | (rename_i h; (repeat (first | (obtain ⟨rfl, h⟩ := h) | (obtain ⟨_, h⟩ := h))); all_goals rfl)
theorem l_item_containing : FnL fs_item_containing 2 := by
  intro io ds Q X h
  repeat (first | (obtain ⟨rfl, h⟩ := h) | (obtain ⟨_, h⟩ := h))
  all_goals first | rfl | (rename_i h; (repeat (first | (obtain ⟨rfl, h⟩ := h) | (obtain ⟨_, h⟩ := h))); all_goals rfl)
theorem l_locate : FnL fs_locate 3 := by
  intro io ds Q X h
  repeat (first | (obtain ⟨rfl, h⟩ := h) | (obtain ⟨_, h⟩ := h))
  all_goals first | rfl | (rename_i h; (repeat (first | (obtain ⟨rfl, h⟩ := h) | (obtain ⟨_, h⟩ := h))); all_goals rfl)
theorem l_require_weights : FnL fs_require_weights 1 := by
  intro io ds Q X h
  repeat (first | (obtain ⟨rfl, h⟩ := h) | (obtain ⟨_, h⟩ := h))
  all_goals first | rfl | (rename_i h; (repeat (first | (obtain ⟨rfl, h⟩ := h) | (obtain ⟨_, h⟩ := h))); all_goals rfl)
theorem l_accumulate : FnL fs_accumulate 2 := by
  intro io ds Q X h
  repeat (first | (obtain ⟨rfl, h⟩ := h) | (obtain ⟨_, h⟩ := h))
  all_goals first | rfl | (rename_i h; (repeat (first | (obtain ⟨rfl, h⟩ := h) | (obtain ⟨_, h⟩ := h))); all_goals rfl)
theorem l_weight_sums : FnL fs_weight_sums 2 := by
  intro io ds Q X h
  repeat (first | (obtain ⟨rfl, h⟩ := h) | (obtain ⟨_, h⟩ := h))
  all_goals first | rfl | (rename_i h; (repeat (first | (obtain ⟨rfl, h⟩ := h) | (obtain ⟨_, h⟩ := h))); all_goals rfl)
theorem l_locate_weight : FnL fs_locate_weight 3 := by
  intro io ds Q X h
  repeat (first | (obtain ⟨rfl, h⟩ := h) | (obtain ⟨_, h⟩ := h))
  all_goals first | rfl | (rename_i h; (repeat (first | (obtain ⟨rfl, h⟩ := h) | (obtain ⟨_, h⟩ := h))); all_goals rfl)
theorem l_require_time : FnL fs_require_time 2 := by
  intro io ds Q X h
  repeat (first | (obtain ⟨rfl, h⟩ := h) | (obtain ⟨_, h⟩ := h))
  all_goals first | rfl | (rename_i h; (repeat (first | (obtain ⟨rfl, h⟩ := h) | (obtain ⟨_, h⟩ := h))); all_goals rfl)
theorem l_sum_before : FnL fs_sum_before 3 := by
  intro io ds Q X h
  repeat (first | (obtain ⟨rfl, h⟩ := h) | (obtain ⟨_, h⟩ := h))
  all_goals first | rfl | (rename_i h; (repeat (first | (obtain ⟨rfl, h⟩ := h) | (obtain ⟨_, h⟩ := h))); all_goals rfl)
theorem l_weight_before : FnL fs_weight_before 3 := by
  intro io ds Q X h
  repeat (first | (obtain ⟨rfl, h⟩ := h) | (obtain ⟨_, h⟩ := h))
  all_goals first | rfl | (rename_i h; (repeat (first | (obtain ⟨rfl, h⟩ := h) | (obtain ⟨_, h⟩ := h))); all_goals rfl)
theorem l_law_back_right : FnL fs_law_back_right 3 := by
  intro io ds Q X h
  repeat (first | (obtain ⟨rfl, h⟩ := h) | (obtain ⟨_, h⟩ := h))
  all_goals first | rfl | (rename_i h; (repeat (first | (obtain ⟨rfl, h⟩ := h) | (obtain ⟨_, h⟩ := h))); all_goals rfl)
theorem l_law_bars : FnL fs_law_bars 1 := by
  intro io ds Q X h
  repeat (first | (obtain ⟨rfl, h⟩ := h) | (obtain ⟨_, h⟩ := h))
  all_goals first | rfl | (rename_i h; (repeat (first | (obtain ⟨rfl, h⟩ := h) | (obtain ⟨_, h⟩ := h))); all_goals rfl)
theorem l_law_draw : FnL fs_law_draw 2 := by
  intro io ds Q X h
  repeat (first | (obtain ⟨rfl, h⟩ := h) | (obtain ⟨_, h⟩ := h))
  all_goals first | rfl | (rename_i h; (repeat (first | (obtain ⟨rfl, h⟩ := h) | (obtain ⟨_, h⟩ := h))); all_goals rfl)
theorem l_law_loads : FnL fs_law_loads 2 := by
  intro io ds Q X h
  repeat (first | (obtain ⟨rfl, h⟩ := h) | (obtain ⟨_, h⟩ := h))
  all_goals first | rfl | (rename_i h; (repeat (first | (obtain ⟨rfl, h⟩ := h) | (obtain ⟨_, h⟩ := h))); all_goals rfl)
theorem l_law_name : FnL fs_law_name 2 := by
  intro io ds Q X h
  repeat (first | (obtain ⟨rfl, h⟩ := h) | (obtain ⟨_, h⟩ := h))
  all_goals first | rfl | (rename_i h; (repeat (first | (obtain ⟨rfl, h⟩ := h) | (obtain ⟨_, h⟩ := h))); all_goals rfl)
theorem l_law_score : FnL fs_law_score 3 := by
  intro io ds Q X h
  repeat (first | (obtain ⟨rfl, h⟩ := h) | (obtain ⟨_, h⟩ := h))
  all_goals first | rfl | (rename_i h; (repeat (first | (obtain ⟨rfl, h⟩ := h) | (obtain ⟨_, h⟩ := h))); all_goals rfl)
theorem l_law_stream : FnL fs_law_stream 2 := by
  intro io ds Q X h
  repeat (first | (obtain ⟨rfl, h⟩ := h) | (obtain ⟨_, h⟩ := h))
  all_goals first | rfl | (rename_i h; (repeat (first | (obtain ⟨rfl, h⟩ := h) | (obtain ⟨_, h⟩ := h))); all_goals rfl)
theorem l_indicator : FnL fs_indicator 2 := by
  intro io ds Q X h
  repeat (first | (obtain ⟨rfl, h⟩ := h) | (obtain ⟨_, h⟩ := h))
  all_goals first | rfl | (rename_i h; (repeat (first | (obtain ⟨rfl, h⟩ := h) | (obtain ⟨_, h⟩ := h))); all_goals rfl)
theorem l_require_bar : FnL fs_require_bar 2 := by
  intro io ds Q X h
  repeat (first | (obtain ⟨rfl, h⟩ := h) | (obtain ⟨_, h⟩ := h))
  all_goals first | rfl | (rename_i h; (repeat (first | (obtain ⟨rfl, h⟩ := h) | (obtain ⟨_, h⟩ := h))); all_goals rfl)
theorem l_plays_before : FnL fs_plays_before 3 := by
  intro io ds Q X h
  repeat (first | (obtain ⟨rfl, h⟩ := h) | (obtain ⟨_, h⟩ := h))
  all_goals first | rfl | (rename_i h; (repeat (first | (obtain ⟨rfl, h⟩ := h) | (obtain ⟨_, h⟩ := h))); all_goals rfl)
theorem l_law_sums_right : FnL fs_law_sums_right 3 := by
  intro io ds Q X h
  repeat (first | (obtain ⟨rfl, h⟩ := h) | (obtain ⟨_, h⟩ := h))
  all_goals first | rfl | (rename_i h; (repeat (first | (obtain ⟨rfl, h⟩ := h) | (obtain ⟨_, h⟩ := h))); all_goals rfl)
theorem l_count_visits : FnL fs_count_visits 1 := by
  intro io ds Q X h
  repeat (first | (obtain ⟨rfl, h⟩ := h) | (obtain ⟨_, h⟩ := h))
  all_goals first | rfl | (rename_i h; (repeat (first | (obtain ⟨rfl, h⟩ := h) | (obtain ⟨_, h⟩ := h))); all_goals rfl)
theorem l_play_count : FnL fs_play_count 2 := by
  intro io ds Q X h
  repeat (first | (obtain ⟨rfl, h⟩ := h) | (obtain ⟨_, h⟩ := h))
  all_goals first | rfl | (rename_i h; (repeat (first | (obtain ⟨rfl, h⟩ := h) | (obtain ⟨_, h⟩ := h))); all_goals rfl)
theorem l_length_of : FnL fs_length_of 1 := by
  intro io ds Q X h
  repeat (first | (obtain ⟨rfl, h⟩ := h) | (obtain ⟨_, h⟩ := h))
  all_goals first | rfl | (rename_i h; (repeat (first | (obtain ⟨rfl, h⟩ := h) | (obtain ⟨_, h⟩ := h))); all_goals rfl)
theorem l_total_length : FnL fs_total_length 1 := by
  intro io ds Q X h
  repeat (first | (obtain ⟨rfl, h⟩ := h) | (obtain ⟨_, h⟩ := h))
  all_goals first | rfl | (rename_i h; (repeat (first | (obtain ⟨rfl, h⟩ := h) | (obtain ⟨_, h⟩ := h))); all_goals rfl)
theorem l_total_weight : FnL fs_total_weight 2 := by
  intro io ds Q X h
  repeat (first | (obtain ⟨rfl, h⟩ := h) | (obtain ⟨_, h⟩ := h))
  all_goals first | rfl | (rename_i h; (repeat (first | (obtain ⟨rfl, h⟩ := h) | (obtain ⟨_, h⟩ := h))); all_goals rfl)
def D_mark_indices : He.DefD := ⟨("mark_indices", none), "mark_indices", "mark_indices", defArgs s_mark_indices, defBody s_mark_indices, defScope s_mark_indices, [], []⟩
def D_segment_starts : He.DefD := ⟨("segment_starts", none), "segment_starts", "segment_starts", defArgs s_segment_starts, defBody s_segment_starts, defScope s_segment_starts, [], []⟩
def D_arrival_times : He.DefD := ⟨("arrival_times", none), "arrival_times", "arrival_times", defArgs s_arrival_times, defBody s_arrival_times, defScope s_arrival_times, [], []⟩
def D_find_state : He.DefD := ⟨("find_state", none), "find_state", "find_state", defArgs s_find_state, defBody s_find_state, defScope s_find_state, [], []⟩
def D_is_integer : He.DefD := ⟨("is_integer", none), "is_integer", "is_integer", defArgs s_is_integer, defBody s_is_integer, defScope s_is_integer, [.non], []⟩
def D_is_name : He.DefD := ⟨("is_name", none), "is_name", "is_name", defArgs s_is_name, defBody s_is_name, defScope s_is_name, [], []⟩
def D_is_item : He.DefD := ⟨("is_item", none), "is_item", "is_item", defArgs s_is_item, defBody s_is_item, defScope s_is_item, [], []⟩
def D_is_score : He.DefD := ⟨("is_score", none), "is_score", "is_score", defArgs s_is_score, defBody s_is_score, defScope s_is_score, [], []⟩
def D_require_score : He.DefD := ⟨("require_score", none), "require_score", "require_score", defArgs s_require_score, defBody s_require_score, defScope s_require_score, [], []⟩
def D_require_time_to : He.DefD := ⟨("require_time_to", none), "require_time_to", "require_time_to", defArgs s_require_time_to, defBody s_require_time_to, defScope s_require_time_to, [], []⟩
def D_bar_at : He.DefD := ⟨("bar_at", none), "bar_at", "bar_at", defArgs s_bar_at, defBody s_bar_at, defScope s_bar_at, [], []⟩
def D_item_containing : He.DefD := ⟨("item_containing", none), "item_containing", "item_containing", defArgs s_item_containing, defBody s_item_containing, defScope s_item_containing, [], []⟩
def D_locate : He.DefD := ⟨("locate", none), "locate", "locate", defArgs s_locate, defBody s_locate, defScope s_locate, [], []⟩
def D_require_weights : He.DefD := ⟨("require_weights", none), "require_weights", "require_weights", defArgs s_require_weights, defBody s_require_weights, defScope s_require_weights, [], []⟩
def D_accumulate : He.DefD := ⟨("accumulate", none), "accumulate", "accumulate", defArgs s_accumulate, defBody s_accumulate, defScope s_accumulate, [], []⟩
def D_weight_sums : He.DefD := ⟨("weight_sums", none), "weight_sums", "weight_sums", defArgs s_weight_sums, defBody s_weight_sums, defScope s_weight_sums, [], []⟩
def D_locate_weight : He.DefD := ⟨("locate_weight", none), "locate_weight", "locate_weight", defArgs s_locate_weight, defBody s_locate_weight, defScope s_locate_weight, [], []⟩
def D_require_time : He.DefD := ⟨("require_time", none), "require_time", "require_time", defArgs s_require_time, defBody s_require_time, defScope s_require_time, [], []⟩
def D_sum_before : He.DefD := ⟨("sum_before", none), "sum_before", "sum_before", defArgs s_sum_before, defBody s_sum_before, defScope s_sum_before, [], []⟩
def D_weight_before : He.DefD := ⟨("weight_before", none), "weight_before", "weight_before", defArgs s_weight_before, defBody s_weight_before, defScope s_weight_before, [], []⟩
def D_law_back_right : He.DefD := ⟨("_law_back_right", none), "_law_back_right", "_law_back_right", defArgs s_law_back_right, defBody s_law_back_right, defScope s_law_back_right, [], []⟩
def D_law_bars : He.DefD := ⟨("_law_bars", none), "_law_bars", "_law_bars", defArgs s_law_bars, defBody s_law_bars, defScope s_law_bars, [], []⟩
def D_law_draw : He.DefD := ⟨("_law_draw", none), "_law_draw", "_law_draw", defArgs s_law_draw, defBody s_law_draw, defScope s_law_draw, [], []⟩
def D_law_loads : He.DefD := ⟨("_law_loads", none), "_law_loads", "_law_loads", defArgs s_law_loads, defBody s_law_loads, defScope s_law_loads, [], []⟩
def D_law_name : He.DefD := ⟨("_law_name", none), "_law_name", "_law_name", defArgs s_law_name, defBody s_law_name, defScope s_law_name, [], []⟩
def D_law_score : He.DefD := ⟨("_law_score", none), "_law_score", "_law_score", defArgs s_law_score, defBody s_law_score, defScope s_law_score, [], []⟩
def D_law_stream : He.DefD := ⟨("_law_stream", none), "_law_stream", "_law_stream", defArgs s_law_stream, defBody s_law_stream, defScope s_law_stream, [], []⟩
def D_indicator : He.DefD := ⟨("indicator", none), "indicator", "indicator", defArgs s_indicator, defBody s_indicator, defScope s_indicator, [], []⟩
def D_require_bar : He.DefD := ⟨("require_bar", none), "require_bar", "require_bar", defArgs s_require_bar, defBody s_require_bar, defScope s_require_bar, [], []⟩
def D_plays_before : He.DefD := ⟨("plays_before", none), "plays_before", "plays_before", defArgs s_plays_before, defBody s_plays_before, defScope s_plays_before, [], []⟩
def D_law_sums_right : He.DefD := ⟨("_law_sums_right", none), "_law_sums_right", "_law_sums_right", defArgs s_law_sums_right, defBody s_law_sums_right, defScope s_law_sums_right, [], []⟩
def D_count_visits : He.DefD := ⟨("count_visits", none), "count_visits", "count_visits", defArgs s_count_visits, defBody s_count_visits, defScope s_count_visits, [], []⟩
def D_play_count : He.DefD := ⟨("play_count", none), "play_count", "play_count", defArgs s_play_count, defBody s_play_count, defScope s_play_count, [], []⟩
def D_length_of : He.DefD := ⟨("length_of", none), "length_of", "length_of", defArgs s_length_of, defBody s_length_of, defScope s_length_of, [], []⟩
def D_total_length : He.DefD := ⟨("total_length", none), "total_length", "total_length", defArgs s_total_length, defBody s_total_length, defScope s_total_length, [], []⟩
def D_total_weight : He.DefD := ⟨("total_weight", none), "total_weight", "total_weight", defArgs s_total_weight, defBody s_total_weight, defScope s_total_weight, [], []⟩
def D_law : He.DefD := ⟨("law", none), "law", "law", defArgs s_law, defBody s_law, defScope s_law, [], []⟩
def fn : List He.DefD := [D_mark_indices, D_segment_starts, D_arrival_times, D_find_state, D_is_integer, D_is_name, D_is_item, D_is_score, D_require_score, D_require_time_to, D_bar_at, D_item_containing, D_locate, D_require_weights, D_accumulate, D_weight_sums, D_locate_weight, D_require_time, D_sum_before, D_weight_before, D_law_back_right, D_law_bars, D_law_draw, D_law_loads, D_law_name, D_law_score, D_law_stream, D_indicator, D_require_bar, D_plays_before, D_law_sums_right, D_count_visits, D_play_count, D_length_of, D_total_length, D_total_weight, D_law]
def fa : List He.Fa := [.glo "mark_indices", .glo "segment_starts", .glo "arrival_times", .glo "find_state", .glo "is_integer", .glo "is_name", .glo "is_item", .glo "is_score", .glo "require_score", .glo "require_time_to", .glo "bar_at", .glo "item_containing", .glo "locate", .glo "require_weights", .glo "accumulate", .glo "weight_sums", .glo "locate_weight", .glo "require_time", .glo "sum_before", .glo "weight_before", .glo "_law_back_right", .glo "_law_bars", .glo "_law_draw", .glo "_law_loads", .glo "_law_name", .glo "_law_score", .glo "_law_stream", .glo "indicator", .glo "require_bar", .glo "plays_before", .glo "_law_sums_right", .glo "count_visits", .glo "play_count", .glo "length_of", .glo "total_length", .glo "total_weight", .glo "law", .free "all", .free "bool", .free "dict", .free "divmod", .free "enumerate", .free "int", .free "isinstance", .free "len", .free "list", .free "max", .free "min", .free "range", .free "reversed", .free "sorted", .free "str", .free "sum", .free "tuple", .str "BAR" "bar", .str "LETTERS" "abcdefghijklmnopqrstuvwxyz", .str "MARK" "mark", .int "MAX_NAME_LENGTH" 8, .int "MAX_WEIGHT" 1000000000000, .str "REPEAT" "repeat"]
abbrev Rw : PySem.W.OpenRow := PySem.W.OpenLaw.row PySem.Challenge.rw_wornsigns_k39_whole_weights_and_counts
abbrev hk : PySem.W.Hook := He.hookD 4 fa fn
def ob (s : PySem.W.SharedT) : He.AlD := He.obsDG 4 fa fn (HandSHeadRun.getT s)
theorem ob_eq (s : PySem.W.SharedT) : ob s = hk.obs s.abs := He.obsDG_eq (HandSHeadRun.getT_eq s)
def loose0 : List PySem.Str := ["ScoreError", "InvalidScore", "InvalidBar", "InvalidTime", "InvalidCount", "InvalidWeights", "LETTERS", "MAX_NAME_LENGTH", "BAR", "MARK", "REPEAT", "is_integer", "is_name", "is_item", "is_score", "require_score", "mark_indices", "segment_starts", "arrival_times", "require_time_to", "require_time", "find_state", "bar_at", "count_visits", "require_bar", "play_count", "accumulate", "indicator", "item_containing", "sum_before"]
def loose1 : List PySem.Str := ["locate", "plays_before", "MAX_WEIGHT", "require_weights", "weight_sums", "total_weight", "weight_before", "locate_weight", "length_of", "total_length", "_law_stream", "_law_draw", "_law_name", "_law_score", "_law_bars", "_law_loads", "_law_sums_right", "_law_back_right"]
def loose : List PySem.Str := loose0 ++ loose1
theorem run (w : World) : HandSHeadRun.RunEq Rw (PySem.W.view Rw.prog [55]) hk ob 4000 loose w := by
  intro os
  kernel_rfl
theorem facts {P : Program} {w : World} {K : Fg} {h : Heap} {mg : Str → Option Value} {f : Addr} (X : K.In h) (G : h.Ns mainGlobals mg) (hfa : mg ("law" : Str) = some (.ref f)) (c : He.SaysD fa fn K) :
    ∃ fd : FuncData, (∀ (s : Shared) (u : Value), BindsTo s fd ⟨[u], []⟩ [("_law_script", u)]) ∧ ∀ base : Heap, K.In base → base.Ns mainGlobals mg → LawRuns P w K mg base 7 f fd "_law_script" := by
  obtain ⟨fd_mark_indices, F_mark_indices⟩ := c.def_ 0 (d := D_mark_indices) rfl
  obtain ⟨fd_segment_starts, F_segment_starts⟩ := c.def_ 1 (d := D_segment_starts) rfl
  obtain ⟨fd_arrival_times, F_arrival_times⟩ := c.def_ 2 (d := D_arrival_times) rfl
  obtain ⟨fd_find_state, F_find_state⟩ := c.def_ 3 (d := D_find_state) rfl
  obtain ⟨fd_is_integer, F_is_integer⟩ := c.def_ 4 (d := D_is_integer) rfl
  obtain ⟨fd_is_name, F_is_name⟩ := c.def_ 5 (d := D_is_name) rfl
  obtain ⟨fd_is_item, F_is_item⟩ := c.def_ 6 (d := D_is_item) rfl
  obtain ⟨fd_is_score, F_is_score⟩ := c.def_ 7 (d := D_is_score) rfl
  obtain ⟨fd_require_score, F_require_score⟩ := c.def_ 8 (d := D_require_score) rfl
  obtain ⟨fd_require_time_to, F_require_time_to⟩ := c.def_ 9 (d := D_require_time_to) rfl
  obtain ⟨fd_bar_at, F_bar_at⟩ := c.def_ 10 (d := D_bar_at) rfl
  obtain ⟨fd_item_containing, F_item_containing⟩ := c.def_ 11 (d := D_item_containing) rfl
  obtain ⟨fd_locate, F_locate⟩ := c.def_ 12 (d := D_locate) rfl
  obtain ⟨fd_require_weights, F_require_weights⟩ := c.def_ 13 (d := D_require_weights) rfl
  obtain ⟨fd_accumulate, F_accumulate⟩ := c.def_ 14 (d := D_accumulate) rfl
  obtain ⟨fd_weight_sums, F_weight_sums⟩ := c.def_ 15 (d := D_weight_sums) rfl
  obtain ⟨fd_locate_weight, F_locate_weight⟩ := c.def_ 16 (d := D_locate_weight) rfl
  obtain ⟨fd_require_time, F_require_time⟩ := c.def_ 17 (d := D_require_time) rfl
  obtain ⟨fd_sum_before, F_sum_before⟩ := c.def_ 18 (d := D_sum_before) rfl
  obtain ⟨fd_weight_before, F_weight_before⟩ := c.def_ 19 (d := D_weight_before) rfl
  obtain ⟨fd_law_back_right, F_law_back_right⟩ := c.def_ 20 (d := D_law_back_right) rfl
  obtain ⟨fd_law_bars, F_law_bars⟩ := c.def_ 21 (d := D_law_bars) rfl
  obtain ⟨fd_law_draw, F_law_draw⟩ := c.def_ 22 (d := D_law_draw) rfl
  obtain ⟨fd_law_loads, F_law_loads⟩ := c.def_ 23 (d := D_law_loads) rfl
  obtain ⟨fd_law_name, F_law_name⟩ := c.def_ 24 (d := D_law_name) rfl
  obtain ⟨fd_law_score, F_law_score⟩ := c.def_ 25 (d := D_law_score) rfl
  obtain ⟨fd_law_stream, F_law_stream⟩ := c.def_ 26 (d := D_law_stream) rfl
  obtain ⟨fd_indicator, F_indicator⟩ := c.def_ 27 (d := D_indicator) rfl
  obtain ⟨fd_require_bar, F_require_bar⟩ := c.def_ 28 (d := D_require_bar) rfl
  obtain ⟨fd_plays_before, F_plays_before⟩ := c.def_ 29 (d := D_plays_before) rfl
  obtain ⟨fd_law_sums_right, F_law_sums_right⟩ := c.def_ 30 (d := D_law_sums_right) rfl
  obtain ⟨fd_count_visits, F_count_visits⟩ := c.def_ 31 (d := D_count_visits) rfl
  obtain ⟨fd_play_count, F_play_count⟩ := c.def_ 32 (d := D_play_count) rfl
  obtain ⟨fd_length_of, F_length_of⟩ := c.def_ 33 (d := D_length_of) rfl
  obtain ⟨fd_total_length, F_total_length⟩ := c.def_ 34 (d := D_total_length) rfl
  obtain ⟨fd_total_weight, F_total_weight⟩ := c.def_ 35 (d := D_total_weight) rfl
  obtain ⟨fd_law, F_law⟩ := c.def_ 36 (d := D_law) rfl
  have M : Ms mg := ⟨He.free_ok X G (c.fact 37 (f := .free "all") rfl),
    He.free_ok X G (c.fact 38 (f := .free "bool") rfl),
    He.free_ok X G (c.fact 39 (f := .free "dict") rfl),
    He.free_ok X G (c.fact 40 (f := .free "divmod") rfl),
    He.free_ok X G (c.fact 41 (f := .free "enumerate") rfl),
    He.free_ok X G (c.fact 42 (f := .free "int") rfl),
    He.free_ok X G (c.fact 43 (f := .free "isinstance") rfl),
    He.free_ok X G (c.fact 44 (f := .free "len") rfl),
    He.free_ok X G (c.fact 45 (f := .free "list") rfl),
    He.free_ok X G (c.fact 46 (f := .free "max") rfl),
    He.free_ok X G (c.fact 47 (f := .free "min") rfl),
    He.free_ok X G (c.fact 48 (f := .free "range") rfl),
    He.free_ok X G (c.fact 49 (f := .free "reversed") rfl),
    He.free_ok X G (c.fact 50 (f := .free "sorted") rfl),
    He.free_ok X G (c.fact 51 (f := .free "str") rfl),
    He.free_ok X G (c.fact 52 (f := .free "sum") rfl),
    He.free_ok X G (c.fact 53 (f := .free "tuple") rfl),
    He.str_ok X G (c.fact 54 (f := .str "BAR" "bar") rfl),
    He.str_ok X G (c.fact 55 (f := .str "LETTERS" "abcdefghijklmnopqrstuvwxyz") rfl),
    He.str_ok X G (c.fact 56 (f := .str "MARK" "mark") rfl),
    He.int_ok X G (c.fact 57 (f := .int "MAX_NAME_LENGTH" 8) rfl),
    He.int_ok X G (c.fact 58 (f := .int "MAX_WEIGHT" 1000000000000) rfl),
    He.str_ok X G (c.fact 59 (f := .str "REPEAT" "repeat") rfl)⟩
  have el := hfa.symm.trans (He.glo_ok X G (c.fact 36 (f := .glo "law") rfl))
  cases el
  refine ⟨fd_law, fun s u => FunD.bindsA (ps := ["_law_script"]) F_law (fun _ _ _ _ _ _ us hl => match us, hl with | [_], _ => rfl) s [u] rfl, fun base _ _ => ?_⟩
  have o_mark_indices : FnOk P w K mg base (L2N.CX P w) 1 (He.fAd K ("mark_indices", none)) fd_mark_indices ["score"] (lift ⟨K, OpS K, fun _ => 0⟩ fs_mark_indices) := vfn F_mark_indices sc_mark_indices l_mark_indices fv_mark_indices (d_mark_indices M )
  have g_mark_indices : Gd P w ⟨K, OpS K, fun _ => 0⟩ mg base 1 "mark_indices" fs_mark_indices ["score"] [] := ⟨_, _, He.glo_ok X G (c.fact 0 (f := .glo "mark_indices") rfl), F_mark_indices.kp, o_mark_indices, [], .nil, FunD.bindsN F_mark_indices fun _ _ _ _ _ _ us hl => match us, hl with | [_], _ => rfl⟩
  have o_segment_starts : FnOk P w K mg base (L2N.CX P w) 2 (He.fAd K ("segment_starts", none)) fd_segment_starts ["score"] (lift ⟨K, OpS K, fun _ => 0⟩ fs_segment_starts) := vfn F_segment_starts sc_segment_starts l_segment_starts fv_segment_starts (d_segment_starts M (g_mark_indices.mono (by decide)))
  have g_segment_starts : Gd P w ⟨K, OpS K, fun _ => 0⟩ mg base 2 "segment_starts" fs_segment_starts ["score"] [] := ⟨_, _, He.glo_ok X G (c.fact 1 (f := .glo "segment_starts") rfl), F_segment_starts.kp, o_segment_starts, [], .nil, FunD.bindsN F_segment_starts fun _ _ _ _ _ _ us hl => match us, hl with | [_], _ => rfl⟩
  have o_arrival_times : FnOk P w K mg base (L2N.CX P w) 3 (He.fAd K ("arrival_times", none)) fd_arrival_times ["score"] (lift ⟨K, OpS K, fun _ => 0⟩ fs_arrival_times) := vfn F_arrival_times sc_arrival_times l_arrival_times fv_arrival_times (d_arrival_times M (g_segment_starts.mono (by decide)))
  have g_arrival_times : Gd P w ⟨K, OpS K, fun _ => 0⟩ mg base 3 "arrival_times" fs_arrival_times ["score"] [] := ⟨_, _, He.glo_ok X G (c.fact 2 (f := .glo "arrival_times") rfl), F_arrival_times.kp, o_arrival_times, [], .nil, FunD.bindsN F_arrival_times fun _ _ _ _ _ _ us hl => match us, hl with | [_], _ => rfl⟩
  have o_find_state : FnOk P w K mg base (L2N.CX P w) 4 (He.fAd K ("find_state", none)) fd_find_state ["score", "time"] (lift ⟨K, OpS K, fun _ => 0⟩ fs_find_state) := vfn F_find_state sc_find_state l_find_state fv_find_state (d_find_state M (g_arrival_times.mono (by decide)) (g_segment_starts.mono (by decide)))
  have g_find_state : Gd P w ⟨K, OpS K, fun _ => 0⟩ mg base 4 "find_state" fs_find_state ["score", "time"] [] := ⟨_, _, He.glo_ok X G (c.fact 3 (f := .glo "find_state") rfl), F_find_state.kp, o_find_state, [], .nil, FunD.bindsN F_find_state fun _ _ _ _ _ _ us hl => match us, hl with | [_, _], _ => rfl⟩
  have o_is_integer : FnOk P w K mg base (L2N.CX P w) 1 (He.fAd K ("is_integer", none)) fd_is_integer ["value", "low", "high"] (lift ⟨K, OpS K, fun _ => 0⟩ fs_is_integer) := vfn F_is_integer sc_is_integer l_is_integer fv_is_integer (d_is_integer M )
  have g_is_integer_0 : Gd P w ⟨K, OpS K, fun _ => 0⟩ mg base 1 "is_integer" fs_is_integer ["value", "low", "high"] [] := by
    obtain ⟨ds, v, b⟩ := FunD.binds1 (ps := ["value", "low", "high"]) F_is_integer 3 1 (List.cons_ne_nil _ _) rfl fun _ _ _ _ _ _ _ us its hl hl2 => match us, hl, its, hl2 with | [_, _, _], _, [_], _ => ⟨_, rfl, rfl⟩
    exact ⟨_, _, He.glo_ok X G (c.fact 4 (f := .glo "is_integer") rfl), F_is_integer.kp, o_is_integer, ds, v, b⟩
  have g_is_integer_1 : Gd P w ⟨K, OpS K, fun _ => 0⟩ mg base 1 "is_integer" fs_is_integer ["value", "low", "high"] [.non] := by
    obtain ⟨ds, v, b⟩ := FunD.binds1 (ps := ["value", "low", "high"]) F_is_integer 2 0 (List.cons_ne_nil _ _) rfl fun _ _ _ _ _ _ _ us its hl hl2 => match us, hl, its, hl2 with | [_, _], _, [_], _ => ⟨_, rfl, rfl⟩
    exact ⟨_, _, He.glo_ok X G (c.fact 4 (f := .glo "is_integer") rfl), F_is_integer.kp, o_is_integer, ds, v, b⟩
  have o_is_name : FnOk P w K mg base (L2N.CX P w) 1 (He.fAd K ("is_name", none)) fd_is_name ["value"] (lift ⟨K, OpS K, fun _ => 0⟩ fs_is_name) := vfn F_is_name sc_is_name l_is_name fv_is_name (d_is_name M )
  have g_is_name : Gd P w ⟨K, OpS K, fun _ => 0⟩ mg base 1 "is_name" fs_is_name ["value"] [] := ⟨_, _, He.glo_ok X G (c.fact 5 (f := .glo "is_name") rfl), F_is_name.kp, o_is_name, [], .nil, FunD.bindsN F_is_name fun _ _ _ _ _ _ us hl => match us, hl with | [_], _ => rfl⟩
  have o_is_item : FnOk P w K mg base (L2N.CX P w) 2 (He.fAd K ("is_item", none)) fd_is_item ["value", "marks"] (lift ⟨K, OpS K, fun _ => 0⟩ fs_is_item) := vfn F_is_item sc_is_item l_is_item fv_is_item (d_is_item M (g_is_integer_0.mono (by decide)) (g_is_integer_1.mono (by decide)) (g_is_name.mono (by decide)))
  have g_is_item : Gd P w ⟨K, OpS K, fun _ => 0⟩ mg base 2 "is_item" fs_is_item ["value", "marks"] [] := ⟨_, _, He.glo_ok X G (c.fact 6 (f := .glo "is_item") rfl), F_is_item.kp, o_is_item, [], .nil, FunD.bindsN F_is_item fun _ _ _ _ _ _ us hl => match us, hl with | [_, _], _ => rfl⟩
  have o_is_score : FnOk P w K mg base (L2N.CX P w) 3 (He.fAd K ("is_score", none)) fd_is_score ["value"] (lift ⟨K, OpS K, fun _ => 0⟩ fs_is_score) := vfn F_is_score sc_is_score l_is_score fv_is_score (d_is_score M (g_is_item.mono (by decide)))
  have g_is_score : Gd P w ⟨K, OpS K, fun _ => 0⟩ mg base 3 "is_score" fs_is_score ["value"] [] := ⟨_, _, He.glo_ok X G (c.fact 7 (f := .glo "is_score") rfl), F_is_score.kp, o_is_score, [], .nil, FunD.bindsN F_is_score fun _ _ _ _ _ _ us hl => match us, hl with | [_], _ => rfl⟩
  have o_require_score : FnOk P w K mg base (L2N.CX P w) 4 (He.fAd K ("require_score", none)) fd_require_score ["score"] (lift ⟨K, OpS K, fun _ => 0⟩ fs_require_score) := vfn F_require_score sc_require_score l_require_score fv_require_score (d_require_score M (g_is_score.mono (by decide)))
  have g_require_score : Gd P w ⟨K, OpS K, fun _ => 0⟩ mg base 4 "require_score" fs_require_score ["score"] [] := ⟨_, _, He.glo_ok X G (c.fact 8 (f := .glo "require_score") rfl), F_require_score.kp, o_require_score, [], .nil, FunD.bindsN F_require_score fun _ _ _ _ _ _ us hl => match us, hl with | [_], _ => rfl⟩
  have o_require_time_to : FnOk P w K mg base (L2N.CX P w) 2 (He.fAd K ("require_time_to", none)) fd_require_time_to ["time", "last"] (lift ⟨K, OpS K, fun _ => 0⟩ fs_require_time_to) := vfn F_require_time_to sc_require_time_to l_require_time_to fv_require_time_to (d_require_time_to M (g_is_integer_0.mono (by decide)) (g_is_integer_1.mono (by decide)))
  have g_require_time_to : Gd P w ⟨K, OpS K, fun _ => 0⟩ mg base 2 "require_time_to" fs_require_time_to ["time", "last"] [] := ⟨_, _, He.glo_ok X G (c.fact 9 (f := .glo "require_time_to") rfl), F_require_time_to.kp, o_require_time_to, [], .nil, FunD.bindsN F_require_time_to fun _ _ _ _ _ _ us hl => match us, hl with | [_, _], _ => rfl⟩
  have o_bar_at : FnOk P w K mg base (L2N.CX P w) 5 (He.fAd K ("bar_at", none)) fd_bar_at ["score", "time"] (lift ⟨K, OpS K, fun _ => 0⟩ fs_bar_at) := vfn F_bar_at sc_bar_at l_bar_at fv_bar_at (d_bar_at M (g_arrival_times.mono (by decide)) (g_find_state.mono (by decide)) (g_require_score.mono (by decide)) (g_require_time_to.mono (by decide)))
  have g_bar_at : Gd P w ⟨K, OpS K, fun _ => 0⟩ mg base 5 "bar_at" fs_bar_at ["score", "time"] [] := ⟨_, _, He.glo_ok X G (c.fact 10 (f := .glo "bar_at") rfl), F_bar_at.kp, o_bar_at, [], .nil, FunD.bindsN F_bar_at fun _ _ _ _ _ _ us hl => match us, hl with | [_, _], _ => rfl⟩
  have o_item_containing : FnOk P w K mg base (L2N.CX P w) 1 (He.fAd K ("item_containing", none)) fd_item_containing ["sums", "amount"] (lift ⟨K, OpS K, fun _ => 0⟩ fs_item_containing) := vfn F_item_containing sc_item_containing l_item_containing fv_item_containing (d_item_containing M )
  have g_item_containing : Gd P w ⟨K, OpS K, fun _ => 0⟩ mg base 1 "item_containing" fs_item_containing ["sums", "amount"] [] := ⟨_, _, He.glo_ok X G (c.fact 11 (f := .glo "item_containing") rfl), F_item_containing.kp, o_item_containing, [], .nil, FunD.bindsN F_item_containing fun _ _ _ _ _ _ us hl => match us, hl with | [_, _], _ => rfl⟩
  have o_locate : FnOk P w K mg base (L2N.CX P w) 4 (He.fAd K ("locate", none)) fd_locate ["score", "sums", "amount"] (lift ⟨K, OpS K, fun _ => 0⟩ fs_locate) := vfn F_locate sc_locate l_locate fv_locate (d_locate M (g_arrival_times.mono (by decide)) (g_item_containing.mono (by decide)) (g_segment_starts.mono (by decide)))
  have g_locate : Gd P w ⟨K, OpS K, fun _ => 0⟩ mg base 4 "locate" fs_locate ["score", "sums", "amount"] [] := ⟨_, _, He.glo_ok X G (c.fact 12 (f := .glo "locate") rfl), F_locate.kp, o_locate, [], .nil, FunD.bindsN F_locate fun _ _ _ _ _ _ us hl => match us, hl with | [_, _, _], _ => rfl⟩
  have o_require_weights : FnOk P w K mg base (L2N.CX P w) 2 (He.fAd K ("require_weights", none)) fd_require_weights ["weights"] (lift ⟨K, OpS K, fun _ => 0⟩ fs_require_weights) := vfn F_require_weights sc_require_weights l_require_weights fv_require_weights (d_require_weights M (g_is_integer_0.mono (by decide)) (g_is_integer_1.mono (by decide)) (g_is_name.mono (by decide)))
  have g_require_weights : Gd P w ⟨K, OpS K, fun _ => 0⟩ mg base 2 "require_weights" fs_require_weights ["weights"] [] := ⟨_, _, He.glo_ok X G (c.fact 13 (f := .glo "require_weights") rfl), F_require_weights.kp, o_require_weights, [], .nil, FunD.bindsN F_require_weights fun _ _ _ _ _ _ us hl => match us, hl with | [_], _ => rfl⟩
  have o_accumulate : FnOk P w K mg base (L2N.CX P w) 3 (He.fAd K ("accumulate", none)) fd_accumulate ["score", "values"] (lift ⟨K, OpS K, fun _ => 0⟩ fs_accumulate) := vfn F_accumulate sc_accumulate l_accumulate fv_accumulate (d_accumulate M (g_segment_starts.mono (by decide)))
  have g_accumulate : Gd P w ⟨K, OpS K, fun _ => 0⟩ mg base 3 "accumulate" fs_accumulate ["score", "values"] [] := ⟨_, _, He.glo_ok X G (c.fact 14 (f := .glo "accumulate") rfl), F_accumulate.kp, o_accumulate, [], .nil, FunD.bindsN F_accumulate fun _ _ _ _ _ _ us hl => match us, hl with | [_, _], _ => rfl⟩
  have o_weight_sums : FnOk P w K mg base (L2N.CX P w) 4 (He.fAd K ("weight_sums", none)) fd_weight_sums ["score", "weights"] (lift ⟨K, OpS K, fun _ => 0⟩ fs_weight_sums) := vfn F_weight_sums sc_weight_sums l_weight_sums fv_weight_sums (d_weight_sums M (g_accumulate.mono (by decide)))
  have g_weight_sums : Gd P w ⟨K, OpS K, fun _ => 0⟩ mg base 4 "weight_sums" fs_weight_sums ["score", "weights"] [] := ⟨_, _, He.glo_ok X G (c.fact 15 (f := .glo "weight_sums") rfl), F_weight_sums.kp, o_weight_sums, [], .nil, FunD.bindsN F_weight_sums fun _ _ _ _ _ _ us hl => match us, hl with | [_, _], _ => rfl⟩
  have o_locate_weight : FnOk P w K mg base (L2N.CX P w) 5 (He.fAd K ("locate_weight", none)) fd_locate_weight ["score", "weights", "weight"] (lift ⟨K, OpS K, fun _ => 0⟩ fs_locate_weight) := vfn F_locate_weight sc_locate_weight l_locate_weight fv_locate_weight (d_locate_weight M (g_is_integer_0.mono (by decide)) (g_is_integer_1.mono (by decide)) (g_locate.mono (by decide)) (g_require_score.mono (by decide)) (g_require_weights.mono (by decide)) (g_weight_sums.mono (by decide)))
  have g_locate_weight : Gd P w ⟨K, OpS K, fun _ => 0⟩ mg base 5 "locate_weight" fs_locate_weight ["score", "weights", "weight"] [] := ⟨_, _, He.glo_ok X G (c.fact 16 (f := .glo "locate_weight") rfl), F_locate_weight.kp, o_locate_weight, [], .nil, FunD.bindsN F_locate_weight fun _ _ _ _ _ _ us hl => match us, hl with | [_, _, _], _ => rfl⟩
  have o_require_time : FnOk P w K mg base (L2N.CX P w) 4 (He.fAd K ("require_time", none)) fd_require_time ["score", "time"] (lift ⟨K, OpS K, fun _ => 0⟩ fs_require_time) := vfn F_require_time sc_require_time l_require_time fv_require_time (d_require_time M (g_arrival_times.mono (by decide)) (g_require_time_to.mono (by decide)))
  have g_require_time : Gd P w ⟨K, OpS K, fun _ => 0⟩ mg base 4 "require_time" fs_require_time ["score", "time"] [] := ⟨_, _, He.glo_ok X G (c.fact 17 (f := .glo "require_time") rfl), F_require_time.kp, o_require_time, [], .nil, FunD.bindsN F_require_time fun _ _ _ _ _ _ us hl => match us, hl with | [_, _], _ => rfl⟩
  have o_sum_before : FnOk P w K mg base (L2N.CX P w) 4 (He.fAd K ("sum_before", none)) fd_sum_before ["score", "sums", "time"] (lift ⟨K, OpS K, fun _ => 0⟩ fs_sum_before) := vfn F_sum_before sc_sum_before l_sum_before fv_sum_before (d_sum_before M (g_arrival_times.mono (by decide)) (g_item_containing.mono (by decide)) (g_segment_starts.mono (by decide)))
  have g_sum_before : Gd P w ⟨K, OpS K, fun _ => 0⟩ mg base 4 "sum_before" fs_sum_before ["score", "sums", "time"] [] := ⟨_, _, He.glo_ok X G (c.fact 18 (f := .glo "sum_before") rfl), F_sum_before.kp, o_sum_before, [], .nil, FunD.bindsN F_sum_before fun _ _ _ _ _ _ us hl => match us, hl with | [_, _, _], _ => rfl⟩
  have o_weight_before : FnOk P w K mg base (L2N.CX P w) 5 (He.fAd K ("weight_before", none)) fd_weight_before ["score", "weights", "time"] (lift ⟨K, OpS K, fun _ => 0⟩ fs_weight_before) := vfn F_weight_before sc_weight_before l_weight_before fv_weight_before (d_weight_before M (g_require_score.mono (by decide)) (g_require_time.mono (by decide)) (g_require_weights.mono (by decide)) (g_sum_before.mono (by decide)) (g_weight_sums.mono (by decide)))
  have g_weight_before : Gd P w ⟨K, OpS K, fun _ => 0⟩ mg base 5 "weight_before" fs_weight_before ["score", "weights", "time"] [] := ⟨_, _, He.glo_ok X G (c.fact 19 (f := .glo "weight_before") rfl), F_weight_before.kp, o_weight_before, [], .nil, FunD.bindsN F_weight_before fun _ _ _ _ _ _ us hl => match us, hl with | [_, _, _], _ => rfl⟩
  have o_law_back_right : FnOk P w K mg base (L2N.CX P w) 6 (He.fAd K ("_law_back_right", none)) fd_law_back_right ["_law_items", "_law_loads_here", "_law_amount"] (lift ⟨K, OpS K, fun _ => 0⟩ fs_law_back_right) := vfn F_law_back_right sc_law_back_right l_law_back_right fv_law_back_right (d_law_back_right M (g_bar_at.mono (by decide)) (g_locate_weight.mono (by decide)) (g_weight_before.mono (by decide)))
  have g_law_back_right : Gd P w ⟨K, OpS K, fun _ => 0⟩ mg base 6 "_law_back_right" fs_law_back_right ["_law_items", "_law_loads_here", "_law_amount"] [] := ⟨_, _, He.glo_ok X G (c.fact 20 (f := .glo "_law_back_right") rfl), F_law_back_right.kp, o_law_back_right, [], .nil, FunD.bindsN F_law_back_right fun _ _ _ _ _ _ us hl => match us, hl with | [_, _, _], _ => rfl⟩
  have o_law_bars : FnOk P w K mg base (L2N.CX P w) 1 (He.fAd K ("_law_bars", none)) fd_law_bars ["_law_items"] (lift ⟨K, OpS K, fun _ => 0⟩ fs_law_bars) := vfn F_law_bars sc_law_bars l_law_bars fv_law_bars (d_law_bars M )
  have g_law_bars : Gd P w ⟨K, OpS K, fun _ => 0⟩ mg base 1 "_law_bars" fs_law_bars ["_law_items"] [] := ⟨_, _, He.glo_ok X G (c.fact 21 (f := .glo "_law_bars") rfl), F_law_bars.kp, o_law_bars, [], .nil, FunD.bindsN F_law_bars fun _ _ _ _ _ _ us hl => match us, hl with | [_], _ => rfl⟩
  have o_law_draw : FnOk P w K mg base (L2N.CX P w) 1 (He.fAd K ("_law_draw", none)) fd_law_draw ["_law_stream_here", "_law_limit"] (lift ⟨K, OpS K, fun _ => 0⟩ fs_law_draw) := vfn F_law_draw sc_law_draw l_law_draw fv_law_draw (d_law_draw M )
  have g_law_draw : Gd P w ⟨K, OpS K, fun _ => 0⟩ mg base 1 "_law_draw" fs_law_draw ["_law_stream_here", "_law_limit"] [] := ⟨_, _, He.glo_ok X G (c.fact 22 (f := .glo "_law_draw") rfl), F_law_draw.kp, o_law_draw, [], .nil, FunD.bindsN F_law_draw fun _ _ _ _ _ _ us hl => match us, hl with | [_, _], _ => rfl⟩
  have o_law_loads : FnOk P w K mg base (L2N.CX P w) 2 (He.fAd K ("_law_loads", none)) fd_law_loads ["_law_stream_here", "_law_items"] (lift ⟨K, OpS K, fun _ => 0⟩ fs_law_loads) := vfn F_law_loads sc_law_loads l_law_loads fv_law_loads (d_law_loads M (g_law_draw.mono (by decide)))
  have g_law_loads : Gd P w ⟨K, OpS K, fun _ => 0⟩ mg base 2 "_law_loads" fs_law_loads ["_law_stream_here", "_law_items"] [] := ⟨_, _, He.glo_ok X G (c.fact 23 (f := .glo "_law_loads") rfl), F_law_loads.kp, o_law_loads, [], .nil, FunD.bindsN F_law_loads fun _ _ _ _ _ _ us hl => match us, hl with | [_, _], _ => rfl⟩
  have o_law_name : FnOk P w K mg base (L2N.CX P w) 2 (He.fAd K ("_law_name", none)) fd_law_name ["_law_stream_here", "_law_few"] (lift ⟨K, OpS K, fun _ => 0⟩ fs_law_name) := vfn F_law_name sc_law_name l_law_name fv_law_name (d_law_name M (g_law_draw.mono (by decide)))
  have g_law_name : Gd P w ⟨K, OpS K, fun _ => 0⟩ mg base 2 "_law_name" fs_law_name ["_law_stream_here", "_law_few"] [] := ⟨_, _, He.glo_ok X G (c.fact 24 (f := .glo "_law_name") rfl), F_law_name.kp, o_law_name, [], .nil, FunD.bindsN F_law_name fun _ _ _ _ _ _ us hl => match us, hl with | [_, _], _ => rfl⟩
  have o_law_score : FnOk P w K mg base (L2N.CX P w) 3 (He.fAd K ("_law_score", none)) fd_law_score ["_law_stream_here", "_law_most", "_law_cap"] (lift ⟨K, OpS K, fun _ => 0⟩ fs_law_score) := vfn F_law_score sc_law_score l_law_score fv_law_score (d_law_score M (g_law_draw.mono (by decide)) (g_law_name.mono (by decide)))
  have g_law_score : Gd P w ⟨K, OpS K, fun _ => 0⟩ mg base 3 "_law_score" fs_law_score ["_law_stream_here", "_law_most", "_law_cap"] [] := ⟨_, _, He.glo_ok X G (c.fact 25 (f := .glo "_law_score") rfl), F_law_score.kp, o_law_score, [], .nil, FunD.bindsN F_law_score fun _ _ _ _ _ _ us hl => match us, hl with | [_, _, _], _ => rfl⟩
  have o_law_stream : FnOk P w K mg base (L2N.CX P w) 1 (He.fAd K ("_law_stream", none)) fd_law_stream ["_law_script", "_law_k"] (lift ⟨K, OpS K, fun _ => 0⟩ fs_law_stream) := vfn F_law_stream sc_law_stream l_law_stream fv_law_stream (d_law_stream M )
  have g_law_stream : Gd P w ⟨K, OpS K, fun _ => 0⟩ mg base 1 "_law_stream" fs_law_stream ["_law_script", "_law_k"] [] := ⟨_, _, He.glo_ok X G (c.fact 26 (f := .glo "_law_stream") rfl), F_law_stream.kp, o_law_stream, [], .nil, FunD.bindsN F_law_stream fun _ _ _ _ _ _ us hl => match us, hl with | [_, _], _ => rfl⟩
  have o_indicator : FnOk P w K mg base (L2N.CX P w) 1 (He.fAd K ("indicator", none)) fd_indicator ["score", "bar"] (lift ⟨K, OpS K, fun _ => 0⟩ fs_indicator) := vfn F_indicator sc_indicator l_indicator fv_indicator (d_indicator M )
  have g_indicator : Gd P w ⟨K, OpS K, fun _ => 0⟩ mg base 1 "indicator" fs_indicator ["score", "bar"] [] := ⟨_, _, He.glo_ok X G (c.fact 27 (f := .glo "indicator") rfl), F_indicator.kp, o_indicator, [], .nil, FunD.bindsN F_indicator fun _ _ _ _ _ _ us hl => match us, hl with | [_, _], _ => rfl⟩
  have o_require_bar : FnOk P w K mg base (L2N.CX P w) 2 (He.fAd K ("require_bar", none)) fd_require_bar ["score", "bar"] (lift ⟨K, OpS K, fun _ => 0⟩ fs_require_bar) := vfn F_require_bar sc_require_bar l_require_bar fv_require_bar (d_require_bar M (g_is_integer_0.mono (by decide)) (g_is_integer_1.mono (by decide)))
  have g_require_bar : Gd P w ⟨K, OpS K, fun _ => 0⟩ mg base 2 "require_bar" fs_require_bar ["score", "bar"] [] := ⟨_, _, He.glo_ok X G (c.fact 28 (f := .glo "require_bar") rfl), F_require_bar.kp, o_require_bar, [], .nil, FunD.bindsN F_require_bar fun _ _ _ _ _ _ us hl => match us, hl with | [_, _], _ => rfl⟩
  have o_plays_before : FnOk P w K mg base (L2N.CX P w) 5 (He.fAd K ("plays_before", none)) fd_plays_before ["score", "bar", "time"] (lift ⟨K, OpS K, fun _ => 0⟩ fs_plays_before) := vfn F_plays_before sc_plays_before l_plays_before fv_plays_before (d_plays_before M (g_accumulate.mono (by decide)) (g_indicator.mono (by decide)) (g_require_bar.mono (by decide)) (g_require_score.mono (by decide)) (g_require_time.mono (by decide)) (g_sum_before.mono (by decide)))
  have g_plays_before : Gd P w ⟨K, OpS K, fun _ => 0⟩ mg base 5 "plays_before" fs_plays_before ["score", "bar", "time"] [] := ⟨_, _, He.glo_ok X G (c.fact 29 (f := .glo "plays_before") rfl), F_plays_before.kp, o_plays_before, [], .nil, FunD.bindsN F_plays_before fun _ _ _ _ _ _ us hl => match us, hl with | [_, _, _], _ => rfl⟩
  have o_law_sums_right : FnOk P w K mg base (L2N.CX P w) 6 (He.fAd K ("_law_sums_right", none)) fd_law_sums_right ["_law_items", "_law_loads_here", "_law_at"] (lift ⟨K, OpS K, fun _ => 0⟩ fs_law_sums_right) := vfn F_law_sums_right sc_law_sums_right l_law_sums_right fv_law_sums_right (d_law_sums_right M (g_law_bars.mono (by decide)) (g_plays_before.mono (by decide)) (g_weight_before.mono (by decide)))
  have g_law_sums_right : Gd P w ⟨K, OpS K, fun _ => 0⟩ mg base 6 "_law_sums_right" fs_law_sums_right ["_law_items", "_law_loads_here", "_law_at"] [] := ⟨_, _, He.glo_ok X G (c.fact 30 (f := .glo "_law_sums_right") rfl), F_law_sums_right.kp, o_law_sums_right, [], .nil, FunD.bindsN F_law_sums_right fun _ _ _ _ _ _ us hl => match us, hl with | [_, _, _], _ => rfl⟩
  have o_count_visits : FnOk P w K mg base (L2N.CX P w) 1 (He.fAd K ("count_visits", none)) fd_count_visits ["score"] (lift ⟨K, OpS K, fun _ => 0⟩ fs_count_visits) := vfn F_count_visits sc_count_visits l_count_visits fv_count_visits (d_count_visits M )
  have g_count_visits : Gd P w ⟨K, OpS K, fun _ => 0⟩ mg base 1 "count_visits" fs_count_visits ["score"] [] := ⟨_, _, He.glo_ok X G (c.fact 31 (f := .glo "count_visits") rfl), F_count_visits.kp, o_count_visits, [], .nil, FunD.bindsN F_count_visits fun _ _ _ _ _ _ us hl => match us, hl with | [_], _ => rfl⟩
  have o_play_count : FnOk P w K mg base (L2N.CX P w) 5 (He.fAd K ("play_count", none)) fd_play_count ["score", "bar"] (lift ⟨K, OpS K, fun _ => 0⟩ fs_play_count) := vfn F_play_count sc_play_count l_play_count fv_play_count (d_play_count M (g_count_visits.mono (by decide)) (g_require_bar.mono (by decide)) (g_require_score.mono (by decide)))
  have g_play_count : Gd P w ⟨K, OpS K, fun _ => 0⟩ mg base 5 "play_count" fs_play_count ["score", "bar"] [] := ⟨_, _, He.glo_ok X G (c.fact 32 (f := .glo "play_count") rfl), F_play_count.kp, o_play_count, [], .nil, FunD.bindsN F_play_count fun _ _ _ _ _ _ us hl => match us, hl with | [_, _], _ => rfl⟩
  have o_length_of : FnOk P w K mg base (L2N.CX P w) 4 (He.fAd K ("length_of", none)) fd_length_of ["score"] (lift ⟨K, OpS K, fun _ => 0⟩ fs_length_of) := vfn F_length_of sc_length_of l_length_of fv_length_of (d_length_of M (g_arrival_times.mono (by decide)))
  have g_length_of : Gd P w ⟨K, OpS K, fun _ => 0⟩ mg base 4 "length_of" fs_length_of ["score"] [] := ⟨_, _, He.glo_ok X G (c.fact 33 (f := .glo "length_of") rfl), F_length_of.kp, o_length_of, [], .nil, FunD.bindsN F_length_of fun _ _ _ _ _ _ us hl => match us, hl with | [_], _ => rfl⟩
  have o_total_length : FnOk P w K mg base (L2N.CX P w) 5 (He.fAd K ("total_length", none)) fd_total_length ["score"] (lift ⟨K, OpS K, fun _ => 0⟩ fs_total_length) := vfn F_total_length sc_total_length l_total_length fv_total_length (d_total_length M (g_length_of.mono (by decide)) (g_require_score.mono (by decide)))
  have g_total_length : Gd P w ⟨K, OpS K, fun _ => 0⟩ mg base 5 "total_length" fs_total_length ["score"] [] := ⟨_, _, He.glo_ok X G (c.fact 34 (f := .glo "total_length") rfl), F_total_length.kp, o_total_length, [], .nil, FunD.bindsN F_total_length fun _ _ _ _ _ _ us hl => match us, hl with | [_], _ => rfl⟩
  have o_total_weight : FnOk P w K mg base (L2N.CX P w) 5 (He.fAd K ("total_weight", none)) fd_total_weight ["score", "weights"] (lift ⟨K, OpS K, fun _ => 0⟩ fs_total_weight) := vfn F_total_weight sc_total_weight l_total_weight fv_total_weight (d_total_weight M (g_require_score.mono (by decide)) (g_require_weights.mono (by decide)) (g_weight_sums.mono (by decide)))
  have g_total_weight : Gd P w ⟨K, OpS K, fun _ => 0⟩ mg base 5 "total_weight" fs_total_weight ["score", "weights"] [] := ⟨_, _, He.glo_ok X G (c.fact 35 (f := .glo "total_weight") rfl), F_total_weight.kp, o_total_weight, [], .nil, FunD.bindsN F_total_weight fun _ _ _ _ _ _ us hl => match us, hl with | [_, _], _ => rfl⟩
  exact fun s H args us vs Q E hr e0 hbd r hsp => law_run F_law sc_law fv_law (d_law M (g_law_back_right.mono (by decide)) (g_law_bars.mono (by decide)) (g_law_draw.mono (by decide)) (g_law_loads.mono (by decide)) (g_law_score.mono (by decide)) (g_law_stream.mono (by decide)) (g_law_sums_right.mono (by decide)) (g_play_count.mono (by decide)) (g_total_length.mono (by decide)) (g_total_weight.mono (by decide)) (g_weight_before.mono (by decide))) s H args us vs Q E hr e0 hbd r hsp
end K39
open PySem PySem.W PySem.Calls PyProof.Rows
theorem PySem.Challenge.cw_wornsigns_k39_whole_weights_and_counts_holds : PySem.Challenge.rw_wornsigns_k39_whole_weights_and_counts.Holds := by
  w_on; o_law
  refine HandSHeadRun.head_any (r := OpenLaw.row PySem.Challenge.rw_wornsigns_k39_whole_weights_and_counts) (q := view (OpenLaw.row PySem.Challenge.rw_wornsigns_k39_whole_weights_and_counts).prog [55]) (H := K39.hk) (ob := K39.ob) (M := 4000) (loose := K39.loose) (d := HandSHeadRun.topDef (OpenLaw.row PySem.Challenge.rw_wornsigns_k39_whole_weights_and_counts).prog 55) (kwd := []) K39.ob_eq
    (by kernel_rfl) (fun s => by kernel_rfl) K39.run (by kernel_rfl) (by kernel_rfl) (by kernel_rfl) (by rfl) (by first | assumption | decide +kernel) (by decide +kernel) ⟨rfl, rfl, rfl, rfl, rfl, by decide +kernel⟩ ?hw ?hc
  case hw => w_witness2
  case hc =>
    refine VL.walk_law (l := PySem.Challenge.rw_wornsigns_k39_whole_weights_and_counts) (k := 7) (y := "_law_script") rfl (by kernel_rfl) ⟨rfl, by decide, by decide⟩ ?F
    intro w mg fa h Y G hmg0
    obtain ⟨K, KX, c⟩ := Y
    have hmg : mg ("law" : PySem.Str) = some (.ref fa) := by
      have e : (HandSHeadRun.topDef (OpenLaw.row PySem.Challenge.rw_wornsigns_k39_whole_weights_and_counts).prog 55).name = ("law" : PySem.Str) := by kernel_rfl
      rw [← e]
      exact hmg0
    obtain ⟨fd, hb, hF⟩ := K39.facts (P := (PySem.Challenge.rw_wornsigns_k39_whole_weights_and_counts).prog) (w := w) KX G hmg c
    exact ⟨K, fd, KX, hb, hF⟩
